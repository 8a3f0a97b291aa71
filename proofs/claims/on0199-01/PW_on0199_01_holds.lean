import PyProof.Rows.All
import Wide.All
import OpenK.AllK
import Wide.FinOn
import PySem.Challenge.RW_on0199_01
open PySem PySem.W PyProof.Rows PySem.Calls PySem.Spec
set_option Elab.async false
set_option linter.all false
set_option tactic.hygienic false
set_option maxRecDepth 100000
set_option genInjectivity false
set_option genSizeOf false
namespace Mine
theorem a8 {α:Type} {a:α} {P:Prop} (e:none=some a):P:=nomatch e
theorem c5 {α:Type} {a:α} {P:Prop} (e:some a=none):P:=a8 e.symm
theorem iZ {P:Prop} (e:false=true):P:=absurd e Bool.false_ne_true
theorem both {α:Type} {x:Option α} {a b:α} (e:x=some a) (f:x=some b):a=b:=Option.some.inj (e.symm.trans f)
theorem bQ {α:Type} {x:Option α} {a:α} {P:Prop} (e:x=some a) (f:x=none):P:=c5 (e.symm.trans f)
inductive Val where
 | none
 | bool (b:Bool)
 | int (i:Int)
 | str (s:Str)
 | xG (n:Int)
 | tup (l:List Val)
 | ref (a:Addr)
 deriving Inhabited
inductive MO where
 | list (l:List Val)
 | ro (l:List Val)
 | ax (es:List (Str×Val)) (ep:Nat)
 | cz (es:List (Int×Val)) (ep:Nat)
 | inst (C:Str) (fs:List (Str×Val))
 deriving Inhabited
noncomputable def MO.owned:MO→Bool
 | .ro _=>false
 | _=>true
noncomputable abbrev MH:=Addr→Option MO
noncomputable def MH.set (mh:MH) (a:Addr) (o:MO):MH:=fun b=>if b=a then some o else mh b
theorem MH.set_same (mh:MH) (a:Addr) (o:MO):mh.set a o a=some o:=if_pos rfl
theorem MH.ae (mh:MH) {a b:Addr} (o:MO) (h:b≠a):mh.set a o b=mh b:=if_neg h
mutual
noncomputable def VR (h:Heap):Val→Value→Prop
 | .none,u=>u= .none
 | .bool b,u=>u= .bool b
 | .int i,u=>∃t,u= .int i t
 | .str s,u=>∃t,u= .str s t
 | .xG n,u=>∃a t v x,u= .ref a∧IsRange h a 0 n 1 t v x
 | .tup l,u=>∃a items,u= .ref a∧IsTup h a items∧cX h l items.toList
 | .ref a,u=>u= .ref a
noncomputable def cX (h:Heap):List Val→List Value→Prop
 | [],us=>us=[]
 | v::l,us=>∃u r,us=u::r∧VR h v u∧cX h l r
end
def ET (o:Obj):Prop:=(o.cls= .type "tuple"∧∃xs n,o.data= .seq xs n)∨(o.cls= .type "range"∧∃vs,o.data= .fields vs)
def cR (h h':Heap):Prop:=∀a o,h.get? a=some o→ET o→h'.get? a=some o
theorem cR.refl (h:Heap):cR h h:=fun zz zz e zz=>e
theorem cR.trans {dT Hn VT:Heap} (x:cR dT Hn) (y:cR Hn VT):cR dT VT:=fun a o e k=>y a o (x a o e k) k
theorem cR.q5 {h h':Heap} (k:∀b o,h.get? b=some o→h'.get? b=some o):cR h h':=fun a o e zz=>k a o e
theorem cR.push (h:Heap) (o:Obj):cR h (h.push o):=.q5 fun zz zz e=>Heap.get?_push_of_some o e
theorem cR.but {h h':Heap} {a:Addr} {o:Obj} (e:h.get? a=some o) (n:¬ET o) (x:Heap.ExtBut a h h'):cR h h':=fun b o' e' k=>by
 by_cases hb:b=a
 ·subst hb;rw [e] at e';obtain rfl:=Option.some.inj e';exact absurd k n
 ·exact x b o' hb e'
theorem bD {o:Obj} {es ep} (h:o.data= .dict es ep):¬ET o:=by
 rintro (⟨_,_,_,e⟩ | ⟨_,_,e⟩)<;>rw [h] at e<;>cases e
theorem sR {o:Obj} {v} (h:o.data= .cell v):¬ET o:=by
 rintro (⟨_,_,_,e⟩ | ⟨_,_,e⟩)<;>rw [h] at e<;>cases e
theorem da {o:Obj} {T:String} (h:o.cls= .type T) (n1:T≠"tuple") (n2:T≠"range"):¬ET o:=by
 rintro (⟨e,_⟩ | ⟨e,_⟩)<;>rw [h] at e<;>injection e with e
 ·exact n1 e
 ·exact n2 e
theorem E3 {o:Obj} {C:Addr} (h:o.cls= .ref C):¬ET o:=by
 rintro (⟨e,_⟩ | ⟨e,_⟩)<;>rw [h] at e<;>cases e
theorem VR.keep {h h':Heap} (k:cR h h') {v:Val}:∀{u:Value},VR h v u→VR h' v u:=
 Val.rec (motive_1:=fun v=>∀{u:Value},VR h v u→VR h' v u) (motive_2:=fun l=>∀{us:List Value},cX h l us→cX h' l us) id (fun zz=>id) (fun zz=>id) (fun zz=>id)
  (fun zz=>by rintro _ ⟨a,t,v,y,e,r⟩;exact ⟨a,t,v,y,e,k _ _ r (.inr ⟨rfl,_,rfl⟩)⟩)
  (fun zz ih=>by rintro _ ⟨a,items,e,⟨o,ho,hc,n,hd⟩,vs⟩;exact ⟨a,items,e,⟨o,k _ _ ho (.inl ⟨hc,_,_,hd⟩),hc,n,hd⟩,ih vs⟩)
  (fun zz=>id) id (fun zz zz ih il=>by rintro _ ⟨u,r,e,x,y⟩;exact ⟨u,r,e,ih x,il y⟩) v
theorem cX.keep {h h':Heap} (k:cR h h') {l:List Val}:∀{us:List Value},cX h l us→cX h' l us:=by
 induction l with
 | nil=>exact id
 | cons v l ih=>rintro _ ⟨u,r,e,x,y⟩;exact ⟨u,r,e,x.keep k,ih y⟩
theorem cX.nil {h:Heap}:cX h [] []:=rfl
theorem cX.cons {h:Heap} {v:Val} {u:Value} {l:List Val} {us:List Value} (x:VR h v u) (y:cX h l us):cX h (v::l) (u::us):=⟨u,us,rfl,x,y⟩
theorem cX.length {h:Heap} {l:List Val}:∀{us:List Value},cX h l us→us.length=l.length:=by
 induction l with
 | nil=>rintro _ rfl;rfl
 | cons v l ih=>rintro _ ⟨u,r,rfl,x,y⟩;exact congrArg Nat.succ (ih y)
theorem cX.app {h:Heap} {l:List Val} {l' VU} (y:cX h l' VU):∀{us:List Value},cX h l us→cX h (l++l') (us++VU):=by
 induction l with
 | nil=>rintro _ rfl;exact y
 | cons v l ih=>rintro _ ⟨u,r,rfl,x,z⟩;exact ⟨u,_,rfl,x,ih z⟩
theorem cX.append {h:Heap} {l:List Val} {us:List Value} {l' VU} (x:cX h l us) (y:cX h l' VU):cX h (l++l') (us++VU):=cX.app y x
theorem cX.get {h:Heap} {l:List Val}:∀{us:List Value} {i:Nat} {v:Val},cX h l us→l[i]? =some v→∃u,us[i]? =some u∧VR h v u:=by
 induction l with
 | nil=>intro us i v x hv;exact a8 hv
 | cons v l ih=>
   rintro _ (_ | i) w ⟨u,r,rfl,x,z⟩ hv
   ·obtain rfl:=Option.some.inj hv;exact ⟨u,rfl,x⟩
   ·exact ih (i:=i) z hv
theorem cX.take {h:Heap} {l:List Val}:∀{us:List Value} (n:Nat),cX h l us→cX h (l.take n) (us.take n):=by
 induction l with
 | nil=>rintro _ n rfl;cases n<;>rfl
 | cons v l ih=>
   rintro _ (_ | n) ⟨u,r,rfl,x,z⟩
   ·rfl
   ·exact ⟨u,_,rfl,x,ih n z⟩
theorem cX.drop {h:Heap} {l:List Val}:∀{us:List Value} (n:Nat),cX h l us→cX h (l.drop n) (us.drop n):=by
 induction l with
 | nil=>rintro _ n rfl;cases n<;>rfl
 | cons v l ih=>
   rintro _ (_ | n) ⟨u,r,rfl,x,z⟩
   ·exact ⟨u,r,rfl,x,z⟩
   ·exact ih n z
theorem cX.reverse {h:Heap} {l:List Val}:∀{us:List Value},cX h l us→cX h l.reverse us.reverse:=by
 induction l with
 | nil=>rintro _ rfl;rfl
 | cons v l ih=>rintro _ ⟨u,r,rfl,x,z⟩;rw [List.reverse_cons,List.reverse_cons];exact cX.app (.cons x .nil) (ih z)
theorem cX.of_get {h:Heap} {l:List Val}:∀{us:List Value},us.length=l.length→(∀(i:Nat) v u,l[i]? =some v→us[i]? =some u→VR h v u)→cX h l us:=by
 induction l with
 | nil=>intro us e x;exact List.length_eq_zero_iff.mp e
 | cons v l ih=>
   rintro (_ | ⟨u,us⟩) e x
   ·cases e
   ·exact ⟨u,us,rfl,x 0 v u rfl rfl,ih (Nat.succ.inj e) fun i=>x (i+1)⟩
theorem cX.set {h:Heap} {l:List Val}:∀{us:List Value} (n:Nat) {v:Val} {u:Value},cX h l us→VR h v u→cX h (l.set n v) (us.set n u):=by
 induction l with
 | nil=>rintro _ n v u rfl y;rfl
 | cons v l ih=>
   rintro _ (_ | n) w z ⟨u,r,rfl,x,q⟩ y
   ·exact ⟨_,_,rfl,y,q⟩
   ·exact ⟨_,_,rfl,x,ih n q y⟩
structure Cfg where
 prog:Program
 w:World
 h₀:Heap
 K:Frag
 mg:Str→Option Value
 mb:Str→Option Value
noncomputable def Cfg.ca (c:Cfg) (C:Str):Addr:=match nsIn c.K mainGlobals C with
 | some (some (.ref a))=>a
 | _=>0
noncomputable def Ho:List (Str×List Str):=[("Tree",["rows"]),("NodeRow",["kind","name","uri","local","value","parent","children","attributes","namespaces"]),("Dtd",["root","elements","attributes","notations"]),
 ("AttributeRule",["kind","choices","mode","value"]),("Automaton",["names","follow","is_nullable","first","last"]),("Checker",["tree","dtd","automata","taken"])]
noncomputable def fW (C:Str):List Str:=(Ho.lookup C).getD []
noncomputable def xH (K:Frag) (C:Addr) (x:Str):Bool:=plainGet K C x&&hasDictIn K C&&(findIn K (.ref C) x == some none)&&
 (findIn K (.ref C) "__setattr__" == some (some (.builtin "object.__setattr__")))&&plainOver K C&&(takerIn K C x == some none)
noncomputable abbrev eZ:List Str:=["len","int","max","range","tuple","list","ord","dict","set","sorted"]
structure Cfg.Ok (c:Cfg):Prop where
 X:c.K.In c.h₀
 g:c.h₀.Ns mainGlobals c.mg
 b:c.h₀.Ns builtinsNs c.mb
 boot:∀x:Str,x≠"__name__"→c.mb x=bootBuiltins x
 nolimit:c.h₀.NoLimit
 seer:c.h₀.NoSeer
 tree:c.prog.given.tree=none
 bi:∀f∈eZ,nsIn c.K mainGlobals f=some none
 VV:∀C x,(fW C).contains x=true→xH c.K (c.ca C) x=true
noncomputable def Mh (h:Heap):List (Str×Val)→List DictEntry→Prop
 | [],es=>es=[]
 | (x,v)::l,es=>∃hs t u r,es=⟨hs,.str x t,u⟩::r∧VR h v u∧Mh h l r
theorem Mh.keep {h h':Heap} (k:cR h h') {l}:∀{es},Mh h l es→Mh h' l es:=by
 induction l with
 | nil=>exact id
 | cons p l ih=>rintro _ ⟨hs,t,u,r,e,x,y⟩;exact ⟨hs,t,u,r,e,x.keep k,ih y⟩
noncomputable def wQ {α:Type} (h:Heap):List (α×Val)→List (α×Value)→Prop
 | [],es=>es=[]
 | (x,v)::l,es=>∃u r,es=(x,u)::r∧VR h v u∧wQ h l r
theorem wQ.keep {α:Type} {h h':Heap} (k:cR h h') {l:List (α×Val)}:∀{es},wQ h l es→wQ h' l es:=by
 induction l with
 | nil=>exact id
 | cons p l ih=>rintro _ ⟨u,r,e,x,y⟩;exact ⟨u,r,e,x.keep k,ih y⟩
def uL (c:Cfg) (D:Addr→Addr) (h:Heap) (a:Addr):MO→Prop
 | .list l=>∃items n,h.get? a=some (PySem.W.listOf items n)∧cX h l items.toList
 | .ro l=>∃items,h.IsList a items∧cX h l items.toList
 | .ax es ep=>∃cW,h.DictAt (PySem.strKind c.prog c.w) a cW ep∧wQ h es cW
 | .cz es ep=>∃cW,h.DictAt (PySem.intKind c.prog c.w) a cW ep∧wQ h es cW
 | .inst C fs=>h.get? a=some (instObj (c.ca C) (D a))∧∃es n,h.get? (D a)=some (dictOf es n)∧Mh h fs es
def In (D:Addr→Addr) (mh:MH) (a:Addr):Prop:=(∃o,mh a=some o)∨∃b C fs,mh b=some (.inst C fs)∧D b=a
structure Rel (c:Cfg) (D:Addr→Addr) (mh:MH) (h:Heap):Prop where
 obj:∀a o,mh a=some o→uL c D h a o
 apart:∀b C fs,mh b=some (.inst C fs)→mh (D b)=none∧c.h₀.get? (D b)=none∧∀b' C' B7,mh b'=some (.inst C' B7)→D b=D b'→b=b'
 base:∀a o,mh a=some o→o.owned=true→c.h₀.get? a=none
 old:∀a o,c.h₀.get? a=some o→h.get? a=some o
theorem Heap.gE {K:Type} [DecidableEq K] {prog:Program} {w:World} {knd:PySem.KeyKind prog w K} {h:Heap} {a cW ep} (x:h.DictAt knd a cW ep):∃o,h.get? a=some o∧¬ET o:=
by obtain ⟨o,_,ho,_,hd,_⟩:=x;exact ⟨o,ho,bD hd⟩
theorem uL.alive {c:Cfg} {D:Addr→Addr} {h:Heap} {a:Addr} {o:MO} (x:uL c D h a o):∃ob,h.get? a=some ob∧¬ET ob:=by
 cases o with
 | list=>obtain ⟨_,_,e,_⟩:=x;exact ⟨_,e,da rfl (by decide) (by decide)⟩
 | ro=>obtain ⟨_,⟨o,e,hc,_⟩,_⟩:=x;exact ⟨_,e,da hc (by decide) (by decide)⟩
 | ax=>obtain ⟨_,x,_⟩:=x;exact Heap.gE x
 | cz=>obtain ⟨_,x,_⟩:=x;exact Heap.gE x
 | inst=>exact ⟨_,x.1,E3 rfl⟩
theorem uL.Ms {c:Cfg} {D:Addr→Addr} {h:Heap} {a:Addr} {C:Str} {fs} (x:uL c D h a (.inst C fs)):∃ob,h.get? (D a)=some ob∧¬ET ob:=
by obtain ⟨_,_,_,e,_⟩:=x;exact ⟨_,e,bD rfl⟩
theorem Rel.alive {c:Cfg} {D:Addr→Addr} {mh:MH} {h:Heap} {a:Addr} (R:Rel c D mh h) (i:In D mh a):∃ob,h.get? a=some ob∧¬ET ob:=by
 rcases i with ⟨o,e⟩ | ⟨b,C,fs,e,rfl⟩
 ·exact (R.obj a o e).alive
 ·exact (R.obj b _ e).Ms
theorem Rel.vkeep {c:Cfg} {D:Addr→Addr} {mh:MH} {h h':Heap} {X:Addr→Prop} (R:Rel c D mh h) (hx:∀a,X a→∃ob,h.get? a=some ob∧¬ET ob)
 (k:∀a o,h.get? a=some o→¬In D mh a→¬X a→h'.get? a=some o):cR h h':=fun a o e im=>by
 refine k a o e (fun i=>?_) (fun x=>?_)
 ·obtain ⟨ob,e',n⟩:=R.alive i
  rw [e] at e';obtain rfl:=Option.some.inj e';exact n im
 ·obtain ⟨ob,e',n⟩:=hx a x
  rw [e] at e';obtain rfl:=Option.some.inj e';exact n im
theorem uL.keep {c:Cfg} {D:Addr→Addr} {h h':Heap} {a:Addr} (k:cR h h') {o:MO} (x:uL c D h a o) (ka:∀ob,h.get? a=some ob→h'.get? a=some ob)
 (kd:∀C fs ob,o= .inst C fs→h.get? (D a)=some ob→h'.get? (D a)=some ob):uL c D h' a o:=by
 cases o with
 | list=>obtain ⟨items,n,e,x⟩:=x;exact ⟨items,n,ka _ e,x.keep k⟩
 | ro=>obtain ⟨items,⟨o,e,r⟩,x⟩:=x;exact ⟨items,⟨o,ka _ e,r⟩,x.keep k⟩
 | ax=>obtain ⟨cW,x,y⟩:=x;exact ⟨cW,x.at' ka,y.keep k⟩
 | cz=>obtain ⟨cW,x,y⟩:=x;exact ⟨cW,x.at' ka,y.keep k⟩
 | inst=>obtain ⟨e,es,n,e',x⟩:=x;exact ⟨ka _ e,es,n,kd _ _ _ rfl e',x.keep k⟩
theorem Rel.ext {c:Cfg} {D:Addr→Addr} {mh:MH} {h h':Heap} (R:Rel c D mh h) (k:∀b o,h.get? b=some o→h'.get? b=some o):Rel c D mh h':=
 ⟨fun a o e=>(R.obj a o e).keep (.q5 k) (fun zz e'=>k _ _ e') (fun zz zz zz zz e'=>k _ _ e'),R.apart,R.base,fun a o e=>k a o (R.old a o e)⟩
theorem Rel.but {c:Cfg} {D:Addr→Addr} {mh:MH} {h h':Heap} {a:Addr} {oa:Obj} (R:Rel c D mh h) (ha:h.get? a=some oa) (hi:¬ET oa) (n:¬In D mh a) (hb:c.h₀.get? a=none) (x:Heap.ExtBut a h h'):Rel c D mh h':=
 ⟨fun b o e=>(R.obj b o e).keep (.but ha hi x) (fun zz e'=>x _ _ (fun q=>n (q▸ .inl ⟨_,e⟩)) e') (fun zz zz zz eo e'=>x _ _ (fun q=>n (q▸ .inr ⟨b,_,_,eo▸e,rfl⟩)) e'),R.apart,R.base,
  fun b o e=>x b o (fun q=>by subst q;exact bQ e hb) (R.old b o e)⟩
structure a9 (c:Cfg) (X:Addr→Prop) (D:Addr→Addr) (mh:MH) (s:Shared) (D':Addr→Addr) (aD:MH) (s':Shared):Prop where
 st:∃h' t' dr,s'={ s with heap:=h',toks:=t',drawn:=dr }
 rel:Rel c D' aD s'.heap
 keep:∀a o,s.heap.get? a=some o→¬In D mh a→¬X a→s'.heap.get? a=some o
 own:∀a,In D' aD a→In D mh a∨s.heap.get? a=none
 vk:cR s.heap s'.heap
noncomputable abbrev aV (c:Cfg):=a9 c fun zz=>False
theorem a9.refl {c:Cfg} {X D mh} {s:Shared} (R:Rel c D mh s.heap):a9 c X D mh s D mh s:=⟨⟨_,_,_,rfl⟩,R,fun zz zz e zz zz=>e,fun zz i=>.inl i,.refl _⟩
theorem a9.ey {c:Cfg} {X D mh s aK av s₁ cA a6 bp} (p:a9 c X D mh s aK av s₁) (q:a9 c X aK av s₁ cA a6 bp) (hl:∀a,X a→∃o,s₁.heap.get? a=some o):a9 c X D mh s cA a6 bp:=by
 refine ⟨?_,q.rel,fun a o e n x=>?_,fun a i=>?_,p.vk.trans q.vk⟩
 ·obtain ⟨h1,t1,d1,rfl⟩:=p.st
  obtain ⟨h2,t2,d2,rfl⟩:=q.st
  exact ⟨h2,t2,d2,rfl⟩
 ·refine q.keep a o (p.keep a o e n x) (fun i=>?_) x
  rcases p.own a i with i | i
  ·exact n i
  ·exact bQ e i
 ·rcases q.own a i with i | i
  ·exact p.own a i
  ·cases e:s.heap.get? a with
   | none=>exact .inr rfl
   | some o=>
     left
     by_cases n:In D mh a
     ·exact n
     ·exfalso
      by_cases x:X a
      ·obtain ⟨o',e'⟩:=hl a x
       rw [i] at e';exact a8 e'
      ·have:=p.keep a o e n x
       exact bQ this i
theorem a9.trans {c:Cfg} {D mh s aK av s₁ cA a6 bp} (p:aV c D mh s aK av s₁) (q:aV c aK av s₁ cA a6 bp):aV c D mh s cA a6 bp:=p.ey q fun zz x=>x.elim
theorem a9.hide {c:Cfg} {X Y:Addr→Prop} {D mh s aK av s₁} (p:a9 c X D mh s aK av s₁) (h:∀a,X a→Y a∨s.heap.get? a=none):a9 c Y D mh s aK av s₁:=
 ⟨p.st,p.rel,fun a o e n x=>p.keep a o e n fun y=>(h a y).elim x fun q=>(by exact bQ e q),p.own,p.vk⟩
theorem a9.mono {c:Cfg} {X Y:Addr→Prop} {D mh s aK av s₁} (p:a9 c X D mh s aK av s₁) (h:∀a,X a→Y a):a9 c Y D mh s aK av s₁:=
 ⟨p.st,p.rel,fun a o e n x=>p.keep a o e n fun y=>x (h a y),p.own,p.vk⟩
theorem a9.old {c:Cfg} {X D mh s aK av s₁} (p:a9 c X D mh s aK av s₁):∀a o,c.h₀.get? a=some o→s₁.heap.get? a=some o:=p.rel.old
theorem aV.ext {c:Cfg} {X D mh} {s:Shared} {h':Heap} {t':Nat} (R:Rel c D mh s.heap) (k:∀b o,s.heap.get? b=some o→h'.get? b=some o):a9 c X D mh s D mh { s with heap:=h',toks:=t' }:=
 ⟨⟨_,_,_,rfl⟩,R.ext k,fun a o e zz zz=>k a o e,fun zz i=>.inl i,.q5 k⟩
theorem aV.push {c:Cfg} {X D mh} {s:Shared} {o:Obj} {t':Nat} (R:Rel c D mh s.heap):a9 c X D mh s D mh { s with heap:=s.heap.push o,toks:=t' }:=
 aV.ext R fun zz zz e=>Heap.get?_push_of_some _ e
theorem aV.but {c:Cfg} {X:Addr→Prop} {D mh} {s:Shared} {h':Heap} {t':Nat} {a:Addr} {oa:Obj} (R:Rel c D mh s.heap) (ha:s.heap.get? a=some oa) (hi:¬ET oa) (n:¬In D mh a) (hb:c.h₀.get? a=none) (hx:X a) (x:Heap.ExtBut a s.heap h'):
 a9 c X D mh s D mh { s with heap:=h',toks:=t' }:=
 ⟨⟨_,_,_,rfl⟩,R.but ha hi n hb x,fun b o e zz y=>x b o (fun q=>y (q▸hx)) e,fun zz i=>.inl i,.but ha hi x⟩
theorem In.set {D:Addr→Addr} {mh:MH} {a:Addr} {o o':MO} (e:mh a=some o) (ho:∀C fs,o'= .inst C fs→∃B7,o= .inst C B7) {b:Addr} (i:In D (mh.set a o') b):In D mh b:=by
 rcases i with ⟨x,hx⟩ | ⟨y,C,fs,hx,rfl⟩
 ·by_cases h:b=a
  ·subst h;exact .inl ⟨_,e⟩
  ·rw [MH.ae _ _ h] at hx;exact .inl ⟨_,hx⟩
 ·by_cases h:y=a
  ·subst h;rw [MH.set_same] at hx;obtain rfl:=Option.some.inj hx
   obtain ⟨B7,rfl⟩:=ho _ _ rfl
   exact .inr ⟨_,_,_,e,rfl⟩
  ·rw [MH.ae _ _ h] at hx;exact .inr ⟨_,_,_,hx,rfl⟩
theorem aV.upd {c:Cfg} {X:Addr→Prop} {D mh} {s:Shared} {h':Heap} {t':Nat} {a:Addr} {o o':MO} (R:Rel c D mh s.heap) (e:mh a=some o) (hw:o.owned=true) (wy:∀C fs,o'≠ .inst C fs)
 (x:Heap.ExtBut a s.heap h') (y:cR s.heap h'→uL c D h' a o'):a9 c X D mh s D (mh.set a o') { s with heap:=h',toks:=t' }:=by
 obtain ⟨ob,To,im⟩:=(R.obj a o e).alive
 have vk:cR s.heap h':=.but To im x
 have sub:∀b,In D (mh.set a o') b→In D mh b:=fun b=>In.set e fun C fs q=>absurd q (wy C fs)
 refine ⟨⟨_,_,_,rfl⟩,⟨fun b uH eb=>?_,fun b C fs eb=>?_,fun b uH eb how=>?_,fun b uH eb=>?_⟩,fun b uH eb n zz=>x b uH (fun q=>n (q▸ .inl ⟨_,e⟩)) eb,fun b i=>.inl (sub b i),vk⟩
 ·by_cases h:b=a
  ·subst h;rw [MH.set_same] at eb;obtain rfl:=Option.some.inj eb;exact y vk
  ·rw [MH.ae _ _ h] at eb
   refine (R.obj b uH eb).keep vk (fun zz q=>x _ _ h q) fun C fs ob eo q=>x _ _ (fun z=>?_) q
   have:=(R.apart b C fs (eo▸eb)).1
   rw [z,e] at this;exact c5 this
 ·have h:b≠a:=by rintro rfl;rw [MH.set_same] at eb;obtain rfl:=Option.some.inj eb;exact wy _ _ rfl
  rw [MH.ae _ _ h] at eb
  obtain ⟨k1,k2,k3⟩:=R.apart b C fs eb
  refine ⟨?_,k2,fun b' C' B7 E4=>?_⟩
  ·rw [MH.ae]
   ·exact k1
   ·intro q;rw [q,e] at k1;exact c5 k1
  ·have h':b'≠a:=by rintro rfl;rw [MH.set_same] at E4;obtain rfl:=Option.some.inj E4;exact wy _ _ rfl
   rw [MH.ae _ _ h'] at E4
   exact k3 b' C' B7 E4
 ·by_cases h:b=a
  ·subst h;exact R.base _ _ e hw
  ·rw [MH.ae _ _ h] at eb;exact R.base b uH eb how
 ·exact x b uH (fun q=>by subst q;exact bQ eb (R.base _ _ e hw)) (R.old b uH eb)
theorem aV.fld {c:Cfg} {X:Addr→Prop} {D mh} {s:Shared} {h':Heap} {t':Nat} {a:Addr} {C:Str} {fs B7:List (Str×Val)} (R:Rel c D mh s.heap) (e:mh a=some (.inst C fs))
 (x:Heap.ExtBut (D a) s.heap h') (y:cR s.heap h'→∃es n,h'.get? (D a)=some (dictOf es n)∧Mh h' B7 es):a9 c X D mh s D (mh.set a (.inst C B7)) { s with heap:=h',toks:=t' }:=by
 obtain ⟨ob,To,im⟩:=(R.obj a _ e).Ms
 obtain ⟨k1,k2,k3⟩:=R.apart a C fs e
 have vk:cR s.heap h':=.but To im x
 have hda:D a≠a:=fun q=>by rw [q,e] at k1;exact c5 k1
 have sub:∀b,In D (mh.set a (.inst C B7)) b→In D mh b:=fun b=>In.set e fun C' PV q=>by cases q;exact ⟨_,rfl⟩
 refine ⟨⟨_,_,_,rfl⟩,⟨fun b uH eb=>?_,fun b C' PV eb=>?_,fun b uH eb how=>?_,fun b uH eb=>?_⟩,fun b uH eb n zz=>x b uH (fun q=>n (q▸ .inr ⟨_,_,_,e,rfl⟩)) eb,fun b i=>.inl (sub b i),vk⟩
 ·by_cases h:b=a
  ·subst h;rw [MH.set_same] at eb;obtain rfl:=Option.some.inj eb
   exact ⟨x _ _ (Ne.symm hda) (R.obj _ _ e).1,y vk⟩
  ·rw [MH.ae _ _ h] at eb
   refine (R.obj b uH eb).keep vk (fun zz q=>x _ _ (fun z=>by rw [←z,eb] at k1;exact c5 k1) q) fun C' PV ob eo q=>x _ _ (fun z=>h ?_) q
   exact ((k3 b C' PV (eo▸eb)) z.symm).symm
 ·have other:∀d:Addr,mh d=none→(mh.set a (.inst C B7)) d=none:=fun d hd=>by
   rw [MH.ae]
   ·exact hd
   ·intro q;rw [q,e] at hd;exact c5 hd
  have was:∀d Cd fd,(mh.set a (.inst C B7)) d=some (.inst Cd fd)→∃J1,mh d=some (.inst Cd J1):=fun d Cd fd ed=>by
   by_cases h:d=a
   ·subst h;rw [MH.set_same] at ed;cases ed;exact ⟨_,e⟩
   ·rw [MH.ae _ _ h] at ed;exact ⟨_,ed⟩
  obtain ⟨fd,ed⟩:=was b C' PV eb
  obtain ⟨q1,q2,q3⟩:=R.apart b C' fd ed
  refine ⟨other _ q1,q2,fun b' Cb fb E4=>?_⟩
  obtain ⟨J1,ed'⟩:=was b' Cb fb E4
  exact q3 b' Cb J1 ed'
 ·by_cases h:b=a
  ·subst h;exact R.base _ _ e rfl
  ·rw [MH.ae _ _ h] at eb;exact R.base b uH eb how
 ·exact x b uH (fun q=>by subst q;exact bQ eb k2) (R.old b uH eb)
theorem Rel.fresh {c:Cfg} {D mh h} (R:Rel c D mh h) {a:Addr} (e:h.get? a=none):¬In D mh a:=fun i=>by
 obtain ⟨ob,e',_⟩:=R.alive i
 rw [e] at e';exact a8 e'
theorem Heap.ba (h:Heap) {a:Addr} (ha:h.objs.size≤a):h.get? a=none:=by
 cases e:h.get? a with
 | none=>rfl
 | some o=>exact absurd (Heap.lt_size e) (Nat.not_lt.mpr ha)
theorem MH.fresh {D:Addr→Addr} {mh:MH} {a:Addr} (n:¬In D mh a):mh a=none:=by
 cases e:mh a with
 | none=>rfl
 | some o=>exact absurd (.inl ⟨o,e⟩) n
theorem aV.takeIn {c:Cfg} {X:Addr→Prop} {VW Sn} {jl s₁:Shared} {D mh} {a:Addr} {o':MO} (k:a9 c X VW Sn jl D mh s₁) (e:jl.heap.get? a=none) (Tp:c.h₀.get? a=none) (n:¬In D mh a) (wy:∀C fs,o'≠ .inst C fs)
 (y:uL c D s₁.heap a o'):a9 c X VW Sn jl D (mh.set a o') s₁:=by
 have hm:mh a=none:=MH.fresh n
 have sub:∀b,In D (mh.set a o') b→In D mh b∨b=a:=fun b i=>by
  rcases i with ⟨x,hx⟩ | ⟨y,C,fs,hx,rfl⟩
  ·by_cases h:b=a
   ·exact .inr h
   ·rw [MH.ae _ _ h] at hx;exact .inl (.inl ⟨_,hx⟩)
  ·by_cases h:y=a
   ·subst h;rw [MH.set_same] at hx;obtain rfl:=Option.some.inj hx;exact absurd rfl (wy _ _)
   ·rw [MH.ae _ _ h] at hx;exact .inl (.inr ⟨_,_,_,hx,rfl⟩)
 have R:=k.rel
 refine ⟨k.st,⟨fun b uH eb=>?_,fun b C fs eb=>?_,fun b uH eb how=>?_,R.old⟩,k.keep,fun b i=>?_,k.vk⟩
 ·by_cases h:b=a
  ·subst h;rw [MH.set_same] at eb;obtain rfl:=Option.some.inj eb;exact y
  ·rw [MH.ae _ _ h] at eb;exact R.obj b uH eb
 ·have h:b≠a:=by rintro rfl;rw [MH.set_same] at eb;obtain rfl:=Option.some.inj eb;exact wy _ _ rfl
  rw [MH.ae _ _ h] at eb
  obtain ⟨k1,k2,k3⟩:=R.apart b C fs eb
  refine ⟨?_,k2,fun b' C' B7 E4=>?_⟩
  ·rw [MH.ae]
   ·exact k1
   ·intro q;exact n (.inr ⟨b,C,fs,eb,q⟩)
  ·have h':b'≠a:=by rintro rfl;rw [MH.set_same] at E4;obtain rfl:=Option.some.inj E4;exact wy _ _ rfl
   rw [MH.ae _ _ h'] at E4
   exact k3 b' C' B7 E4
 ·by_cases h:b=a
  ·subst h;exact Tp
  ·rw [MH.ae _ _ h] at eb;exact R.base b uH eb how
 ·rcases sub b i with i | rfl
  ·exact k.own b i
  ·exact .inr e
theorem aV.take {c:Cfg} {X:Addr→Prop} {D mh} {s:Shared} {h':Heap} {t':Nat} {a:Addr} {o':MO} (k:a9 c X D mh s D mh { s with heap:=h',toks:=t' }) (e:s.heap.get? a=none) (Tp:c.h₀.get? a=none) (n:¬In D mh a) (wy:∀C fs,o'≠ .inst C fs)
 (y:uL c D h' a o'):a9 c X D mh s D (mh.set a o') { s with heap:=h',toks:=t' }:=aV.takeIn k e Tp n wy y
theorem Rel.cD {c:Cfg} {D mh h} (R:Rel c D mh h) {a:Addr} (e:h.get? a=none):c.h₀.get? a=none:=by
 cases q:c.h₀.get? a with
 | none=>rfl
 | some o=>exact bQ (R.old a o q) e
theorem aV.new {c:Cfg} {X:Addr→Prop} {D mh} {s:Shared} {o:Obj} {t':Nat} {o':MO} (R:Rel c D mh s.heap) (wy:∀C fs,o'≠ .inst C fs)
 (y:uL c D (s.heap.push o) s.heap.objs.size o'):a9 c X D mh s D (mh.set s.heap.objs.size o') { s with heap:=s.heap.push o,toks:=t' }:=
 have e:=Heap.ba s.heap (Nat.le_refl _)
 aV.take (aV.push R) e (R.cD e) (R.fresh e) wy y
noncomputable def YA (D:Addr→Addr) (a d:Addr):Addr→Addr:=fun b=>if b=a then d else D b
theorem nV (D:Addr→Addr) (a d:Addr):YA D a d a=d:=if_pos rfl
theorem gQ (D:Addr→Addr) {a b:Addr} (d:Addr) (h:b≠a):YA D a d b=D b:=if_neg h
theorem aV.make {c:Cfg} {X:Addr→Prop} {D mh} {s:Shared} {C:Str} {t':Nat} (R:Rel c D mh s.heap):
 a9 c X D mh s (YA D (s.heap.objs.size+1) s.heap.objs.size) (mh.set (s.heap.objs.size+1) (.inst C [])) { s with heap:=(s.heap.push (dictOf [] 0)).push (instObj (c.ca C) s.heap.objs.size),toks:=t' }:=by
 have e:=Heap.ba s.heap (Nat.le_refl s.heap.objs.size)
 have e1:=Heap.ba s.heap (Nat.le_succ s.heap.objs.size)
 have k:∀b o,s.heap.get? b=some o→((s.heap.push (dictOf [] 0)).push (instObj (c.ca C) s.heap.objs.size)).get? b=some o:=fun b o q=>Heap.get?_push_of_some _ (Heap.get?_push_of_some _ q)
 have R':=R.ext k
 have n:=R.fresh e
 have n1:=R.fresh e1
 have key:∀b C' fs,(mh.set (s.heap.objs.size+1) (.inst C [])) b=some (.inst C' fs)→(b=s.heap.objs.size+1)∨(b≠s.heap.objs.size+1∧mh b=some (.inst C' fs)):=fun b C' fs eb=>by
  by_cases h:b=s.heap.objs.size+1
  ·exact .inl h
  ·rw [MH.ae _ _ h] at eb;exact .inr ⟨h,eb⟩
 refine ⟨⟨_,_,_,rfl⟩,⟨fun b uH eb=>?_,fun b C' fs eb=>?_,fun b uH eb how=>?_,R'.old⟩,fun b o q zz zz=>k b o q,fun b i=>?_,.q5 k⟩
 ·by_cases h:b=s.heap.objs.size+1
  ·subst h;rw [MH.set_same] at eb;obtain rfl:=Option.some.inj eb
   refine ⟨?_,[],0,?_,rfl⟩
   ·rw [nV]
    have:=Heap.get?_push_size (s.heap.push (dictOf [] 0)) (o:=instObj (c.ca C) s.heap.objs.size) rfl
    rwa [Heap.size_push] at this
   ·rw [nV]
    exact Heap.get?_push_of_some _ (Heap.get?_push_size _ rfl)
  ·rw [MH.ae _ _ h] at eb
   have:=R'.obj b uH eb
   cases uH with
   | inst C' fs=>
     refine ⟨?_,?_⟩
     ·rw [gQ _ _ h];exact this.1
     ·rw [gQ _ _ h];exact this.2
   | _=>exact this
 ·rcases key b C' fs eb with rfl | ⟨h,E4⟩
  ·rw [nV]
   refine ⟨?_,R.cD e,fun b' XO B7 E4 q=>?_⟩
   ·rw [MH.ae _ _ (Nat.ne_of_lt (Nat.lt_succ_self _))];exact MH.fresh n
   ·rcases key b' XO B7 E4 with rfl | ⟨h',Tq⟩
    ·rfl
    ·rw [gQ _ _ h'] at q
     exact absurd (.inr ⟨b',_,_,Tq,q.symm⟩) n
  ·obtain ⟨k1,k2,k3⟩:=R.apart b C' fs E4
   rw [gQ _ _ h]
   refine ⟨?_,k2,fun b' XO B7 Tq q=>?_⟩
   ·rw [MH.ae]
    ·exact k1
    ·intro q;exact n1 (.inr ⟨b,_,_,E4,q⟩)
   ·rcases key b' XO B7 Tq with rfl | ⟨h',eb3⟩
    ·rw [nV] at q
     exact absurd (.inr ⟨b,_,_,E4,q⟩) n
    ·rw [gQ _ _ h'] at q
     exact k3 b' XO B7 eb3 q
 ·by_cases h:b=s.heap.objs.size+1
  ·subst h;exact R.cD e1
  ·rw [MH.ae _ _ h] at eb;exact R.base b uH eb how
 ·rcases i with ⟨x,hx⟩ | ⟨y,C',fs,hx,rfl⟩
  ·by_cases h:b=s.heap.objs.size+1
   ·subst h;exact .inr e1
   ·rw [MH.ae _ _ h] at hx;exact .inl (.inl ⟨_,hx⟩)
  ·rcases key y C' fs hx with rfl | ⟨h,PW⟩
   ·right;rw [nV];exact e
   ·left;rw [gQ _ _ h];exact .inr ⟨_,_,_,PW,rfl⟩
noncomputable abbrev bw:Nat:=1000000
noncomputable abbrev Loc:=Str→Option Val
noncomputable def Loc.put (ρ:Loc) (x:Str) (v:Val):Loc:=fun y=>if y=x then some v else ρ y
noncomputable def Loc.gF (ρ:Loc):List Str→List Val→Loc
 | x::xs,v::vs=>Loc.gF (ρ.put x v) xs vs
 | _,_=>ρ
noncomputable abbrev Loc.empty:Loc:=fun zz=>none
noncomputable abbrev VQ:=Val→MH→Prop
noncomputable abbrev BQ:=Bool→MH→Prop
noncomputable abbrev SQ:=Option Val→Loc→MH→Prop
structure wz (A:Around) (d:Nat):Prop where
 handled:A.handled=none
 depth:A.depth+4 * d+100<recursionLimit
 units:A.units+16 * d+100<cLine
 frames:∃env outer,A.frames=some (env::outer)∧env.scope.isGenerator=false∧env.scope.isCoroutine=false∧env.builtins=builtinsNs∧env.globals=mainGlobals
theorem wz.u0 {A:Around} {d:Nat} (h:wz A d):A.units<cLine:=Nat.lt_of_le_of_lt (Nat.le_trans (Nat.le_add_right _ _) (Nat.le_add_right _ _)) h.units
theorem wz.u64 {A:Around} {d:Nat} (h:wz A d):A.units+64<cLine:=Nat.lt_of_le_of_lt (Nat.add_le_add (Nat.le_add_right _ _) (Nat.le_of_ble_eq_true rfl)) h.units
theorem wz.d0 {A:Around} {d:Nat} (h:wz A d):A.depth<recursionLimit:=Nat.lt_of_le_of_lt (Nat.le_trans (Nat.le_add_right _ _) (Nat.le_add_right _ _)) h.depth
theorem sS {a d n k j:Nat} (h:a+k * (d+1)+100<n) (hj:j≤k):a+j+k * d+100<n:=by
 rw [Nat.mul_succ,Nat.add_comm (k * d) k,←Nat.add_assoc] at h
 exact Nat.lt_of_le_of_lt (Nat.add_le_add_right (Nat.add_le_add_right (Nat.add_le_add_left hj _) _) _) h
def I0 (c:Cfg) (d:Nat) (a:Addr) (args:List Val) (mh:MH) (Q:VQ):Prop:=
 ∀(A:Around) (s:Shared) (D:Addr→Addr) (us:List Value) (R E:Value→Shared→Prop),wz A d→0<s.toks→Rel c D mh s.heap→cX s.heap args us→
  (∀u s' v D' aD,aV c D mh s D' aD s'→VR s'.heap v u→Q v aD→R u s')→wpAny (model c.prog c.w) A (call (.ref a) us) R E s
noncomputable def aX (c:Cfg) (f:Str):Bool:=(nsIn c.K mainGlobals f == some (some (.ref (c.ca f))))&&keepIn c.K (.ref (c.ca f))
def aq (c:Cfg) (d:Nat) (f:Str) (args:List Val) (mh:MH) (Q:VQ):Prop:=I0 c d (c.ca f) args mh Q
noncomputable def eF (c:Cfg) (C m:Str):Addr:=match findIn c.K (.ref (c.ca C)) m with
 | some (some (.ref f))=>f
 | _=>0
noncomputable def B8 (c:Cfg) (C m:Str):Bool:=
 (findIn c.K (.ref (c.ca C)) m == some (some (.ref (eF c C m))))&&isFn c.K (.ref (eF c C m))&&keepIn c.K (.ref (eF c C m))&&plainGet c.K (c.ca C) m
def cb (c:Cfg) (d:Nat) (C:Str) (m:Str) (args:List Val) (mh:MH) (Q:VQ):Prop:=I0 c d (eF c C m) args mh Q
noncomputable def strsOf:List Value→Option (List Val)
 | []=>some []
 | .str s _::r=>(strsOf r).map fun l=>.str s::l
 | _=>none
noncomputable def p9 (K:Frag) (x:Str):Option Val:=match nsIn K mainGlobals x with
 | some (some (.int i _))=>some (.int i)
 | some (some (.str s _))=>some (.str s)
 | some (some (.ref a))=>(match K.lookup a with
  | some o=>if o.cls= .type "tuple" then (match o.data with
   | .seq xs _=>(strsOf xs.toList).map .tup
   | _=>none) else none
  | none=>none)
 | _=>none
noncomputable def isVar (sc:Scope) (x:Str):Bool:=match sc.names.lookup x with
 | some .local | some .cell | some .free=>true
 | _=>false
noncomputable def dV (sc:Scope) (x:Str):Bool:=match sc.names.lookup x with
 | some .globalImplicit=>true
 | _=>false
def Hh (o:Option Val) (mh:MH) (Q:VQ):Prop:=match o with
 | some v=>Q v mh
 | none=>False
theorem I1 {mh:MH} {Q:VQ}:{o:Option Val}→Hh o mh Q→∃v,o=some v∧Q v mh
 | some v,h=>⟨v,rfl,h⟩
theorem fX {mh:MH} {Q:VQ} {o:Option Val} {v:Val} (e:o=some v) (h:Q v mh):Hh o mh Q:=by obtain rfl:=e;exact h
def Mt (c:Cfg) (sc:Scope) (ρ:Loc) (x:Str) (mh:MH) (Q:VQ):Prop:=
 bif isVar sc x then Hh (ρ x) mh Q else bif dV sc x then Hh (p9 c.K x) mh Q else False
def Mu:Const→MH→VQ→Prop
 | .none,mh,Q=>Q .none mh
 | .bool b,mh,Q=>Q (.bool b) mh
 | .int i,mh,Q=>Q (.int i) mh
 | .str s,mh,Q=>Q (.str s) mh
 | _,_,_=>False
def aH (mh:MH) (o:MO) (Q:VQ):Prop:=∀a,mh a=none→Q (.ref a) (mh.set a o)
noncomputable def chars (s:Str):List Val:=s.cps.toList.map fun n=>.str ⟨#[n]⟩
noncomputable def Hp (n:Int):List Val:=(List.range n.toNat).map fun (i:Nat)=>.int (i:Int)
inductive Walk (mh:MH):Val→List Val→Option MO→Prop
 | tup {l:List Val}:Walk mh (.tup l) l none
 | str {s:Str}:Walk mh (.str s) (chars s) none
 | xG {n:Int} (h0:0≤n) (h:n<bw):Walk mh (.xG n) (Hp n) none
 | list {a:Addr} {l:List Val} (e:mh a=some (.list l)):Walk mh (.ref a) l none
 | ro {a:Addr} {l:List Val} (e:mh a=some (.ro l)):Walk mh (.ref a) l none
 | ax {a:Addr} {es:List (Str×Val)} {ep:Nat} (e:mh a=some (.ax es ep)):Walk mh (.ref a) (es.map fun p=>.str p.1) (some (.ax es ep))
 | cz {a:Addr} {es:List (Int×Val)} {ep:Nat} (e:mh a=some (.cz es ep)):Walk mh (.ref a) (es.map fun p=>.int p.1) (some (.cz es ep))
noncomputable def intsOf:List Val→Option (List Int)
 | []=>some []
 | .int i::r=>(intsOf r).map (i::·)
 | _=>none
noncomputable def fS:List Val→Option (List Str)
 | []=>some []
 | .str s::r=>(fS r).map (s::·)
 | _=>none
inductive aY (mh:MH) (Q:VQ):Operator→Val→Val→Prop
 | uM {a b:Int} (q:Q (.int (a+b)) mh):aY mh Q .Add (.int a) (.int b)
 | VX {a b:Str} (h:a.length+b.length<bw) (q:Q (.str (a++b)) mh):aY mh Q .Add (.str a) (.str b)
 | VY {a b:List Val} (h1:a≠[]) (h2:b≠[]) (h:a.length+b.length<bw) (q:Q (.tup (a++b)) mh):aY mh Q .Add (.tup a) (.tup b)
 | fY {a b:Addr} {l l':List Val} (e:mh a=some (.list l)) (e':mh b=some (.list l')) (h:l.length+l'.length<bw) (q:aH mh (.list (l++l')) Q):aY mh Q .Add (.ref a) (.ref b)
 | sub {a b:Int} (q:Q (.int (a - b)) mh):aY mh Q .Sub (.int a) (.int b)
 | E5 {a b:Int} (h:IntMulOk a b) (q:Q (.int (a * b)) mh):aY mh Q .Mult (.int a) (.int b)
 | mulL {a:Addr} {k:Int} {l:List Val} (e:mh a=some (.list l)) (h0:0≤k) (h1:k * l.length<bw) (h2:k<bw) (q:aH mh (.list (List.replicate k.toNat l).flatten) Q):aY mh Q .Mult (.ref a) (.int k)
 | mod {a b:Int} (h:b≠0) (q:Q (.int (Int.fmod a b)) mh):aY mh Q .Mod (.int a) (.int b)
 | div {a b:Int} (h:b≠0) (q:Q (.int (Int.fdiv a b)) mh):aY mh Q .FloorDiv (.int a) (.int b)
 | pow {a b:Int} (h0:0≤b) (h:(Builtin.Int.intBits a:Int) * b≤2 ^ 27) (q:Q (.int (a ^ b.toNat)) mh):aY mh Q .Pow (.int a) (.int b)
inductive cM (mh:MH) (Q:Bool→Prop):Val→Val→Prop
 | int {a b:Int} (q:Q (decide (a=b))):cM mh Q (.int a) (.int b)
 | str {a b:Str} (q:Q (decide (a=b))):cM mh Q (.str a) (.str b)
 | tup {l:List Val} (q:Q l.isEmpty):cM mh Q (.tup l) (.tup [])
 | nil {a b:Addr} {l:List Val} (e:mh a=some (.list l)) (e':mh b=some (.list [])) (q:Q l.isEmpty):cM mh Q (.ref a) (.ref b)
 | il {a b:Addr} {l l':List Val} {xs ys:List Int} (e:mh a=some (.list l)) (e':mh b=some (.list l')) (i:intsOf l=some xs) (i':intsOf l'=some ys) (q:Q (decide (xs=ys))):cM mh Q (.ref a) (.ref b)
noncomputable def isNone:Val→Bool
 | .none=>true
 | _=>false
inductive mJ (mh:MH) (Q:Bool→Prop):Val→Val→Prop
 | ss {x y:Str} (q:Q (Txt.contains y x)):mJ mh Q (.str x) (.str y)
 | wR {x:Str} {l:List Val} {ss:List Str} (e:fS l=some ss) (q:Q (ss.contains x)):mJ mh Q (.str x) (.tup l)
 | PX {x:Int} {a:Addr} {l:List Val} {xs:List Int} (e:mh a=some (.list l)) (i:intsOf l=some xs) (q:Q (xs.contains x)):mJ mh Q (.int x) (.ref a)
 | intD {x:Int} {a:Addr} {es:List (Int×Val)} {ep:Nat} (e:mh a=some (.cz es ep)) (q:Q (es.lookup x).isSome):mJ mh Q (.int x) (.ref a)
 | aL {x:Int} {a:Addr} {ep:Nat} (e:mh a=some (.ax [] ep)) (q:Q false):mJ mh Q (.int x) (.ref a)
 | J4 {x:Str} {a:Addr} {l:List Val} {xs:List Str} (e:mh a=some (.list l)) (i:fS l=some xs) (q:Q (xs.contains x)):mJ mh Q (.str x) (.ref a)
 | E6 {x:Str} {a:Addr} {es:List (Str×Val)} {ep:Nat} (e:mh a=some (.ax es ep)) (q:Q (es.lookup x).isSome):mJ mh Q (.str x) (.ref a)
inductive PY (Q:Bool→Prop):Val→Val→Prop
 | mk {a b:Int} (q:Q (decide (a<b))):PY Q (.int a) (.int b)
inductive PZ (Q:Bool→Prop):Val→Val→Prop
 | int {a b:Int} (q:Q (decide (a≤b))):PZ Q (.int a) (.int b)
 | str {x y:Str} (q:Q (!decide (y.cps.toList<x.cps.toList))):PZ Q (.str x) (.str y)
inductive nQ (Q:Bool→Prop):Val→Val→Prop
 | mk {a:Val} (q:Q (isNone a)):nQ Q a .none
def aF (op:CmpOp) (a b:Val) (mh:MH) (Q:Bool→Prop):Prop:=match op with
 | .Eq=>cM mh Q a b
 | .NotEq=>cM mh (fun r=>Q (!r)) a b
 | .Lt=>PY Q a b
 | .LtE=>PZ Q a b
 | .Gt=>PY Q b a
 | .GtE=>PZ Q b a
 | .Is=>nQ Q a b
 | .IsNot=>nQ (fun r=>Q (!r)) a b
 | .In=>mJ mh Q a b
 | .NotIn=>mJ mh (fun r=>Q (!r)) a b
noncomputable def putK {α:Type} [DecidableEq α] (k:α) (v:Val) (es:List (α×Val)):List (α×Val):=
 if es.any (fun p=>p.1=k) then es.map (fun p=>if p.1=k then (p.1,v) else p) else es++[(k,v)]
noncomputable def pairOf (v:Val):Option (Str×Val):=match v with
 | .tup l=>(match l with
  | [a,w]=>(match a with
   | .str k=>some (k,w)
   | _=>none)
  | _=>none)
 | _=>none
noncomputable def pairsOf:List Val→Option (List (Str×Val))
 | []=>some []
 | v::r=>(pairOf v).bind fun p=>(pairsOf r).map (p::·)
noncomputable def qH:List Int→List Int:=fun l=>l.mergeSort (·≤·)
noncomputable def bj (l:List Int):List Val:=l.map .int
noncomputable def aw (l:List Str):List Val:=l.map .str
noncomputable def dedup:List Int→List Int
 | []=>[]
 | x::r=>if x∈r then dedup r else x::dedup r
inductive jE (mh:MH):Val→List Val→Prop
 | tup {l:List Val}:jE mh (.tup l) l
 | list {a:Addr} {l:List Val} (e:mh a=some (.list l)):jE mh (.ref a) l
 | ro {a:Addr} {l:List Val} (e:mh a=some (.ro l)):jE mh (.ref a) l
inductive P6 (mh:MH) (Q:VQ):Val→Prop
 | seq {v:Val} {l:List Val} (e:jE mh v l) (h:l.length<bw) (q:Q (.int l.length) mh):P6 mh Q v
 | str {s:Str} (h:s.length<bw) (q:Q (.int s.length) mh):P6 mh Q (.str s)
inductive eX (mh:MH) (Q:VQ):Str→List Val→Prop
 | len {v:Val} (q:P6 mh Q v):eX mh Q "len" [v]
 | B9 {i:Int} (q:Q (.int i) mh):eX mh Q "int" [.int i]
 | Mv {b:Bool} (q:Q (.int (if b then 1 else 0)) mh):eX mh Q "int" [.bool b]
 | max {a b:Int} (q:Q (.int (max a b)) mh):eX mh Q "max" [.int a,.int b]
 | range {n:Int} (h0:0≤n) (h:n<bw) (q:Q (.xG n) mh):eX mh Q "range" [.int n]
 | tuple {v:Val} {l:List Val} (e:jE mh v l) (h:l.length<bw) (q:Q (.tup l) mh):eX mh Q "tuple" [v]
 | list {v:Val} {l:List Val} (e:jE mh v l) (h:l.length<bw) (q:aH mh (.list l) Q):eX mh Q "list" [v]
 | ord {s:Str} (h:s.length=1) (q:Q (.int ((s.cps[0]?.getD 0:Nat):Int)) mh):eX mh Q "ord" [.str s]
noncomputable def Mw (f:Str):Bool:=(["len","int","max","range","tuple","list","ord"]:List Str).contains f
inductive Recv where
 | list | dict | str
 | inst (C:Str)
inductive ak (c:Cfg) (mh:MH) (Q:Recv→Prop):Str→Val→Prop
 | inst {m:Str} {a:Addr} {C:Str} {fs:List (Str×Val)} (e:mh a=some (.inst C fs)) (n:fs.lookup m=none) (ok:B8 c C m=true) (q:Q (.inst C)):ak c mh Q m (.ref a)
 | list {m:Str} {a:Addr} {l:List Val} (e:mh a=some (.list l)) (h:(["append","extend","sort","pop"]:List Str).contains m=true) (q:Q .list):ak c mh Q m (.ref a)
 | ax {a:Addr} {es:List (Str×Val)} {ep:Nat} (e:mh a=some (.ax es ep)) (q:Q .dict):ak c mh Q "get" (.ref a)
 | cz {a:Addr} {es:List (Int×Val)} {ep:Nat} (e:mh a=some (.cz es ep)) (q:Q .dict):ak c mh Q "get" (.ref a)
 | str {m s:Str} (h:(["join","split"]:List Str).contains m=true) (q:Q .str):ak c mh Q m (.str s)
inductive nW (mh:MH) (Q:VQ):Str→Addr→List Val→Prop
 | append {a:Addr} {l:List Val} {v:Val} (e:mh a=some (.list l)) (h:l.length<bw) (q:Q .none (mh.set a (.list (l++[v])))):nW mh Q "append" a [v]
 | extend {a b:Addr} {l l':List Val} (e:mh a=some (.list l)) (e':mh b=some (.list l')) (h:l.length+l'.length<bw) (q:Q .none (mh.set a (.list (l++l')))):nW mh Q "extend" a [.ref b]
 | sort {a:Addr} {l:List Val} {xs:List Int} (e:mh a=some (.list l)) (i:intsOf l=some xs) (h:xs.length<64) (q:Q .none (mh.set a (.list (bj (qH xs))))):nW mh Q "sort" a []
 | pop {a:Addr} {r:List Val} {v:Val} (e:mh a=some (.list (r++[v]))) (h:r.length<bw) (q:Q v (mh.set a (.list r))):nW mh Q "pop" a []
inductive A8 (mh:MH) (dv:Val):Addr→Val→Val→Prop
 | str {a:Addr} {es:List (Str×Val)} {ep:Nat} {x:Str} (e:mh a=some (.ax es ep)):A8 mh dv a (.str x) ((es.lookup x).getD dv)
 | int {a:Addr} {es:List (Int×Val)} {ep:Nat} {x:Int} (e:mh a=some (.cz es ep)):A8 mh dv a (.int x) ((es.lookup x).getD dv)
 | nil {a:Addr} {ep:Nat} {x:Int} (e:mh a=some (.ax [] ep)):A8 mh dv a (.int x) dv
inductive jm (mh:MH) (Q:VQ):Addr→List Val→Prop
 | one {a:Addr} {k v:Val} (g:A8 mh .none a k v) (q:Q v mh):jm mh Q a [k]
 | two {a:Addr} {k dv v:Val} (g:A8 mh dv a k v) (q:Q v mh):jm mh Q a [k,dv]
inductive uN (mh:MH) (Q:VQ):Str→Str→List Val→Prop
 | join {s:Str} {v:Val} {l:List Val} {ss:List Str} (e:jE mh v l) (t:fS l=some ss) (h:(ss.map (·.length)).sum+ss.length * s.length<bw) (q:Q (.str (Txt.join s ss)) mh):uN mh Q "join" s [v]
 | split {s x:Str} (h0:x.length≠0) (h:s.length<bw) (h1:(Builtin.Str.partsBetween s (Builtin.Str.occurrences s x 0 s.length (s.length+1)) x.length).length<bw) (q:aH mh (.list (aw (Txt.split s x))) Q):uN mh Q "split" s [.str x]
def ar (c:Cfg) (d:Nat) (k:Recv) (m:Str) (ov:Val) (vs:List Val) (mh:MH) (Q:VQ):Prop:=match k with
 | .inst C=>cb c d C m (ov::vs) mh Q
 | .list=>(match ov with
  | .ref a=>nW mh Q m a vs
  | _=>False)
 | .dict=>(match ov with
  | .ref a=>jm mh Q a vs
  | _=>False)
 | .str=>(match ov with
  | .str s=>uN mh Q m s vs
  | _=>False)
inductive ao (mh:MH) (Q:VQ):Val→Str→Prop
 | mk {a:Addr} {C x:Str} {fs:List (Str×Val)} {v:Val} (e:mh a=some (.inst C fs)) (h:(fW C).contains x=true) (l:fs.lookup x=some v) (q:Q v mh):ao mh Q (.ref a) x
noncomputable def E7 (x:Str) (v:Val):List (Str×Val)→List (Str×Val)
 | []=>[(x,v)]
 | (y,u)::r=>if y=x then (y,v)::r else (y,u)::E7 x v r
inductive aS (mh:MH) (v:Val) (Q:MH→Prop):Val→Str→Prop
 | mk {a:Addr} {C x:Str} {fs:List (Str×Val)} (e:mh a=some (.inst C fs)) (h:(fW C).contains x=true) (l:fs.length<100) (q:Q (mh.set a (.inst C (E7 x v fs)))):aS mh v Q (.ref a) x
inductive ay (mh:MH) (Q:VQ):Val→Val→Prop
 | seq {o:Val} {l:List Val} {k:Int} {v:Val} (s:jE mh o l) (h0:0≤k) (h:k<bw) (e:l[k.toNat]? =some v) (q:Q v mh):ay mh Q o (.int k)
 | str {s:Str} {k:Int} {n:Nat} (h0:0≤k) (h:k<bw) (e:s.cps[k.toNat]? =some n) (q:Q (.str ⟨#[n]⟩) mh):ay mh Q (.str s) (.int k)
 | ax {a:Addr} {es:List (Str×Val)} {ep:Nat} {x:Str} {v:Val} (e:mh a=some (.ax es ep)) (l:es.lookup x=some v) (q:Q v mh):ay mh Q (.ref a) (.str x)
 | cz {a:Addr} {es:List (Int×Val)} {ep:Nat} {x:Int} {v:Val} (e:mh a=some (.cz es ep)) (l:es.lookup x=some v) (q:Q v mh):ay mh Q (.ref a) (.int x)
inductive bb (mh:MH) (v:Val) (Q:MH→Prop):Val→Val→Prop
 | list {a:Addr} {l:List Val} {k:Int} (e:mh a=some (.list l)) (h0:0≤k) (h:k<l.length) (h1:k<bw) (q:Q (mh.set a (.list (l.set k.toNat v)))):bb mh v Q (.ref a) (.int k)
 | ax {a:Addr} {es:List (Str×Val)} {ep:Nat} {x:Str} (e:mh a=some (.ax es ep)) (h:es.length<bw) (q:∀ep',Q (mh.set a (.ax (putK x v es) ep'))):bb mh v Q (.ref a) (.str x)
 | cz {a:Addr} {es:List (Int×Val)} {ep:Nat} {x:Int} (e:mh a=some (.cz es ep)) (h:es.length<bw) (q:∀ep',Q (mh.set a (.cz (putK x v es) ep'))):bb mh v Q (.ref a) (.int x)
 | nil {a:Addr} {ep:Nat} {x:Int} (e:mh a=some (.ax [] ep)) (q:∀ep',Q (mh.set a (.cz [(x,v)] ep'))):bb mh v Q (.ref a) (.int x)
noncomputable def uO (s:Str) (i j:Int):Str:=⟨((Builtin.Str.strSliceIndices (some i) (some j) 1 s.length).filterMap (s.cps[·]?)).toArray⟩
inductive e8 (mh:MH) (Q:VQ):Val→Val→Val→Val→Prop
 | rev {a:Addr} {l:List Val} (e:mh a=some (.list l)) (h:l.length<bw) (q:aH mh (.list l.reverse) Q):e8 mh Q (.ref a) .none .none (.int (-1))
 | Hp {a:Addr} {l:List Val} {k:Int} (e:mh a=some (.list l)) (h0:0≤k) (h1:k<bw) (h:l.length<bw) (q:aH mh (.list (l.take k.toNat)) Q):e8 mh Q (.ref a) .none (.int k) .none
 | from {a:Addr} {l:List Val} {k:Int} (e:mh a=some (.list l)) (h0:0≤k) (h1:k<bw) (h:l.length<bw) (q:aH mh (.list (l.drop k.toNat)) Q):e8 mh Q (.ref a) (.int k) .none .none
 | tup {l:List Val} {k:Nat} (h:l.length<bw) (h1:k<l.length) (q:Q (.tup (l.take k)) mh):e8 mh Q (.tup l) .none (.int k) .none
 | str {s:Str} {i j:Int} (h:s.length<bw) (w:(Builtin.Str.strSliceIndices (some i) (some j) 1 s.length).length=s.length→uO s i j=s) (h1:(uO s i j).length<bw) (q:Q (.str (uO s i j)) mh):e8 mh Q (.str s) (.int i) (.int j) .none
inductive jF (Q:Bool→Prop):Val→Prop
 | mk {b:Bool} (q:Q b):jF Q (.bool b)
inductive P7 (Q:Int→Prop):Val→Prop
 | mk {i:Int} (q:Q i):P7 Q (.int i)
def fu (b:Bool) (P:Prop):Prop:=match b with
 | true=>P
 | false=>False
theorem bT {P:Prop}:{b:Bool}→fu b P→b=true∧P
 | true,h=>⟨rfl,h⟩
noncomputable def sel {α:Sort u} (e:Expr) (z:α) (fn:Str→α) (ft:List Expr→α) (fk:Const→α) (fa:Expr→Str→α) (fs:Expr→Expr→α) (fc:Expr→List Expr→List Keyword→α) (fl:Expr→List Comprehension→Scope→α) (fi:Option Expr→Option Expr→Option Expr→α):α:=match e with
 | .Name x _=>fn x
 | .Tuple es _ _=>ft es
 | .Constant k _ _=>fk k
 | .Attribute o x _=>fa o x
 | .Subscript o i _=>fs o i
 | .Call f as ks _=>fc f as ks
 | .ListComp e g c _=>fl e g c
 | .Slice a b c _=>fi a b c
 | _=>z
noncomputable def J5 {α:Sort u} (e:Expr) (z:α) (fn:Str→α) (ft:List Expr→α):α:=sel e z fn ft (fun zz=>z) (fun zz zz=>z) (fun zz zz=>z) (fun zz zz zz=>z) (fun zz zz zz=>z) (fun zz zz zz=>z)
noncomputable def uP (n:Nat) (e:Expr):Bool:=!Nat.beq e.ctorIdx n
noncomputable def notStar:Expr→Bool:=uP 22
noncomputable def baseOk (e:Expr):Bool:=sel e true (fun zz=>true) (fun zz=>true) (fun zz=>true) (fun zz zz=>true) (fun zz zz=>true) (fun f as zz=>sel f false (fun zz=>!as.isEmpty) (fun zz=>false) (fun zz=>false) (fun zz zz=>true) (fun zz zz=>false) (fun zz zz zz=>false) (fun zz zz zz=>false) (fun zz zz zz=>false)) (fun zz zz zz=>true) (fun zz zz zz=>true)
noncomputable def jG:Expr→Bool:=uP 7
noncomputable def uQ (x:Str):Bool:=!(x == ("__debug__":Str))&& !(x == ("__classdict__":Str))
noncomputable def dz (sc:Scope) (x:Str):Bool:=isVar sc x&&(sc.names.lookup x != some .free)
noncomputable def sT (ev:Expr→MH→VQ→Prop):List Expr→MH→(List Val→MH→Prop)→Prop
 | [],mh,Q=>Q [] mh
 | e::r,mh,Q=>ev e mh fun v aD=>sT ev r aD fun vs jn=>Q (v::vs) jn
def P8 (ev:Expr→MH→VQ→Prop):Option Expr→MH→VQ→Prop
 | none,mh,Q=>Q .none mh
 | some e,mh,Q=>ev e mh Q
noncomputable def P9 (tv:Expr→MH→BQ→Prop) (op:BoolOp):List Expr→MH→BQ→Prop
 | [],mh,Q=>Q (op == .And) mh
 | e::r,mh,Q=>tv e mh fun b aD=>match op with
  | .And=>(match b with
   | false=>Q false aD
   | true=>P9 tv op r aD Q)
  | .Or=>(match b with
   | true=>Q true aD
   | false=>P9 tv op r aD Q)
noncomputable def I6 (ev:Expr→MH→VQ→Prop) (op:BoolOp):List Expr→MH→VQ→Prop
 | [],_,_=>False
 | e::r,mh,Q=>(match r with
  | []=>ev e mh Q
  | _::_=>ev e mh fun v aD=>jF (fun b=>match op with
   | .And=>(match b with
    | false=>Q (.bool false) aD
    | true=>I6 ev op r aD Q)
   | .Or=>(match b with
    | true=>Q (.bool true) aD
    | false=>I6 ev op r aD Q)) v)
noncomputable def nX (ev:Expr→MH→VQ→Prop):List CmpOp→List Expr→Val→MH→BQ→Prop
 | [],_,_,_,_=>False
 | op::ops,es,left,mh,Q=>match es with
  | []=>False
  | e::r=>match ops with
   | []=>(match r with
    | []=>ev e mh fun v aD=>aF op left v aD fun b=>Q b aD
    | _::_=>False)
   | _::_=>(match r with
    | []=>False
    | _::_=>ev e mh fun v aD=>aF op left v aD fun b=>match b with
     | true=>nX ev ops r v aD Q
     | false=>Q false aD)
noncomputable def Ca (ev:Expr→MH→VQ→Prop):List (Option Expr)→List Expr→MH→(List (Val×Val)→MH→Prop)→Prop
 | [],vs,mh,Q=>(match vs with
  | []=>Q [] mh
  | _::_=>False)
 | k::ks,vs,mh,Q=>match k,vs with
  | some k,v::vs=>ev k mh fun kv c1=>ev v c1 fun vv gh=>Ca ev ks vs gh fun r Tr=>Q ((kv,vv)::r) Tr
  | _,_=>False
noncomputable def strPairs:List (Val×Val)→Option (List (Str×Val))
 | []=>some []
 | (a,v)::r=>match a with
  | .str k=>(strPairs r).map ((k,v)::·)
  | _=>none
noncomputable def i4 {σ:Type} (ok:MH→Prop) (turn:Val→σ→MH→(σ→MH→Prop)→Prop):List Val→σ→MH→(σ→MH→Prop)→Prop
 | [],st,mh,Q=>ok mh∧Q st mh
 | x::xs,st,mh,Q=>ok mh∧turn x st mh fun Pz aD=>i4 ok turn xs Pz aD Q
def I7 {σ:Type} (K:σ→MH→Prop) (Q:Option Val→σ→MH→Prop) (f:Option Val) (ρ:σ) (mh:MH):Prop:=match f with
 | none=>K ρ mh
 | some v=>Q (some v) ρ mh
theorem dS {α:Type} {a:α} {P:Prop} (h:(none:Option α)=some a):P:=nomatch h
noncomputable abbrev St:=List (Option Val)
noncomputable abbrev aE:=Option Val→St→MH→Prop
noncomputable def slots (sc:Scope):List Str:=(sc.names.filter fun p=>match p.2 with
 | .local=>true
 | .cell=>true
 | .free=>true
 | _=>false).map (·.1)
noncomputable def L:List Str→St→Loc
 | n::ns,v::vs,x=>if x=n then v else L ns vs x
 | _,_,_=>none
noncomputable def nY (sc:Scope) (ρ:Loc):St:=(slots sc).map ρ
theorem J6 {ρ:Loc} {x:Str} {v:Val} {ns:List Str}:L ns (ns.map ρ) x=some v→ρ x=some v:=by
 induction ns with
 | nil=>
   rintro h
   exact dS h
 | cons n ns ih=>
   rintro h
   have h:(if x=n then ρ n else L ns (ns.map ρ) x)=some v:=h
   by_cases e:x=n
   ·rw [if_pos e] at h;rw [e];exact h
   ·rw [if_neg e] at h;exact ih h
noncomputable def E8 (ok:MH→Prop) (turn:Val→St→MH→aE→Prop):List Val→St→MH→aE→Prop
 | [],vs,mh,Q=>ok mh∧Q none vs mh
 | x::xs,vs,mh,Q=>ok mh∧turn x vs mh (I7 (fun mD aD=>E8 ok turn xs mD aD Q) Q)
noncomputable def uR (VZ:St→MH→BQ→Prop) (body:St→MH→aE→Prop):Nat→St→MH→aE→Prop
 | 0,_,_,_=>False
 | k+1,vs,mh,Q=>VZ vs mh fun b c1=>match b with
  | true=>body vs c1 (I7 (fun mD aD=>uR VZ body k mD aD Q) Q)
  | false=>Q none vs c1
noncomputable def eA (ex:Stmt→Loc→MH→SQ→Prop):List Stmt→Loc→MH→SQ→Prop
 | [],ρ,mh,Q=>Q none ρ mh
 | st::r,ρ,mh,Q=>ex st ρ mh (I7 (fun cN aD=>eA ex r cN aD Q) Q)
noncomputable def nameOf (e:Expr):Option Str:=J5 e none some fun zz=>none
theorem kB {e:Expr} {x:Str} (h:nameOf e=some x):∃p,e= .Name x p:=by
 cases e with
 | Name y p=>obtain rfl:=Option.some.inj h;exact ⟨p,rfl⟩
 | _=>exact dS h
noncomputable def namesOf (e:Expr):Option (List Str):=J5 e none (fun x=>some [x]) (List.mapM nameOf)
noncomputable def eO (t:Expr):List Str:=(namesOf t).getD []
inductive xI (K:Val→Val→Prop):Val→Prop
 | mk {a b:Val} (q:K a b):xI K (.tup [a,b])
inductive Hi (K:Val→Val→Val→Prop):Val→Prop
 | mk {a b c:Val} (q:K a b c):Hi K (.tup [a,b,c])
def Vk (n:Nat) (K:List Val→Prop) (v:Val):Prop:=match n with
 | 2=>xI (fun a b=>K [a,b]) v
 | 3=>Hi (fun a b c=>K [a,b,c]) v
 | _=>False
theorem Cc {n:Nat} {K:List Val→Prop} {v:Val} (h:Vk n K v):∃vs,v= .tup vs∧n=vs.length∧K vs:=by
 match n,h with
 | 2,h=>obtain ⟨q⟩:=(show xI _ v from h);exact ⟨_,rfl,rfl,q⟩
 | 3,h=>obtain ⟨q⟩:=(show Hi _ v from h);exact ⟨_,rfl,rfl,q⟩
theorem Mx {n:Nat} {K K':List Val→Prop} {v:Val} (h:Vk n K v) (k:∀vs,K vs→K' vs):Vk n K' v:=by
 match n,h with
 | 2,h=>obtain ⟨q⟩:=(show xI _ v from h);exact xI.mk (k _ q)
 | 3,h=>obtain ⟨q⟩:=(show Hi _ v from h);exact Hi.mk (k _ q)
def I8 (xs:Option (List Str)) (v:Val) (ρ:Loc) (Q:Loc→Prop):Prop:=match xs with
 | some xs=>Vk xs.length (fun vs=>Q (ρ.gF xs vs)) v
 | none=>False
def I9 (t:Expr) (v:Val) (ρ:Loc) (Q:Loc→Prop):Prop:=J5 t False (fun x=>Q (ρ.put x v)) fun es=>I8 (es.mapM nameOf) v ρ Q
noncomputable def Ts (tv:Expr→MH→BQ→Prop):List Expr→MH→BQ→Prop
 | [],mh,Q=>Q true mh
 | e::r,mh,Q=>tv e mh fun b aD=>match b with
  | true=>Ts tv r aD Q
  | false=>Q false aD
def dc (turn:Val→St→MH→aE→Prop) (src:Val) (vs:St) (mh:MH) (Q:aE):Prop:=∃full st,E8 (fun m=>Walk m src full st) turn full vs mh Q
def cw (turn:Val→List Val→MH→(List Val→MH→Prop)→Prop) (src:Val) (acc:List Val) (mh:MH) (Q:List Val→MH→Prop):Prop:=∃full st,i4 (fun m=>Walk m src full st) turn full acc mh Q
def xX (tv:Loc→Expr→MH→BQ→Prop) (g:Comprehension) (ρ:Loc) (emit:Loc→List Val→MH→(List Val→MH→Prop)→Prop) (x:Val) (acc:List Val) (c1:MH) (Q1:List Val→MH→Prop):Prop:=
 I9 g.target x ρ fun EU=>Ts (tv EU) g.ifs c1 fun ok gh=>match ok with
  | true=>emit EU acc gh Q1
  | false=>Q1 acc gh
noncomputable def jH (ev:Loc→Expr→MH→VQ→Prop) (tv:Loc→Expr→MH→BQ→Prop) (elt:Expr):List Comprehension→Loc→List Val→MH→(List Val→MH→Prop)→Prop
 | [],EU,acc,gh,Q1=>ev EU elt gh fun v Tr=>acc.length<bw∧Q1 (acc++[v]) Tr
 | g::gs,EU,acc,gh,Q1=>ev EU g.iter gh fun src Tr=>cw (xX tv g EU (jH ev tv elt gs)) src acc Tr Q1
noncomputable def pT (csc:Scope) (ρ:Loc):Loc:=fun x=>match csc.names.lookup x == some .free with
 | true=>ρ x
 | false=>none
noncomputable def Ce (sc:Scope) (xs:Option (List Str)):Bool:=match xs with
 | some xs=>xs.all (dz sc)
 | none=>false
noncomputable def sU (sc:Scope) (t:Expr):Bool:=Ce sc (namesOf t)
noncomputable def V0 (csc:Scope):Bool:=(csc.kind == .function)&&(csc.names.all (fun x=>x.2 != .cell)&&(csc.names.all (fun x=>x.2 != .local || csc.names.lookup x.1 == some .local)
 &&(csc.names.all (fun x=>x.2 != .free || csc.names.lookup x.1 == some .free)&&decide ((csc.names.map (·.1)).Nodup))))
noncomputable def freeOk (sc csc:Scope):Bool:=csc.names.all fun x=>x.2 != .free || ((sc.names.lookup x.1 == some .cell || sc.names.lookup x.1 == some .free))
noncomputable def jI (csc:Scope) (g:Comprehension):Bool:=(g.is_async == 0)&&(sU csc g.target&&jG g.iter)
noncomputable def Tt (sc csc:Scope) (gens:List Comprehension):Bool:=gens.all (jI csc)&&(V0 csc&&(freeOk sc csc&&decide ((gens.flatMap fun g=>eO g.target).Nodup)))
noncomputable def sV:Expr→Bool:=uP 26
noncomputable def uS:Expr→Bool:=uP 7
noncomputable def setIn (sc:Scope) (as:List Expr) (J7:List Keyword) (o:Option Str):Option Expr:=match o with
 | some g=>(match as with
  | [a]=>bif J7.isEmpty&&((g == "set")&&(dV sc "set"&&notStar a)) then some a else none
  | _=>none)
 | none=>none
noncomputable def setArg (sc:Scope) (args:List Expr):Option Expr:=match args with
 | [e]=>sel e none (fun zz=>none) (fun zz=>none) (fun zz=>none) (fun zz zz=>none) (fun zz zz=>none) (fun f as J7=>setIn sc as J7 (nameOf f)) (fun zz zz zz=>none) (fun zz zz zz=>none)
 | _=>none
noncomputable def xJ (args:List Expr):Option (Expr×Comprehension×List Comprehension×Scope):=match args with
 | [e]=>sel e none (fun zz=>none) (fun zz=>none) (fun zz=>none) (fun zz zz=>none) (fun zz zz=>none) (fun zz zz zz=>none) (fun elt gens csc=>match gens with
  | g::gs=>some (elt,g,gs,csc)
  | []=>none) (fun zz zz zz=>none)
 | _=>none
noncomputable def strOf (e:Expr):Option Str:=sel e none (fun zz=>none) (fun zz=>none) (fun k=>match k with
 | .str x=>some x
 | _=>none) (fun zz zz=>none) (fun zz zz=>none) (fun zz zz zz=>none) (fun zz zz zz=>none) (fun zz zz zz=>none)
inductive A9 (mh:MH) (Q:VQ):Val→Prop
 | mk {b:Addr} {l:List Val} {xs:List Int} (e:mh b=some (.list l)) (i:intsOf l=some xs) (h:l.length<60) (q:aH mh (.list (bj (qH (dedup xs)))) Q):A9 mh Q (.ref b)
inductive xK (mh:MH) (Q:VQ):List Val→Prop
 | mk {acc:List Val} {ps:List (Str×Val)} (e:pairsOf acc=some ps) (h:acc.length<bw) (q:∀ep,aH mh (.ax (ps.foldl (fun es p=>putK p.1 p.2 es) []) ep) Q):xK mh Q acc
inductive dE (mh:MH) (Q:VQ):List (Val×Val)→Prop
 | mk {ps:List (Val×Val)} {es:List (Str×Val)} (e:strPairs ps=some es) (q:∀ep,(ps=[]→ep=0)→aH mh (.ax (es.foldl (fun r p=>putK p.1 p.2 r) []) ep) Q):dE mh Q ps
inductive Ja (x y:Str) (mh:MH) (Q:VQ):Val→Prop
 | mk {t:Str} (n:x≠y) (h:t.length+(t.length+1) * y.length<bw) (q:Q (.str (Txt.replace t x y)) mh):Ja x y mh Q (.str t)
def qI (ev:Scope→Loc→Expr→MH→VQ→Prop) (tv:Scope→Loc→Expr→MH→BQ→Prop) (sc:Scope) (ρ:Loc) (elt:Expr) (g:Comprehension) (gs:List Comprehension) (csc:Scope) (mh:MH) (Q:List Val→MH→Prop):Prop:=
 fu (Tt sc csc (g::gs)) (ev sc ρ g.iter mh fun src c1=>cw (xX (tv csc) g (pT csc ρ) (jH (ev csc) (tv csc) elt gs)) src [] c1 Q)
noncomputable abbrev So:=Expr→Comprehension→List Comprehension→Scope→MH→(List Val→MH→Prop)→Prop
def Jb (ev:Expr→MH→VQ→Prop) (a:Option Expr) (mh:MH) (Q:VQ):Prop:=match a with
 | some a=>ev a mh fun v c1=>A9 c1 Q v
 | none=>False
def Sp (cE:So) (a:Option (Expr×Comprehension×List Comprehension×Scope)) (mh:MH) (Q:VQ):Prop:=match a with
 | some q=>cE q.1 q.2.1 q.2.2.1 q.2.2.2 mh fun acc gh=>xK gh Q acc
 | none=>False
def uT (c:Cfg) (d:Nat) (sc:Scope) (ev:Expr→MH→VQ→Prop) (cE:So) (f:Str) (args:List Expr) (mh:MH) (Q:VQ):Prop:=
 bif f == "sorted" then Jb ev (setArg sc args) mh Q
 else bif f == "dict" then Sp cE (xJ args) mh Q
 else bif Mw f then sT ev args mh fun vs c1=>eX c1 Q f vs
 else aX c f=true∧sT ev args mh fun vs c1=>aq c d f vs c1 Q
def Sq (ev:VQ→Prop) (a b:Option Str) (Q:VQ):Prop:=match a with
 | some x=>(match b with
  | some y=>ev fun ov c1=>Ja x y c1 Q ov
  | none=>False)
 | none=>False
def uU (c:Cfg) (d:Nat) (ev:Expr→MH→VQ→Prop) (o:Expr) (m:Str) (args:List Expr) (mh:MH) (Q:VQ):Prop:=
 bif m == "replace" then (match args with
  | [a,b]=>Sq (ev o mh) (strOf a) (strOf b) Q
  | _=>False)
 else ev o mh fun ov c1=>ak c c1 (fun k=>sT ev args c1 fun vs gh=>ar c d k m ov vs gh Q) m ov
def YB (e:Expr) (z:Prop) (fi:Option Expr→Option Expr→Option Expr→Prop):Prop:=sel e z (fun zz=>z) (fun zz=>z) (fun zz=>z) (fun zz zz=>z) (fun zz zz=>z) (fun zz zz zz=>z) (fun zz zz zz=>z) fi
mutual
noncomputable def aJ (c:Cfg) (d:Nat):Nat→Scope→Loc→Expr→MH→VQ→Prop
 | 0,_,_,_,_,_=>False
 | n+1,sc,ρ,e,mh,Q=>match e with
   | .Constant k _ _=>Mu k mh Q
   | .Name x _=>fu (uQ x) (Mt c sc ρ x mh Q)
   | .BoolOp op es _=>I6 (aJ c d n sc ρ) op es mh Q
   | .BinOp l op r _=>aJ c d n sc ρ l mh fun a c1=>aJ c d n sc ρ r c1 fun b gh=>aY gh Q op a b
   | .UnaryOp op x _=>aJ c d n sc ρ x mh fun v c1=>(match op with
    | .Not=>jF (fun b=>Q (.bool (!b)) c1) v
    | .USub=>P7 (fun i=>Q (.int (-i)) c1) v
    | _=>False)
   | .IfExp t a b _=>dq c d n sc ρ t mh fun r c1=>(match r with
    | true=>aJ c d n sc ρ a c1 Q
    | false=>aJ c d n sc ρ b c1 Q)
   | .Compare l ops rs _=>fu (rs.all uS) (aJ c d n sc ρ l mh fun a c1=>nX (aJ c d n sc ρ) ops rs a c1 fun b gh=>Q (.bool b) gh)
   | .Tuple es _ _=>fu (decide (es.length<bw)&&es.all notStar) (sT (aJ c d n sc ρ) es mh fun vs c1=>Q (.tup vs) c1)
   | .List es _=>fu (decide (es.length<bw)&&es.all notStar) (sT (aJ c d n sc ρ) es mh fun vs c1=>aH c1 (.list vs) Q)
   | .Dict ks vs _=>fu (decide (ks.length≤15)&&(ks.all (·.isSome)&&decide (ks.length=vs.length))) (Ca (aJ c d n sc ρ) ks vs mh fun ps c1=>dE c1 Q ps)
   | .Attribute o x _=>fu (baseOk o) (aJ c d n sc ρ o mh fun ov c1=>ao c1 Q ov x)
   | .Subscript o i _=>aJ c d n sc ρ o mh fun ov c1=>YB i (aJ c d n sc ρ i c1 fun iv gh=>ay gh Q ov iv)
    fun lo up st=>P8 (aJ c d n sc ρ) lo c1 fun l gh=>P8 (aJ c d n sc ρ) up gh fun u Tr=>P8 (aJ c d n sc ρ) st Tr fun t mh4=>e8 mh4 Q ov l u t
   | .ListComp elt gens csc _=>(match gens with
    | []=>False
    | g::gs=>qI (aJ c d n) (dq c d n) sc ρ elt g gs csc mh fun acc gh=>aH gh (.list acc) Q)
   | .Call f args J7 pos=>fu (J7.isEmpty&&(decide (args.length<29)&&args.all notStar)) (match f with
    | .Name f _=>fu (uQ f&&dV sc f) (uT c d sc (aJ c d n sc ρ) (qI (aJ c d n) (dq c d n) sc ρ) f args mh Q)
    | .Attribute o m apos=>fu (baseOk o&&(apos.endLine == pos.line)) (uU c d (aJ c d n sc ρ) o m args mh Q)
    | _=>False)
   | _=>False
noncomputable def dq (c:Cfg) (d:Nat):Nat→Scope→Loc→Expr→MH→BQ→Prop
 | 0,_,_,_,_,_=>False
 | n+1,sc,ρ,e,mh,Q=>match e with
   | .UnaryOp op x p=>(match op with
    | .Not=>dq c d n sc ρ x mh fun b c1=>Q (!b) c1
    | op=>aJ c d n sc ρ (.UnaryOp op x p) mh fun v c1=>jF (fun b=>Q b c1) v)
   | .BoolOp op es _=>P9 (dq c d n sc ρ) op es mh Q
   | .Compare l ops rs _=>fu (rs.all uS) (aJ c d n sc ρ l mh fun a c1=>nX (aJ c d n sc ρ) ops rs a c1 Q)
   | .IfExp _ _ _ _=>False
   | e=>aJ c d n sc ρ e mh fun v c1=>jF (fun b=>Q b c1) v
end
def jJ (ev:Expr→MH→VQ→Prop) (sc:Scope) (t:Expr) (v:Val) (ρ:Loc) (mh:MH) (Q:Loc→MH→Prop):Prop:=sel t False (fun x=>fu (dz sc x) (Q (ρ.put x v) mh)) (fun zz=>False) (fun zz=>False)
 (fun o x=>ev o mh fun ov c1=>aS c1 v (Q ρ) ov x)
 (fun o i=>fu (sV i) (ev o mh fun ov c1=>ev i c1 fun iv gh=>bb gh v (Q ρ) ov iv)) (fun zz zz zz=>False) (fun zz zz zz=>False) (fun zz zz zz=>False)
noncomputable def jK (ev:Loc→Expr→MH→VQ→Prop) (sc:Scope):List Expr→List Val→Loc→MH→(Loc→MH→Prop)→Prop
 | [],vs,ρ,mh,Q=>(match vs with
  | []=>Q ρ mh
  | _::_=>False)
 | t::ts,vs,ρ,mh,Q=>match vs with
  | v::vs=>jJ (ev ρ) sc t v ρ mh fun cN aD=>jK ev sc ts vs cN aD Q
  | []=>False
def i5 (ev:Loc→Expr→MH→VQ→Prop) (sc:Scope) (t:Expr) (v:Val) (ρ:Loc) (mh:MH) (Q:Loc→MH→Prop):Prop:=J5 t (jJ (ev ρ) sc t v ρ mh Q) (fun zz=>jJ (ev ρ) sc t v ρ mh Q) fun ts=>fu (ts.all notStar) (Vk ts.length (fun vs=>jK ev sc ts vs ρ mh Q) v)
noncomputable def bX (v:Val):Bool:=match v with
 | .ref _=>false
 | .tup _=>false
 | .xG _=>false
 | _=>true
noncomputable def Qa (e:Expr):Bool:=Nat.beq e.ctorIdx 16
noncomputable def Cf (sc:Scope) (t e:Expr):Bool:=uP 24 t&&(uP 22 t&&J5 t true (dz sc) fun zz=>J5 e true (fun zz=>true) fun vs=>(!(vs.all (constantsAlone 8)) || vs.all (foldedForSure 8))&&decide ((eO t).Nodup))
noncomputable def gy (c:Cfg) (d:Nat):Nat→Scope→Stmt→Loc→MH→SQ→Prop
 | 0,_,_,_,_,_=>False
 | n+1,sc,st,ρ,mh,Q=>match st with
   | .Expr e _=>fu (Qa e) (aJ c d n sc ρ e mh fun v c1=>fu (bX v) (Q none ρ c1))
   | .Return o _=>(match o with
    | some e=>aJ c d n sc ρ e mh fun v c1=>Q (some v) ρ c1
    | none=>False)
   | .Assign ts e _=>(match ts with
    | [t]=>fu (Cf sc t e) (aJ c d n sc ρ e mh fun v c1=>i5 (fun cN=>aJ c d n sc cN) sc t v ρ c1 fun cN gh=>Q none cN gh)
    | _=>False)
   | .If t a b _=>dq c d n sc ρ t mh fun r c1=>(match r with
    | true=>eA (gy c d n sc) a ρ c1 Q
    | false=>eA (gy c d n sc) b ρ c1 Q)
   | .For t e body orelse _=>fu (orelse.isEmpty&&jG e) (aJ c d n sc ρ e mh fun src c1=>dc (fun x vs aD Q'=>i5 (fun cN=>aJ c d n sc cN) sc t x (L (slots sc) vs) aD fun cN jn=>eA (gy c d n sc) body cN jn fun f cN jn=>Q' f (nY sc cN) jn) src (nY sc ρ) c1 fun f vs gh=>Q f (L (slots sc) vs) gh)
   | .While t body orelse _=>fu orelse.isEmpty (∃k,uR (fun vs aD Q'=>dq c d n sc (L (slots sc) vs) t aD Q') (fun vs aD Q'=>eA (gy c d n sc) body (L (slots sc) vs) aD fun f cN jn=>Q' f (nY sc cN) jn) k (nY sc ρ) mh fun f vs gh=>Q f (L (slots sc) vs) gh)
   | _=>False
def q6 (env:Env) (a:Addr):Prop:=a=env.locals∨∃x,(x,a)∈env.cells
structure dU (c:Cfg) (sc:Scope) (env:Env) (ρ:Loc) (D:Addr→Addr) (mh:MH) (h:Heap):Prop where
 kind:env.scope.kind= .function
 glob:env.globals=mainGlobals
 blt:env.builtins=builtinsNs
 Qc:∀x,env.kindOf x=sc.names.lookup x∨(sc.names.lookup x=some .free∧env.kindOf x=some .cell)
 fr:∀a,q6 env a→¬In D mh a∧c.h₀.get? a=none∧∃o,h.get? a=some o∧¬ET o
 ns:∃m,h.Ns env.locals m∧∀x v,env.kindOf x=some .local→ρ x=some v→∃u,m x=some u∧VR h v u
 cell:∀x,(env.kindOf x=some .cell∨env.kindOf x=some .free)→∃a u,env.cells.lookup x=some a∧h.IsCell a u∧∀v,ρ x=some v→∃u',u=some u'∧VR h v u'
 apart:env.cells.Pairwise fun x y=>x.2≠y.2
theorem Heap.Ba {h h':Heap} {a:Addr} {u} (x:h.IsCell a u) (k:∀o,h.get? a=some o→h'.get? a=some o):h'.IsCell a u:=(by obtain ⟨o,ho,hd⟩:=x;exact ⟨o,k o ho,hd⟩)
theorem dU.post {c sc env ρ D mh} {s s':Shared} {X:Addr→Prop} {D' aD} (V:dU c sc env ρ D mh s.heap) (p:a9 c X D mh s D' aD s') (hx:∀a,q6 env a→¬X a):dU c sc env ρ D' aD s'.heap:=by
 have keep:∀a,q6 env a→∀o,s.heap.get? a=some o→s'.heap.get? a=some o:=fun a f o e=>p.keep a o e (V.fr a f).1 (hx a f)
 refine ⟨V.kind,V.glob,V.blt,V.Qc,fun a f=>?_,?_,fun x hk=>?_,V.apart⟩
 ·obtain ⟨h1,h2,o,ho,hi⟩:=V.fr a f
  refine ⟨fun i=>?_,h2,o,keep a f o ho,hi⟩
  rcases p.own a i with i | i
  ·exact h1 i
  ·exact bQ ho i
 ·obtain ⟨m,hn,hm⟩:=V.ns
  refine ⟨m,hn.at' (keep _ (.inl rfl)),fun x v hk hv=>?_⟩
  obtain ⟨u,e,r⟩:=hm x v hk hv
  exact ⟨u,e,r.keep p.vk⟩
 ·obtain ⟨a,u,hc,nZ,hv⟩:=V.cell x hk
  refine ⟨a,u,hc,Heap.Ba nZ (keep a (.inr ⟨x,mem_of_lookup hc⟩)),fun v e=>?_⟩
  obtain ⟨u',e',r⟩:=hv v e
  exact ⟨u',e',r.keep p.vk⟩
theorem dU.sW {c sc env ρ D mh} {s s':Shared} {D' aD} (V:dU c sc env ρ D mh s.heap) (p:aV c D mh s D' aD s'):dU c sc env ρ D' aD s'.heap:=V.post p fun zz zz x=>x
theorem dU.free {c sc env ρ D mh h} (V:dU c sc env ρ D mh h) {cN:Loc} (hρ:∀x v,cN x=some v→ρ x=some v):dU c sc env cN D mh h:=
 ⟨V.kind,V.glob,V.blt,V.Qc,V.fr,(by obtain ⟨m,hn,hm⟩:=V.ns;exact ⟨m,hn,fun x v hk hv=>hm x v hk (hρ x v hv)⟩),
  fun x hk=>(by obtain ⟨a,u,h1,h2,h3⟩:=V.cell x hk;exact ⟨a,u,h1,h2,fun v e=>h3 v (hρ x v e)⟩),V.apart⟩
section
variable {c:Cfg} {A:Around} {E:Value→Shared→Prop} {s:Shared} {sc:Scope} {env:Env} {ρ:Loc} {D:Addr→Addr} {mh:MH}
theorem wA (V:dU c sc env ρ D mh s.heap) {x:Str} (h:isVar sc x=true):env.kindOf x=some .local∨env.kindOf x=some .cell∨env.kindOf x=some .free:=by
 unfold isVar at h
 rcases V.Qc x with e | ⟨_,e⟩
 ·rw [e]
  cases q:sc.names.lookup x with
  | none=>rw [q] at h;exact iZ h
  | some k=>
    rw [q] at h
    cases k with
    | «local»=>exact .inl rfl
    | cell=>exact .inr (.inl rfl)
    | free=>exact .inr (.inr rfl)
    | _=>exact iZ h
 ·exact .inr (.inl e)
theorem wB (V:dU c sc env ρ D mh s.heap) {x:Str} (h:dV sc x=true):env.kindOf x=some .globalImplicit:=by
 unfold dV at h
 rcases V.Qc x with e | ⟨e,_⟩
 ·rw [e]
  cases q:sc.names.lookup x with
  | none=>rw [q] at h;exact iZ h
  | some k=>
    rw [q] at h
    cases k with
    | globalImplicit=>rfl
    | _=>exact iZ h
 ·rw [e] at h;exact iZ h
theorem Qd {x:Str} {v:Val} {Q:Value→Shared→Prop} (V:dU c sc env ρ D mh s.heap) (hv:isVar sc x=true) (hx:ρ x=some v) (hn:(x == ("__classdict__":Str))=false)
 (h:∀u,VR s.heap v u→Q u s):wpAny (model c.prog c.w) A (loadName env x) Q E s:=by
 rcases wA V hv with hk | hk | hk
 ·obtain ⟨m,Vl,hm⟩:=V.ns
  obtain ⟨u,e,r⟩:=hm x v hk hx
  exact wpAny_loadName_local V.kind hk Vl e (h u r)
 ·obtain ⟨a,u,hc,nZ,Tu⟩:=V.cell x (.inl hk)
  obtain ⟨u',rfl,r⟩:=Tu v hx
  exact wpAny_loadName_cell V.kind hk hc nZ (h u' r)
 ·obtain ⟨a,u,hc,nZ,Tu⟩:=V.cell x (.inr hk)
  obtain ⟨u',rfl,r⟩:=Tu v hx
  exact wpAny_loadName_free V.kind hk hc nZ (h u' r) hn
theorem xY {x:Str} {v:Value} {mg:Str→Option Value} {Q:Value→Shared→Prop} (hg:s.heap.Ns env.globals mg) (e:mg x=some v) (h:Q v s):wpAny (model c.prog c.w) A (loadGlobal env x) Q E s:=by
 unfold loadGlobal
 refine wpAny_bind (wpAny_nsGet hg ?_)
 rw [e]
 exact wpAny_pure h
theorem wU {x:Str} {v:Value} {mg mb:Str→Option Value} {Q:Value→Shared→Prop} (hg:s.heap.Ns env.globals mg) (hb:s.heap.Ns env.builtins mb) (e:mg x=none) (e':mb x=some v) (h:Q v s):wpAny (model c.prog c.w) A (loadGlobal env x) Q E s:=by
 unfold loadGlobal
 refine wpAny_bind (wpAny_nsGet hg ?_)
 rw [e]
 refine wpAny_bind (wpAny_nsGet hb ?_)
 rw [e']
 exact wpAny_pure h
theorem mF {x:Str} {Q:Value→Shared→Prop} (hk:env.scope.kind= .function) (hx:env.kindOf x=some .globalImplicit) (h:wpAny (model c.prog c.w) A (loadGlobal env x) Q E s):
 wpAny (model c.prog c.w) A (loadName env x) Q E s:=by
 unfold loadName
 have e:env.blockKind= .function:=by unfold Env.blockKind;rw [hk];rfl
 rw [hx,e,hk]
 exact h
theorem Jc (O:c.Ok) {x:Str} {v:Value} {Q:Value→Shared→Prop} (V:dU c sc env ρ D mh s.heap) (R:Rel c D mh s.heap) (hx:dV sc x=true) (e:nsIn c.K mainGlobals x=some (some v))
 (h:Q v s):wpAny (model c.prog c.w) A (loadName env x) Q E s:=by
 refine mF V.kind (wB V hx) (xY (mg:=c.mg) ?_ (mg_of O.X O.g e) h)
 rw [V.glob]
 exact O.g.keeps R.old
theorem sX (O:c.Ok) {x:Str} {v:Value} {Q:Value→Shared→Prop} (V:dU c sc env ρ D mh s.heap) (R:Rel c D mh s.heap) (hx:dV sc x=true) (e:nsIn c.K mainGlobals x=some none) (e':bootBuiltins x=some v) (hn:x≠"__name__")
 (h:Q v s):wpAny (model c.prog c.w) A (loadName env x) Q E s:=by
 refine mF V.kind (wB V hx) (wU (mg:=c.mg) (mb:=c.mb) ?_ ?_ (mg_none_of O.X O.g e) ((O.boot x hn).trans e') h)
 ·rw [V.glob];exact O.g.keeps R.old
 ·rw [V.blt];exact O.b.keeps R.old
theorem J8 {h:Heap} {xs:List Value}:∀{l:List Val},strsOf xs=some l→cX h l xs:=by
 induction xs with
 | nil=>rintro _ e;obtain rfl:=Option.some.inj e;rfl
 | cons x r ih=>
   rintro l e
   cases x with
   | str s t=>
     obtain ⟨l',e',rfl⟩:=Option.map_eq_some_iff.mp (show (strsOf r).map (fun l=>Val.str s::l)=some l from e)
     exact ⟨_,_,rfl,⟨t,rfl⟩,ih e'⟩
   | _=>exact a8 e
theorem Qe (O:c.Ok) (R:Rel c D mh s.heap) {x:Str} {v:Val} (e:p9 c.K x=some v):∃u,nsIn c.K mainGlobals x=some (some u)∧VR s.heap v u:=by
 unfold p9 at e
 cases q:nsIn c.K mainGlobals x with
 | none=>rw [q] at e;exact a8 e
 | some o=>
   cases o with
   | none=>rw [q] at e;exact a8 e
   | some u=>
     rw [q] at e
     refine ⟨u,rfl,?_⟩
     cases u with
     | int i t=>obtain rfl:=Option.some.inj e;exact ⟨t,rfl⟩
     | str i t=>obtain rfl:=Option.some.inj e;exact ⟨t,rfl⟩
     | ref a=>
       dsimp only at e
       cases q':c.K.lookup a with
       | none=>rw [q'] at e;exact a8 e
       | some o=>
         rw [q'] at e
         dsimp only at e
         by_cases hc:o.cls= .type "tuple"
         ·rw [if_pos hc] at e
          cases hd:o.data with
          | seq xs n=>
            rw [hd] at e
            obtain ⟨l,e',rfl⟩:=Option.map_eq_some_iff.mp e
            exact ⟨a,xs,rfl,⟨o,R.old _ _ (O.X _ _ q'),hc,n,hd⟩,J8 e'⟩
          | _=>rw [hd] at e;exact a8 e
         ·exact bQ e (if_neg hc)
     | _=>exact a8 e
theorem My (O:c.Ok) {x:Str} {Q:VQ} {T:Value→Shared→Prop} (V:dU c sc env ρ D mh s.heap) (R:Rel c D mh s.heap) (hW:Mt c sc ρ x mh Q) (hn:(x == ("__classdict__":Str))=false)
 (h:∀u v,VR s.heap v u→Q v mh→T u s):wpAny (model c.prog c.w) A (loadName env x) T E s:=by
 unfold Mt at hW
 cases hv:isVar sc x with
 | true=>
   rw [hv] at hW
   obtain ⟨v,e,q⟩:=I1 hW
   exact Qd V hv e hn fun u r=>h u v r q
 | false=>
   rw [hv] at hW
   cases hg:dV sc x with
   | true=>
     rw [hg] at hW
     obtain ⟨v,e,q⟩:=I1 hW
     obtain ⟨u,e',r⟩:=Qe O R e
     exact Jc O V R hg e' (h u v r q)
   | false=>rw [hg] at hW;exact hW.elim
def SX (env:Env) (x:Str) (a:Addr):Prop:=a=env.locals∨(env.kindOf x=some .cell∧q6 env a)
theorem J9 {x:Str} {v:Val} {u:Value} {Q:Unit→Shared→Prop} (V:dU c sc env ρ D mh s.heap) (R:Rel c D mh s.heap) (hv:isVar sc x=true) (hr:VR s.heap v u) (hnf:sc.names.lookup x≠some .free)
 (h:∀s',a9 c (SX env x) D mh s D mh s'→dU c sc env (ρ.put x v) D mh s'.heap→Q () s'):wpAny (model c.prog c.w) A (storeName env x u) Q E s:=by
 have kinds:env.kindOf x=some .local∨env.kindOf x=some .cell:=by
  rcases V.Qc x with e | ⟨e,_⟩
  ·rcases wA V hv with k | k | k
   ·exact .inl k
   ·exact .inr k
   ·rw [e] at k;exact absurd k hnf
  ·exact absurd e hnf
 obtain ⟨zZ,mG,oL,V2,iL⟩:=V.fr env.locals (.inl rfl)
 obtain ⟨m,Vl,hm⟩:=V.ns
 rcases kinds with hk | hk
 ·refine wpAny_storeName_local hk Vl (fun h' wy e9=>?_) (by rw [V.kind];rfl)
  have P:a9 c (SX env x) D mh s D mh { s with heap:=h',toks:=s.toks+1 }:=aV.but R V2 iL zZ mG (.inl rfl) e9.extBut
  refine h _ P ⟨V.kind,V.glob,V.blt,V.Qc,fun a f=>?_,⟨_,wy,fun y w Ka hw=>?_⟩,fun y Ka=>?_,V.apart⟩
  ·obtain ⟨h1,h2,o,ho,hi⟩:=V.fr a f
   refine ⟨h1,h2,?_⟩
   by_cases ha:a=env.locals
   ·subst ha
    obtain ⟨o',es,ep,Cg,Mi,_⟩:=wy
    exact ⟨o',Cg,bD Mi⟩
   ·exact ⟨o,e9.extBut _ _ ha ho,hi⟩
  ·by_cases hy:y=x
   ·subst hy
    simp only [Loc.put,if_true] at hw⊢
    obtain rfl:=Option.some.inj hw
    exact ⟨u,rfl,hr.keep P.vk⟩
   ·simp only [Loc.put,if_neg hy] at hw⊢
    obtain ⟨u',e,r⟩:=hm y w Ka hw
    exact ⟨u',e,r.keep P.vk⟩
  ·obtain ⟨a,w,hc,nZ,Tu⟩:=V.cell y Ka
   have Tv:y≠x:=by rintro rfl;rw [hk] at Ka;rcases Ka with q | q<;>cases q
   have YC:a≠env.locals:=by
    rintro rfl
    obtain ⟨o1,e1,d1⟩:=nZ
    obtain ⟨o2,es,ep,e2,d2,_⟩:=Vl
    obtain rfl:=both e1 e2;rw [d1] at d2;cases d2
   refine ⟨a,w,hc,nZ.sameBut e9 YC,fun v' e=>?_⟩
   simp only [Loc.put,if_neg Tv] at e
   obtain ⟨u',e',r⟩:=Tu v' e
   exact ⟨u',e',r.keep P.vk⟩
 ·obtain ⟨a,w,hc,nZ,_⟩:=V.cell x (.inl hk)
  have fa:q6 env a:=.inr ⟨x,mem_of_lookup hc⟩
  obtain ⟨g1,g2,oa,hoa,ia⟩:=V.fr a fa
  have YC:env.locals≠a:=by
   rintro rfl
   obtain ⟨o1,e1,d1⟩:=nZ
   obtain ⟨o2,es,ep,e2,d2,_⟩:=Vl
   obtain rfl:=both e1 e2;rw [d1] at d2;cases d2
  refine wpAny_storeName_cell V.kind hk hc nZ fun h' hc' e9=>?_
  have P:a9 c (SX env x) D mh s D mh { s with heap:=h' }:=aV.but R hoa ia g1 g2 (.inr ⟨hk,fa⟩) e9.extBut
  refine h _ P ⟨V.kind,V.glob,V.blt,V.Qc,fun b f=>?_,⟨m,Vl.sameBut e9 YC,fun y w Ka hw=>?_⟩,fun y Ka=>?_,V.apart⟩
  ·obtain ⟨h1,h2,o,ho,hi⟩:=V.fr b f
   refine ⟨h1,h2,?_⟩
   by_cases hb:b=a
   ·subst hb
    obtain ⟨o',Cg,Mi⟩:=hc'
    exact ⟨o',Cg,sR Mi⟩
   ·exact ⟨o,e9.extBut _ _ hb ho,hi⟩
  ·have Tv:y≠x:=by rintro rfl;rw [hk] at Ka;cases Ka
   simp only [Loc.put,if_neg Tv] at hw
   obtain ⟨u',e,r⟩:=hm y w Ka hw
   exact ⟨u',e,r.keep P.vk⟩
  ·by_cases Tv:y=x
   ·subst Tv
    refine ⟨a,_,hc,hc',fun v' e=>?_⟩
    simp only [Loc.put,if_true] at e
    obtain rfl:=Option.some.inj e
    exact ⟨u,rfl,hr.keep P.vk⟩
   ·obtain ⟨b,w',hb,hcb,Tu⟩:=V.cell y Ka
    have hba:b≠a:=by
     rintro rfl
     exact Tv (name_of_addr V.apart (mem_of_lookup hb) (mem_of_lookup hc))
    refine ⟨b,w',hb,hcb.sameBut e9 hba,fun v' e=>?_⟩
    simp only [Loc.put,if_neg Tv] at e
    obtain ⟨u',e',r⟩:=Tu v' e
    exact ⟨u',e',r.keep P.vk⟩
theorem dU.alive {c sc env ρ D mh h} (V:dU c sc env ρ D mh h):∀a,q6 env a→∃o,h.get? a=some o:=fun a f=>(by obtain ⟨_,_,o,ho,_⟩:=V.fr a f;exact ⟨o,ho⟩)
end
def KV (c:Cfg) (D:Addr→Addr) (mh:MH) (s:Shared) (Q:VQ) (T:Value→Shared→Prop):Prop:=
 ∀u s' v D' aD,aV c D mh s D' aD s'→VR s'.heap v u→Q v aD→T u s'
theorem aV.tok {c:Cfg} {X D mh} {s:Shared} {t':Nat} (R:Rel c D mh s.heap):a9 c X D mh s D mh { s with toks:=t' }:=aV.ext R fun zz zz e=>e
theorem KV.same {c D mh} {s:Shared} {Q T} (k:KV c D mh s Q T) (R:Rel c D mh s.heap) {u:Value} {v:Val} (r:VR s.heap v u) (q:Q v mh):T u s:=k u s v D mh (.refl R) r q
theorem KV.tok {c D mh} {s:Shared} {Q T} (k:KV c D mh s Q T) (R:Rel c D mh s.heap) {u:Value} {v:Val} {t:Nat} (r:VR s.heap v u) (q:Q v mh):T u { s with toks:=t }:=k u _ v D mh (aV.tok R) r q
theorem KV.trans {c D mh} {s:Shared} {Q T} (k:KV c D mh s Q T) {s':Shared} {D' aD} (p:aV c D mh s D' aD s'):KV c D' aD s' Q T:=fun u Qf v D'' jn p' r q=>k u Qf v D'' jn (p.trans p') r q
section
variable {c:Cfg} {A:Around} {E:Value→Shared→Prop} {s:Shared} {D:Addr→Addr} {mh:MH} {d:Nat}
theorem VR.int {h:Heap} {i:Int} {u:Value} (r:VR h (.int i) u):∃t,u= .int i t:=r
theorem VR.str {h:Heap} {i:Str} {u:Value} (r:VR h (.str i) u):∃t,u= .str i t:=r
theorem VR.bool {h:Heap} {b:Bool} {u:Value} (r:VR h (.bool b) u):u= .bool b:=r
theorem VR.none {h:Heap} {u:Value} (r:VR h .none u):u= .none:=r
theorem VR.ref {h:Heap} {a:Addr} {u:Value} (r:VR h (.ref a) u):u= .ref a:=r
theorem VR.ofInt {h:Heap} {i:Int} {t:Tok}:VR h (.int i) (.int i t):=⟨t,rfl⟩
theorem VR.ofStr {h:Heap} {i:Str} {t:Tok}:VR h (.str i) (.str i t):=⟨t,rfl⟩
theorem Jd {n:Nat} (h:n<bw):n≤16777216:=Nat.le_trans (Nat.le_of_lt h) (Nat.le_of_ble_eq_true rfl)
theorem Bb {n:Nat} (h:n<bw):n+1≤sizeLine:=by rw [sizeLine_eq];exact Nat.le_trans h (Nat.le_of_ble_eq_true rfl)
theorem cx {n:Nat} (h:n<bw):n≤sizeLine:=Nat.le_of_succ_le (Bb h)
theorem KV.list {Q:VQ} {T:Value→Shared→Prop} (k:KV c D mh s Q T) (R:Rel c D mh s.heap) {l:List Val} {xs:Array Value} {n:Nat} {t:Nat} (r:cX s.heap l xs.toList) (q:aH mh (.list l) Q):
 T (.ref s.heap.objs.size) { s with heap:=s.heap.push { cls:=.type "list",data:=.seq xs n },toks:=t }:=by
 have e:=Heap.ba s.heap (Nat.le_refl _)
 refine k _ _ (.ref s.heap.objs.size) D _ (aV.new (o':=.list l) R (fun zz zz q=>nomatch q) ?_) rfl (q _ (MH.fresh (R.fresh e)))
 exact ⟨xs,n,Heap.get?_push_size _ rfl,r.keep (.push _ _)⟩
theorem KV.tup {Q:VQ} {T:Value→Shared→Prop} (k:KV c D mh s Q T) (R:Rel c D mh s.heap) {l:List Val} {xs:Array Value} {n:Nat} {t:Nat} (r:cX s.heap l xs.toList) (q:Q (.tup l) mh):
 T (.ref s.heap.objs.size) { s with heap:=s.heap.push { cls:=.type "tuple",data:=.seq xs n },toks:=t }:=by
 refine k _ _ (.tup l) D mh (aV.push R) ⟨_,xs,rfl,⟨_,Heap.get?_push_size _ rfl,rfl,n,rfl⟩,r.keep (.push _ _)⟩ q
theorem listAt {a:Addr} {l:List Val} (R:Rel c D mh s.heap) (e:mh a=some (.list l)):∃items,s.heap.IsList a items∧cX s.heap l items.toList:=(by obtain ⟨xs,n,h,v⟩:=R.obj a _ e;exact ⟨xs,⟨_,h,rfl,n,rfl⟩,v⟩)
theorem gW {a:Addr} {l:List Val} (R:Rel c D mh s.heap) (e:mh a=some (.list l)):∃items n,s.heap.get? a=some (PySem.W.listOf items n)∧cX s.heap l items.toList:=R.obj a _ e
theorem Mz {y:Int} (h0:0≤y) (h2:y<((bw:Nat):Int)):¬(!Builtin.List.listFitsIndex y)=true:=by
 have e:(2:Int) ^ 63=9223372036854775808:=by decide
 have :Builtin.List.listFitsIndex y=true:=by
  unfold Builtin.List.listFitsIndex
  rw [Bool.and_eq_true,decide_eq_true_eq,decide_eq_true_eq,e]
  exact ⟨Int.le_trans (by decide) h0,Int.lt_trans h2 (by decide)⟩
 rw [this];decide
theorem E9 {n:Nat} (h:n<bw):¬Builtin.List.listTooLong n=true:=by
 unfold Builtin.List.listTooLong
 rw [decide_eq_true_eq,sizeLine_eq]
 exact Nat.not_lt.mpr (Jd h)
theorem MA {n:Nat} (h:n<bw):¬n > (2 ^ 63 - 1) / 8:=by
 exact Nat.not_lt.mpr (Nat.le_of_lt (Nat.lt_of_lt_of_le h (Nat.le_of_ble_eq_true rfl)))
theorem cX.rep {h:Heap} {l:List Val} {us:List Value} (r:cX h l us):∀n,cX h (List.replicate n l).flatten (List.replicate n us).flatten
 | 0=>rfl
 | n+1=>by rw [List.replicate_succ,List.replicate_succ,List.flatten_cons,List.flatten_cons];exact r.append (cX.rep r n)
theorem cX.size {h:Heap} {l:List Val} {a:Array Value} (r:cX h l a.toList):a.size=l.length:=by rw [←Array.length_toList];exact r.length
theorem Fb {h:Heap} {t:Addr} {items:Array Value} (x:IsTup h t items):∃dd n sl,h.get? t=some ⟨.type "tuple",dd,.seq items n,sl⟩:=by
 obtain ⟨⟨cls,dd,data,sl⟩,ho,hc,n,hd⟩:=x
 obtain rfl:=hc;obtain rfl:=hd
 exact ⟨dd,n,sl,ho⟩
theorem Bc {h:Heap} {l:List Val} {a:Array Value} (r:cX h l a.toList) (n:l≠[]):¬a.isEmpty=true:=fun q=>n (List.length_eq_zero_iff.mp (r.size.symm.trans (of_decide_eq_true q)))
theorem Qg {op:Operator} {a b:Val} {ua ub:Value} {Q:VQ} {T:Value→Shared→Prop} (O:c.Ok) (HA:wz A d) (R:Rel c D mh s.heap) (ra:VR s.heap a ua) (rb:VR s.heap b ub) (hW:aY mh Q op a b) (k:KV c D mh s Q T):
 wpAny (model c.prog c.w) A (binaryOp op ua ub) T E s:=by
 cases hW with
 | uM q=>obtain ⟨t,rfl⟩:=ra;obtain ⟨t',rfl⟩:=rb;exact add_int (k.tok R .ofInt q)
 | VX h q=>obtain ⟨t,rfl⟩:=ra;obtain ⟨t',rfl⟩:=rb;exact PyProof.Rows.add_str (fun zz zz=>k.tok R .ofStr q) (cx h)
 | VY n1 n2 h q=>
   obtain ⟨ta,ia,rfl,ha,va⟩:=ra
   obtain ⟨tb,ib,rfl,hb,vb⟩:=rb
   obtain ⟨dd,n,sl,ho⟩:=Fb ha
   obtain ⟨dd2,n',sl2,ho2⟩:=Fb hb
   exact concat_meets ⟨_,ho,rfl⟩ ⟨_,ho2,rfl⟩ noFill_tuple_add seq_tuple_add PySem.F.slot_tuple_add PySem.F.entry_tuple_add (PySem.F.args_tuple_add_2 _ _)
    (tuple_addW2 ta tb ia ib n n' dd dd2 sl sl2 (Bc va n1) (Bc vb n2) (by rw [va.size,vb.size];exact cx h)) ⟨ho,ho2,k.tup R (by rw [Array.toList_append];exact va.append vb) q⟩
 | fY e e' h q=>
   obtain rfl:=ra;obtain rfl:=rb
   obtain ⟨ia,n,ha,va⟩:=gW R e
   obtain ⟨ib,n',hb,vb⟩:=gW R e'
   exact concat_meets ⟨_,ha,rfl⟩ ⟨_,hb,rfl⟩ noFill_list_add seq_list_add PySem.F.slot_list_add PySem.F.entry_list_add (PySem.F.args_list_add_2 _ _) (list_addW _ _ ia ib n n' _ _ _ _ (by rw [va.size,vb.size];exact cx h))
    ⟨ha,hb,k.list R (by rw [Array.toList_append];exact va.append vb) q⟩
 | sub q=>obtain ⟨t,rfl⟩:=ra;obtain ⟨t',rfl⟩:=rb;exact PyProof.Rows.sub_int (k.tok R .ofInt q)
 | E5 h q=>obtain ⟨t,rfl⟩:=ra;obtain ⟨t',rfl⟩:=rb;exact PyProof.Rows.mul_int (k.tok R .ofInt q) h
 | @mulL x y l e h0 h1 h2 q=>
   obtain rfl:=ra;obtain ⟨t',rfl⟩:=rb
   obtain ⟨ia,n,ha,va⟩:=gW R e
   have xZ:ia.size * y.toNat<bw:=by
    rw [va.size]
    have e1:(y.toNat:Int)=y:=Int.toNat_of_nonneg h0
    have :((l.length * y.toNat:Nat):Int)<((bw:Nat):Int):=by rw [Int.natCast_mul,e1,Int.mul_comm];exact h1
    exact Int.ofNat_lt.mp this
   exact wpAny_binaryOp_repeat_ref (T:="list") (U:="int") (by decide) ⟨_,ha,rfl⟩ (fun s'=>typeIs_int s' y t') noFill_list_mul F.fills_int_mul F.slot_int_rmul repeat_list F.slot_int_index.lookup
    (call_meets F.slot_int_rmul (typeIs_int s y t') F.entry_int_rmul (F.args_int_rmul_2 _ _) (lm_int_rmul_list_any y t' x ia n _ _)
     ⟨ha,rfl,⟨_,ha,rfl⟩,call_meets F.slot_list_mul ⟨_,ha,rfl⟩ F.entry_list_mul (F.args_list_mul_2 _ _)
      (lm_list_mul_any x ia n _ _ y t' (Mz h0 h2) (MA xZ) (E9 xZ))
      ⟨ha,k.list R (by rw [listMul_foldl_if];exact va.rep _) q⟩⟩)
 | mod h q=>obtain ⟨t,rfl⟩:=ra;obtain ⟨t',rfl⟩:=rb;exact PyProof.Rows.mod_int' h (k.tok R .ofInt q)
 | div h q=>
   obtain ⟨t,rfl⟩:=ra;obtain ⟨t',rfl⟩:=rb
   obtain ⟨env,outer,f1,f2,f3,f4,f5⟩:=HA.frames
   refine PyProof.Rows.floordiv_int h (k.tok R .ofInt q) (.inr (PylongRoom.of (O.nolimit.keeps R.old) ?_ (SeerAt.of (O.seer.keeps R.old) O.tree f1 f2 f3 f4 f5)))
   exact Nat.lt_of_le_of_lt (Nat.add_le_add_right (Nat.le_add_right _ _) _) HA.depth
 | pow h0 h q=>obtain ⟨t,rfl⟩:=ra;obtain ⟨t',rfl⟩:=rb;exact PyProof.Rows.pow_int h0 h (k.tok R .ofInt q)
end
section
variable {c:Cfg} {A:Around} {E:Value→Shared→Prop} {s:Shared} {D:Addr→Addr} {mh:MH} {d:Nat}
theorem fZ {h:Heap} {l:List Val}:∀{us:List Value} {xs:List Int},cX h l us→intsOf l=some xs→IntsAre us xs:=by
 induction l with
 | nil=>rintro _ _ r e;obtain rfl:=r;obtain rfl:=Option.some.inj e;exact .nil
 | cons v l ih=>
   rintro _ xs ⟨u,r,q,x,y⟩ e
   subst q
   cases v with
   | int i=>
     obtain ⟨V3,e',rfl⟩:=Option.map_eq_some_iff.mp (show (intsOf l).map (i::·)=some xs from e)
     obtain ⟨t,rfl⟩:=x
     exact .cons i t (ih y e')
   | _=>exact a8 e
theorem jL {h:Heap} {l:List Val}:∀{us:List Value} {xs:List Str},cX h l us→fS l=some xs→StrsAre us xs:=by
 induction l with
 | nil=>rintro _ _ r e;obtain rfl:=r;obtain rfl:=Option.some.inj e;exact .nil
 | cons v l ih=>
   rintro _ xs ⟨u,r,q,x,y⟩ e
   subst q
   cases v with
   | str i=>
     obtain ⟨V3,e',rfl⟩:=Option.map_eq_some_iff.mp (show (fS l).map (i::·)=some xs from e)
     obtain ⟨t,rfl⟩:=x
     exact .cons i t (ih y e')
   | _=>exact a8 e
theorem pU {α:Type} [DecidableEq α] {h:Heap} {k:α} {es:List (α×Val)}:∀{cW:List (α×Value)},wQ h es cW→
 (valueAt cW k).isSome=(es.lookup k).isSome∧∀v,es.lookup k=some v→∃u,valueAt cW k=some u∧VR h v u:=by
 induction es with
 | nil=>rintro _ r;obtain rfl:=r;exact ⟨rfl,fun zz q=>nomatch q⟩
 | cons p_ l ih=>
   obtain ⟨x,w⟩:=p_
   rintro _ ⟨u,r,e,a,b⟩
   subst e
   obtain ⟨h1,h2⟩:=ih b
   unfold valueAt at h1 h2⊢
   by_cases hk:x=k
   ·subst hk;simp [List.lookup_cons];exact a
   ·have xM:¬k=x:=fun q=>hk q.symm
    have hb:(k == x)=false:=by simpa using xM
    simp [List.lookup_cons,hb,hk]
    first | exact ⟨h1,h2⟩ | (simp at h1 h2;exact ⟨h1,h2⟩)
def BV (s:Shared) (Q:Bool→Prop) (T:Value→Shared→Prop):Prop:=∀b t',Q b→T (.bool b) { s with toks:=t' }
theorem BV.here {Q T} (k:BV s Q T) {b:Bool} (q:Q b):T (.bool b) s:=k b s.toks q
theorem empty_eq {h:Heap} {l:List Val} {ia:Array Value} (va:cX h l ia.toList):(ia.size == 0)=l.isEmpty:=by rw [va.size];cases l<;>rfl
theorem Tw {a b:Val} {ua ub:Value} {Q:Bool→Prop} {T:Value→Shared→Prop} (HA:wz A d) (R:Rel c D mh s.heap) (ra:VR s.heap a ua) (rb:VR s.heap b ub) (hW:cM mh Q a b) (k:BV s Q T):
 wpAny (model c.prog c.w) A (compareOp .Eq ua ub) T E s:=by
 cases hW with
 | int q=>obtain ⟨t,rfl⟩:=ra;obtain ⟨t',rfl⟩:=rb;exact PyProof.Rows.eq_int (k.here q)
 | str q=>obtain ⟨t,rfl⟩:=ra;obtain ⟨t',rfl⟩:=rb;exact PyProof.Rows.eq_str (k.here q)
 | tup q=>
   obtain ⟨ta,ia,rfl,ha,va⟩:=ra
   obtain ⟨tb,ib,rfl,hb,vb⟩:=rb
   have e2:ib.size=0:=vb.size
   refine SeqAt.eq_tupleAt (e:=fun zz=>true) ha hb HA.u0 (fun j zz h2=>(Nat.not_lt_zero j (Nat.lt_of_lt_of_eq h2 e2)).elim) (k.here ?_)
   rw [e2,Nat.min_zero]
   have:=empty_eq va
   simpa [this] using q
 | @nil _ _ l e1 e2 q=>
   obtain rfl:=ra;obtain rfl:=rb
   obtain ⟨ia,Ha,va⟩:=listAt R e1
   obtain ⟨ib,Hb,vb⟩:=listAt R e2
   have lb:ib.size=0:=vb.size
   cases l with
   | nil=>exact SeqAt.eq_listAt (e:=fun zz=>true) Ha Hb (va.size.trans lb.symm) HA.u0 (fun j h1 h2=>(Nat.not_lt_zero j (Nat.lt_of_lt_of_eq h2 lb)).elim) (k.here (by rw [va.size];simpa using q))
   | cons v r=>exact SeqAt.eq_list_lengthsAt Ha Hb (by rw [va.size,lb];rfl) HA.u0 (k.here q)
 | il e1 e2 i1 i2 q=>
   obtain rfl:=ra;obtain rfl:=rb
   obtain ⟨ia,Ha,va⟩:=listAt R e1
   obtain ⟨ib,Hb,vb⟩:=listAt R e2
   exact ke_eq_ints (xs:=ia.toList) (ys:=ib.toList) (by rw [Array.toArray_toList];exact Ha) (by rw [Array.toArray_toList];exact Hb) (fZ va i1) (fZ vb i2) HA.u64 (k.here q)
theorem Tx {a b:Val} {ua ub:Value} {Q:Bool→Prop} {T:Value→Shared→Prop} (HA:wz A d) (R:Rel c D mh s.heap) (ra:VR s.heap a ua) (rb:VR s.heap b ub) (hW:cM mh (fun r=>Q (!r)) a b) (k:BV s Q T):
 wpAny (model c.prog c.w) A (compareOp .NotEq ua ub) T E s:=by
 cases hW with
 | int q=>obtain ⟨t,rfl⟩:=ra;obtain ⟨t',rfl⟩:=rb;exact PyProof.Rows.ne_int (k.here q)
 | str q=>obtain ⟨t,rfl⟩:=ra;obtain ⟨t',rfl⟩:=rb;exact PyProof.Rows.ne_str (k.here q)
 | tup q=>
   obtain ⟨ta,ia,rfl,ha,va⟩:=ra
   obtain ⟨tb,ib,rfl,hb,vb⟩:=rb
   have e2:ib.size=0:=vb.size
   refine SeqAt.RcNeAt.tuples (e:=fun zz=>true) ha hb HA.u0 (fun j zz h2=>(Nat.not_lt_zero j (Nat.lt_of_lt_of_eq h2 e2)).elim) c.prog c.w E T (k.here ?_)
   rw [e2,Nat.min_zero]
   have:=empty_eq va
   simpa [this] using q
 | @nil _ _ l e1 e2 q=>
   obtain rfl:=ra;obtain rfl:=rb
   obtain ⟨ia,Ha,va⟩:=listAt R e1
   obtain ⟨ib,Hb,vb⟩:=listAt R e2
   have lb:ib.size=0:=vb.size
   cases l with
   | nil=>exact SeqAt.RcNeAt.lists (e:=fun zz=>true) Ha Hb (va.size.trans lb.symm) HA.u0 (fun j h1 h2=>(Nat.not_lt_zero j (Nat.lt_of_lt_of_eq h2 lb)).elim) c.prog c.w E T (k.here (by rw [va.size];simpa using q))
   | cons v r=>exact SeqAt.RcNeAt.lists_lengths Ha Hb (by rw [va.size,lb];rfl) HA.u0 c.prog c.w E T (k.here q)
 | il e1 e2 i1 i2 q=>
   obtain rfl:=ra;obtain rfl:=rb
   obtain ⟨ia,Ha,va⟩:=listAt R e1
   obtain ⟨ib,Hb,vb⟩:=listAt R e2
   exact ke_ne_ints (xs:=ia.toList) (ys:=ib.toList) (by rw [Array.toArray_toList];exact Ha) (by rw [Array.toArray_toList];exact Hb) (fZ va i1) (fZ vb i2) HA.u64 (k.here q)
theorem dW {a:Addr} {o:MO} (O:c.Ok) (R:Rel c D mh s.heap) (e:mh a=some o) (ho:o.owned=true):(a == sysModules)=false:=by
 rw [beq_eq_false_iff_ne]
 rintro rfl
 obtain ⟨mm,⟨ob,_,_,h,_⟩,_⟩:=O.seer.mods
 exact bQ h (R.base _ _ e ho)
theorem kC {prog:Program} {w:World} {h:Heap} {a:Addr} {ep:Nat} (x:h.DictAt (PySem.strKind prog w) a [] ep):h.DictAt (PySem.intKind prog w) a [] ep:=by
 obtain ⟨o,es,ho,hx,hd,hk,hp,hn⟩:=x
 have :es=#[]:=by
  obtain ⟨l⟩:=es
  cases hp;rfl
 subst this
 exact ⟨o,#[],ho,hx,hd,fun e he=>by simp at he,.nil,List.nodup_nil⟩
theorem kD {α:Type} [BEq α] [LawfulBEq α] (l:List α) (x:α):l.any (· == x)=l.contains x:=by
 induction l with
 | nil=>rfl
 | cons y r ih=>
   rw [List.any_cons,List.contains_cons,ih]
   congr 1
   rw [Bool.eq_iff_iff,beq_iff_eq,beq_iff_eq]
   exact eq_comm
noncomputable def YD (neg:Bool):CmpOp:=if neg then .NotIn else .In
theorem MB {a b:Val} {ua ub:Value} {Q:Bool→Prop} {T:Value→Shared→Prop} (O:c.Ok) (R:Rel c D mh s.heap) (ra:VR s.heap a ua) (rb:VR s.heap b ub) (neg:Bool) (hW:mJ mh (fun r=>Q (bif neg then !r else r)) a b) (k:BV s Q T):
 wpAny (model c.prog c.w) A (compareOp (YD neg) ua ub) T E s:=by
 cases hW with
 | ss q=>
   obtain ⟨t,rfl⟩:=ra;obtain ⟨t',rfl⟩:=rb
   cases neg
   ·exact SB.contains (k.here q)
   ·exact SB.notContains (k.here q)
 | @wR x l ss e q=>
   obtain ⟨t,rfl⟩:=ra
   obtain ⟨tb,ib,rfl,hb,vb⟩:=rb
   have W:=jL vb e
   have key:∀y,y∈ib→SeqAt.EqAt A.in1 s y (.str x t) (isStrOf x y):=fun y hy=>(eq_isStrOf x t W y (Array.mem_def.mp hy)).at _ _
   have val:ss.contains x=ib.any (isStrOf x):=by rw [←Array.any_toList,any_isStrOf x W,kD]
   rw [val] at q
   cases neg
   ·exact SeqAt.in_tupleAt (isStrOf x) hb key (k.here q)
   ·exact SeqAt.notIn_tupleAt (isStrOf x) hb key (k.here q)
 | @PX x b' l xs e1 i1 q=>
   obtain ⟨t,rfl⟩:=ra;obtain rfl:=rb
   obtain ⟨ib,YE,vb⟩:=listAt R e1
   have Hb:s.heap.IsList b' ib.toList.toArray:=by rw [Array.toArray_toList];exact YE
   rw [←kD] at q
   cases neg
   ·exact in_list_ints Hb (fZ vb i1) (k.here q)
   ·exact notin_list_ints Hb (fZ vb i1) (k.here q)
 | @intD x b' es ep e1 q=>
   obtain ⟨t,rfl⟩:=ra;obtain rfl:=rb
   obtain ⟨cW,hd,r⟩:=R.obj _ _ e1
   rw [←(pU (k:=x) r).1] at q
   cases neg
   ·exact wpAny_in_of (intKind_is c.prog c.w x t) (dW O R e1 rfl) hd.dictOf.mapOf (k _ _ q)
   ·exact wpAny_notIn_of (intKind_is c.prog c.w x t) (dW O R e1 rfl) hd.dictOf.mapOf (k _ _ q)
 | @aL x b' ep e1 q=>
   obtain ⟨t,rfl⟩:=ra;obtain rfl:=rb
   obtain ⟨cW,hd,r⟩:=R.obj _ _ e1
   obtain rfl:=r
   cases neg
   ·exact wpAny_in_of (intKind_is c.prog c.w x t) (dW O R e1 rfl) (kC hd).dictOf.mapOf (k _ _ q)
   ·exact wpAny_notIn_of (intKind_is c.prog c.w x t) (dW O R e1 rfl) (kC hd).dictOf.mapOf (k _ _ q)
 | @J4 x b' l xs e1 i1 q=>
   obtain ⟨t,rfl⟩:=ra;obtain rfl:=rb
   obtain ⟨ib,YE,vb⟩:=listAt R e1
   have Hb:s.heap.IsList b' ib.toList.toArray:=by rw [Array.toArray_toList];exact YE
   rw [←kD] at q
   cases neg
   ·exact in_list_strs Hb (jL vb i1) (k.here q)
   ·exact notin_list_strs Hb (jL vb i1) (k.here q)
 | @E6 x b' es ep e1 q=>
   obtain ⟨t,rfl⟩:=ra;obtain rfl:=rb
   obtain ⟨cW,hd,r⟩:=R.obj _ _ e1
   rw [←(pU (k:=x) r).1] at q
   cases neg
   ·exact wpAny_in_of (strKind_is c.prog c.w x t) (dW O R e1 rfl) hd.dictOf.mapOf (k _ _ q)
   ·exact wpAny_notIn_of (strKind_is c.prog c.w x t) (dW O R e1 rfl) hd.dictOf.mapOf (k _ _ q)
theorem Fc {h:Heap} {v:Val} {u:Value} (r:VR h v u):(u == Value.none)=isNone v:=by
 cases v with
 | none=>obtain rfl:=r;rfl
 | bool=>obtain rfl:=r;rfl
 | int=>obtain ⟨t,rfl⟩:=r;rfl
 | str=>obtain ⟨t,rfl⟩:=r;rfl
 | xG=>obtain ⟨a,t,v,x,rfl,_⟩:=r;rfl
 | tup=>obtain ⟨a,i,rfl,_⟩:=r;rfl
 | ref=>obtain rfl:=r;rfl
theorem sY {h:Heap} {v:Val} {u:Value} (r:VR h v u):PySem.plainIs u .none=true:=by
 cases v with
 | none=>obtain rfl:=r;rfl
 | bool=>obtain rfl:=r;rfl
 | int=>obtain ⟨t,rfl⟩:=r;rfl
 | str=>obtain ⟨t,rfl⟩:=r;rfl
 | xG=>obtain ⟨a,t,v,x,rfl,_⟩:=r;rfl
 | tup=>obtain ⟨a,i,rfl,_⟩:=r;rfl
 | ref=>obtain rfl:=r;rfl
theorem Je {op:CmpOp} {a b:Val} {ua ub:Value} {Q:Bool→Prop} {T:Value→Shared→Prop} (O:c.Ok) (HA:wz A d) (R:Rel c D mh s.heap) (ra:VR s.heap a ua) (rb:VR s.heap b ub) (hW:aF op a b mh Q) (k:BV s Q T):
 wpAny (model c.prog c.w) A (compareOp op ua ub) T E s:=by
 cases op with
 | Eq=>exact Tw HA R ra rb hW k
 | NotEq=>exact Tx HA R ra rb hW k
 | Lt=>obtain ⟨q⟩:=(show PY Q a b from hW);obtain ⟨t,rfl⟩:=ra;obtain ⟨t',rfl⟩:=rb;exact PyProof.Rows.lt_int (k.here q)
 | Gt=>obtain ⟨q⟩:=(show PY Q b a from hW);obtain ⟨t,rfl⟩:=ra;obtain ⟨t',rfl⟩:=rb;exact P.gt_int (k.here q)
 | LtE=>
   cases (show PZ Q a b from hW) with
   | int q=>obtain ⟨t,rfl⟩:=ra;obtain ⟨t',rfl⟩:=rb;exact P.le_int (k.here q)
   | str q=>obtain ⟨t,rfl⟩:=ra;obtain ⟨t',rfl⟩:=rb;exact P.le_str (k.here q)
 | GtE=>
   cases (show PZ Q b a from hW) with
   | int q=>obtain ⟨t,rfl⟩:=ra;obtain ⟨t',rfl⟩:=rb;exact P.ge_int (k.here q)
   | str q=>obtain ⟨t,rfl⟩:=ra;obtain ⟨t',rfl⟩:=rb;exact P.ge_str (k.here q)
 | Is=>obtain ⟨q⟩:=(show nQ Q a b from hW);obtain rfl:=rb;exact wpAny_is_plain (sY ra) (by rw [Fc ra];exact k.here q)
 | IsNot=>obtain ⟨q⟩:=(show nQ (fun r=>Q (!r)) a b from hW);obtain rfl:=rb;exact wpAny_isNot_plain (sY ra) (by rw [Fc ra];exact k.here q)
 | In=>exact MB O R ra rb false hW k
 | NotIn=>exact MB O R ra rb true hW k
end
section
variable {c:Cfg} {A:Around} {E:Value→Shared→Prop} {s:Shared} {D:Addr→Addr} {mh:MH} {d:Nat}
theorem handed {h:Heap} {v:Val} {u:Value} (r:VR h v u):handedIn u=true:=by
 cases v with
 | none=>obtain rfl:=r;rfl
 | bool=>obtain rfl:=r;rfl
 | int=>obtain ⟨t,rfl⟩:=r;rfl
 | str=>obtain ⟨t,rfl⟩:=r;rfl
 | xG=>obtain ⟨a,t,v,x,rfl,_⟩:=r;rfl
 | tup=>obtain ⟨a,i,rfl,_⟩:=r;rfl
 | ref=>obtain rfl:=r;rfl
theorem pV (x y:Str) (t:Tok):Value.isStr (.str x t) y=decide (y=x):=by
 show (x == y)=_
 by_cases h:x=y
 ·subst h;simp
 ·simp [h,Ne.symm h]
theorem Fd {h:Heap} {fs:List (Str×Val)}:∀{es:List DictEntry},Mh h fs es→es.any (·.refKey)=false:=by
 induction fs with
 | nil=>rintro _ r;obtain rfl:=r;rfl
 | cons p_ l ih=>obtain ⟨x,v⟩:=p_;rintro _ ⟨hs,t,u,r,e,a,b⟩;subst e;rw [List.any_cons,ih b];rfl
theorem Ci {h:Heap} {x:Str} {fs:List (Str×Val)}:∀{es:List DictEntry},Mh h fs es→
 (fs.lookup x=none→getL x es=some none)∧∀v,fs.lookup x=some v→∃u,getL x es=some (some u)∧VR h v u:=by
 induction fs with
 | nil=>rintro _ r;obtain rfl:=r;exact ⟨fun zz=>rfl,fun zz q=>nomatch q⟩
 | cons p_ l ih=>
   obtain ⟨y,w⟩:=p_
   rintro _ ⟨hs,t,u,r,e,a,b⟩
   obtain ⟨h1,h2⟩:=ih b
   have nr:=Fd b
   subst e
   by_cases hk:x=y
   ·subst hk
    refine ⟨fun q=>by simp at q,fun v q=>?_⟩
    simp at q;subst q
    exact ⟨u,by unfold getL;simp [List.find?_cons,pV],a⟩
   ·have hb:(x == y)=false:=by simpa using hk
    have e1:getL x (⟨hs,.str y t,u⟩::r)=getL x r:=by
     unfold getL
     have :Value.isStr (.str y t) x=false:=by rw [pV];simpa using hk
     simp only [List.find?_cons,this,List.any_cons,DictEntry.refKey,Bool.false_or]
     cases r.find? (fun e=>e.key.isStr x)<;>rfl
    rw [e1]
    exact ⟨fun q=>h1 (by simpa [List.lookup_cons,hb] using q),fun v q=>h2 v (by simpa [List.lookup_cons,hb] using q)⟩
theorem Tz {h:Heap} {x:Str} {v:Val} {u:Value} {hsh:Int} {t:Tok} (r:VR h v u) {fs:List (Str×Val)}:∀{es:List DictEntry},Mh h fs es→Mh h (E7 x v fs) (putL x hsh (.str x t) u es):=by
 induction fs with
 | nil=>rintro _ q;obtain rfl:=q;exact ⟨hsh,t,u,[],rfl,r,rfl⟩
 | cons p_ l ih=>
   obtain ⟨y,w⟩:=p_
   rintro _ ⟨hs,t',u',r',e,a,b⟩
   subst e
   by_cases hk:x=y
   ·subst hk
    unfold E7 putL
    rw [if_pos rfl,if_pos (by rw [pV];simp)]
    exact ⟨hs,t',u,r',rfl,r,b⟩
   ·unfold E7 putL
    rw [if_neg (fun q=>hk q.symm),if_neg (by rw [pV];simpa using hk)]
    exact ⟨hs,t',u',_,rfl,a,ih b⟩
theorem MC {x:Str} {hsh:Int} {key u:Value} {es:List DictEntry}:(putL x hsh key u es).length≤es.length+1:=by
 induction es with
 | nil=>simp [putL]
 | cons e r ih=>
   unfold putL
   split
   ·simp
   ·have:=ih
    exact Nat.succ_le_succ this
theorem TB {h:Heap} {fs:List (Str×Val)}:∀{es:List DictEntry},Mh h fs es→es.length=fs.length:=by
 induction fs with
 | nil=>rintro _ r;obtain rfl:=r;rfl
 | cons p_ l ih=>obtain ⟨x,v⟩:=p_;rintro _ ⟨hs,t,u,r,e,a,b⟩;subst e;simp [ih b]
structure FOk (K:Frag) (C:Addr) (x:Str):Prop where
 get:plainGet K C x=true
 hasDict:hasDictIn K C=true
 free:findIn K (.ref C) x=some none
 YF:findIn K (.ref C) "__setattr__"=some (some (.builtin "object.__setattr__"))
 over:plainOver K C=true
 V4:takerIn K C x=some none
theorem MD {K:Frag} {C:Addr} {x:Str} (h:xH K C x=true):FOk K C x:=by
 unfold xH at h
 simp only [Bool.and_eq_true,beq_iff_eq] at h
 obtain ⟨⟨⟨⟨⟨h1,h2⟩,h3⟩,h4⟩,h5⟩,h6⟩:=h
 exact ⟨h1,h2,h3,h4,h5,h6⟩
theorem Hq {C:Str} {fs:List (Str×Val)} {a:Addr} (R:Rel c D mh s.heap) (e:mh a=some (.inst C fs)):∃es n,InstAt s.heap a (instObj (c.ca C) (D a)) (c.ca C) (some (dictOf es n))∧s.heap.get? (D a)=some (dictOf es n)∧Mh s.heap fs es:=
 (by obtain ⟨h1,es,n,h2,h3⟩:=R.obj a _ e;exact ⟨es,n,⟨h1,rfl,rfl,h2⟩,h2,h3⟩)
theorem ME {o:Val} {uo:Value} {x:Str} {expr:Bool} {Q:VQ} {T:Value→Shared→Prop} (O:c.Ok) (R:Rel c D mh s.heap) (ro:VR s.heap o uo) (hW:ao mh Q o x) (k:KV c D mh s Q T):
 wpAny (model c.prog c.w) A (getAttr uo x expr) T E s:=by
 cases hW with
 | mk e hf hv q=>
   obtain rfl:=ro
   obtain ⟨es,n,I,_,r⟩:=Hq R e
   have F:=MD (O.VV _ x hf)
   obtain ⟨u,hu,ru⟩:=(Ci r).2 _ hv
   exact get_value (O.X.keeps R.old) I (plainGet_of F.get).1 (findObj_own F.hasDict F.free rfl hu) (handed ru) (k.tok R ru q)
theorem Fe {o v:Val} {uo u:Value} {x:Str} {Q:MH→Prop} {T:Unit→Shared→Prop} (O:c.Ok) (R:Rel c D mh s.heap) (ro:VR s.heap o uo) (rv:VR s.heap v u) (hW:aS mh v Q o x)
 (k:∀s' aD,aV c D mh s D aD s'→Q aD→T () s'):wpAny (model c.prog c.w) A (setAttr uo x u) T E s:=by
 cases hW with
 | @mk a C x fs e hf hl q=>
   ·obtain rfl:=ro
    obtain ⟨es,n,I,hd,r⟩:=Hq R e
    have F:=MD (O.VV C x hf)
    have lk:(getL x es).isSome=true:=by
     cases h:fs.lookup x with
     | none=>rw [(Ci r).1 h];rfl
     | some w=>obtain ⟨u',h',_⟩:=(Ci r).2 w h;rw [h'];rfl
    refine set_plain (O.X.keeps R.old) I F.YF ?_
    refine osa_open (s:={ s with toks:=s.toks+1 }) (O.X.keeps R.old) I F.over F.V4 fun b=>?_
    obtain ⟨cd,hc,hdd⟩:=any_some F.hasDict
    have hx:=I.at_
    have Dh:s.heap.get? (D a)=some (dictOf es n):=hd
    have X':c.K.In ({ s with toks:=s.toks+1 }:Shared).heap:=O.X.keeps R.old
    refine wpAny_bind (wpAny_pure (wpAny_bind (wpAny_bind (wpAny_loadPart (s:={ s with toks:=s.toks+1 }) hx (wpAny_bind (Looks.here (s:={ s with toks:=s.toks+1 }) (looks_clsIn X' hc) ?_))))))
    rw [hdd]
    refine wpAny_pure (a:=some (D a)) (wpAny_bind (wpAny_pure (wpAny_bind ?_)))
    have put:=putName_dict x (PyData.keyHash c.w.params x) (.str x (s.toks+1)) u es n
    have D':(s.heap.update (D a) (Obj.putName x (PyData.keyHash c.w.params x) (.str x (s.toks+1)) u)).get? (D a)=some (dictOf (putL x (PyData.keyHash c.w.params x) (.str x (s.toks+1)) u es) (putN x es n)):=by
     rw [Heap.get?_update_self _ Dh (by rw [put];rfl),put]
    unfold nsSet
    refine wpAny_bind (wpAny_bind (wpAny_askSetting (wpAny_pure (wpAny_bind (wpAny_mkText (wpAny_bind (wpAny_loadPart Dh ?_)))))))
    dsimp only
    have cc:(!es.toArray.any (·.key.isStr x)&&es.toArray.any (·.refKey))=false:=by
     have :es.toArray.any (·.refKey)=false:=by rw [List.any_toArray];exact Fd r
     rw [this,Bool.and_false]
    rw [aRefKeyMayBeTheName_at,cc]
    refine wpAny_updatePart Dh ?_
    refine wpAny_bind (wpAny_lookBehind D' (pastItsLine_dict ?_) ?_)
    ·have h1:=MC (x:=x) (hsh:=PyData.keyHash c.w.params x) (key:=.str x (s.toks+1)) (u:=u) (es:=es)
     have h2:=TB r
     rw [List.size_toArray,sizeLine_eq];exact Nat.le_trans h1 (h2▸Nat.le_trans hl (Nat.le_of_ble_eq_true rfl))
    ·refine wpAny_pure (k _ _ ?_ q)
     exact aV.fld R e (Heap.SameBut.update ..).extBut fun vk=>⟨_,_,D',Tz (rv.keep vk) (r.keep vk)⟩
end
section
variable {c:Cfg} {A:Around} {E:Value→Shared→Prop} {s:Shared} {D:Addr→Addr} {mh:MH} {d:Nat}
theorem Ff {k:Int} (h:k<((bw:Nat):Int)):k<2 ^ 63:=by
 exact Int.lt_trans h (by decide)
theorem Sr {k:Int} (h:0≤k): -(2 ^ 63)≤k:=by
 exact Int.le_trans (by decide) h
theorem sZ {k:Int} {n:Nat} (h0:0≤k) (h:k.toNat<n):seqIndex? k n=some k.toNat:=by
 unfold seqIndex?
 have h1:¬k<0:=Int.not_lt.mpr h0
 simp only [h1,if_false]
 rw [if_pos (by rw [Bool.and_eq_true,decide_eq_true_eq,decide_eq_true_eq];exact ⟨h0,(Int.toNat_lt h0).mp h⟩)]
theorem s6 {slice:PySem.Expr} (h:sV slice=true) (o i:Value):subscripted slice false o i=operate [o,i] (getItem o i):=by
 cases slice<;>first | rfl | exact iZ h
theorem f6 {v:Val} {l:List Val} {u:Value} (R:Rel c D mh s.heap) (r:VR s.heap v u) (e:jE mh v l):
 ∃a c2,u= .ref a∧cX s.heap l c2.toList∧(IsTup s.heap a c2∨s.heap.IsList a c2):=by
 cases e with
 | tup=>obtain ⟨t,c2,rfl,ht,vs⟩:=r;exact ⟨t,c2,rfl,vs,.inl ht⟩
 | list e=>obtain rfl:=r;obtain ⟨c2,H,vs⟩:=listAt R e;exact ⟨_,c2,rfl,vs,.inr H⟩
 | ro e=>obtain rfl:=r;obtain ⟨c2,H,vs⟩:=R.obj _ _ e;exact ⟨_,c2,rfl,vs,.inr H⟩
theorem Fg {o i:Val} {uo ui:Value} {Q:VQ} {T:Value→Shared→Prop} (R:Rel c D mh s.heap) (ro:VR s.heap o uo) (ri:VR s.heap i ui) (hW:ay mh Q o i) (k:KV c D mh s Q T):
 ∃U id,s.TypeIs uo U∧typeLookup (.type U) "__getitem__"=pure (some (.builtin id))∧wpAny (model c.prog c.w) A (getItem uo ui) T E s:=by
 cases hW with
 | seq sq h0 h1 hv q=>
   obtain ⟨t,rfl⟩:=ri
   obtain ⟨a,c2,rfl,vs,H⟩:=f6 R ro sq
   obtain ⟨u,hu,ru⟩:=vs.get hv
   have YG:=(Array.getElem?_toList ..).symm.trans hu
   rcases H with ht | H
   ·exact ⟨_,_,ht.typeIs,slot_tuple_getitem.lookup,getItem_tuple ht (Sr h0) (Ff h1) (sZ h0 (Array.getElem?_eq_some_iff.mp YG).1) YG (k.same R ru q)⟩
   ·exact ⟨_,_,H.typeIs,slot_list_getitem.lookup,wpAny_getItem_list H h0 (Ff h1) YG (k.same R ru q)⟩
 | @str x y n h0 h1 hn q=>
   obtain ⟨t,rfl⟩:=ro
   obtain ⟨t',rfl⟩:=ri
   refine ⟨_,_,typeIs_str s x t,PySem.F.slot_str_getitem.lookup,PyProof.Rows.getItem_str ?_ ?_ (k.tok R .ofStr q)⟩
   ·have h3:=Ff h1
    have h4:=Sr h0
    rw [Bool.or_eq_false_iff]
    exact ⟨decide_eq_false (Int.not_lt.mpr h4),decide_eq_false (Int.not_le.mpr h3)⟩
   ·rw [sZ h0 (show y.toNat<x.length from (Array.getElem?_eq_some_iff.mp hn).1)];exact hn
 | @ax a es ep x v e hv q=>
   obtain rfl:=ro;obtain ⟨t,rfl⟩:=ri
   obtain ⟨cW,hd,r⟩:=R.obj _ _ e
   obtain ⟨u,hu,ru⟩:=(pU r).2 v hv
   exact ⟨_,_,hd.dictOf.typeIs,slot_dict_getitem.lookup,wpAny_getItem_of (strKind_is c.prog c.w x t) hd.dictOf.mapOf hu (k.tok R ru q)⟩
 | @cz a es ep x v e hv q=>
   obtain rfl:=ro;obtain ⟨t,rfl⟩:=ri
   obtain ⟨cW,hd,r⟩:=R.obj _ _ e
   obtain ⟨u,hu,ru⟩:=(pU r).2 v hv
   exact ⟨_,_,hd.dictOf.typeIs,slot_dict_getitem.lookup,wpAny_getItem_of (intKind_is c.prog c.w x t) hd.dictOf.mapOf hu (k.tok R ru q)⟩
theorem Kb {value slice:PySem.Expr} {o i:Val} {uo ui:Value} {Q:VQ} {T:Value→Shared→Prop} (hs:sV slice=true) (R:Rel c D mh s.heap) (ro:VR s.heap o uo) (ri:VR s.heap i ui) (hW:ay mh Q o i) (k:KV c D mh s Q T):
 wpAny (model c.prog c.w) A (subscriptTail value slice uo ui) T E s:=
 (by obtain ⟨_,_,hT,hl,hg⟩:=Fg (A:=A) (E:=E) R ro ri hW k;exact tail_any hT hl hg (s6 hs _ _))
theorem TC {α:Type} [DecidableEq α] {h:Heap} {k:α} {es:List (α×Val)}:∀{cW:List (α×Value)},wQ h es cW→es.any (fun p=>p.1=k)=cW.any (fun p=>p.1=k):=by
 induction es with
 | nil=>rintro _ q;obtain rfl:=q;rfl
 | cons p_ l ih=>obtain ⟨x,w⟩:=p_;rintro _ ⟨u',r',e,a,b⟩;subst e;rw [List.any_cons,List.any_cons,ih b]
theorem TF {α:Type} [DecidableEq α] {h:Heap} {k:α} {v:Val} {u:Value} (r:VR h v u) {es:List (α×Val)}:∀{cW:List (α×Value)},wQ h es cW→
 wQ h (es.map (fun p=>if p.1=k then (p.1,v) else p)) (cW.map (fun p=>if p.1=k then (p.1,u) else p)):=by
 induction es with
 | nil=>rintro _ q;obtain rfl:=q;rfl
 | cons p_ l ih=>
   obtain ⟨x,w⟩:=p_
   rintro _ ⟨u',r',e,a,b⟩
   subst e
   rw [List.map_cons,List.map_cons]
   by_cases hk:x=k
   ·rw [if_pos hk,if_pos hk];exact ⟨u,_,rfl,r,ih b⟩
   ·rw [if_neg hk,if_neg hk];exact ⟨u',_,rfl,a,ih b⟩
theorem Qh {α:Type} {h:Heap} {k:α} {v:Val} {u:Value} (r:VR h v u) {es:List (α×Val)}:∀{cW:List (α×Value)},wQ h es cW→wQ h (es++[(k,v)]) (cW++[(k,u)]):=by
 induction es with
 | nil=>rintro _ q;obtain rfl:=q;exact ⟨u,[],rfl,r,rfl⟩
 | cons p_ l ih=>obtain ⟨x,w⟩:=p_;rintro _ ⟨u',r',e,a,b⟩;subst e;exact ⟨u',_,rfl,a,ih b⟩
theorem uV {α:Type} [DecidableEq α] {h:Heap} {k:α} {v:Val} {u:Value} (r:VR h v u) {es:List (α×Val)} {cW:List (α×Value)} (q:wQ h es cW):wQ h (putK k v es) (stored cW k u):=by
 unfold putK stored
 rw [TC q]
 split
 ·exact TF r q
 ·exact Qh r q
theorem uW {α:Type} {h:Heap} {es:List (α×Val)}:∀{cW:List (α×Value)},wQ h es cW→cW.length=es.length:=by
 induction es with
 | nil=>rintro _ q;obtain rfl:=q;rfl
 | cons p_ l ih=>obtain ⟨x,w⟩:=p_;rintro _ ⟨u',r',e,a,b⟩;subst e;simp [ih b]
theorem ya {K:Type} [DecidableEq K] {knd:PySem.KeyKind c.prog c.w K} {a:Addr} {x:K} {key:Value} {v:Val} {u:Value} {es:List (K×Val)} {ep:Nat} {o:MO} {o':Nat→MO} {Q:MH→Prop} {T:Unit→Shared→Prop} {cW:List (K×Value)} (R:Rel c D mh s.heap) (e:mh a=some o) (ho:o.owned=true) (hn:∀ep' C fs,o' ep'≠ .inst C fs)
 (hk:knd.is x key=true) (hd:s.heap.DictAt knd a cW ep) (r:wQ s.heap es cW) (rv:VR s.heap v u) (h1:es.length<bw) (Cg:∀h' ep' wV,h'.DictAt knd a wV ep'→wQ h' (putK x v es) wV→uL c D h' a (o' ep'))
 (q:∀ep',Q (mh.set a (o' ep'))) (k:∀s' aD,aV c D mh s D aD s'→Q aD→T () s'):wpAny (model c.prog c.w) A (setItem (.ref a) key u) T E s:=by
 refine wpAny_setItem_pairs hk hd.dictOf (fun h' Mi e9=>?_) (by rw [uW r];exact cx h1)
 obtain ⟨ep',MF⟩:=Mi.dictAt
 exact k _ _ (aV.upd (o':=o' ep') R e ho (hn ep') e9.extBut fun vk=>Cg _ _ _ MF (uV (rv.keep vk) (r.keep vk))) (q ep')
theorem Fh {o i v:Val} {uo ui u:Value} {Q:MH→Prop} {T:Unit→Shared→Prop} (R:Rel c D mh s.heap) (ro:VR s.heap o uo) (ri:VR s.heap i ui) (rv:VR s.heap v u) (hW:bb mh v Q o i)
 (k:∀s' aD,aV c D mh s D aD s'→Q aD→T () s'):wpAny (model c.prog c.w) A (setItem uo ui u) T E s:=by
 cases hW with
 | @list a l y e h0 h1 h2 q=>
   obtain rfl:=ro;obtain ⟨t,rfl⟩:=ri
   obtain ⟨ia,n,Ha,va⟩:=gW R e
   refine ki_setAt Ha h0 (Ff h2) (by rw [va.size];exact h1) ?_
   refine k _ _ (aV.upd (o':=.list (l.set y.toNat v)) R e rfl (fun zz zz q=>nomatch q) (Heap.SameBut.update ..).extBut fun vk=>⟨_,_,Heap.get?_update_self _ Ha rfl,?_⟩) q
   rw [Array.toList_setIfInBounds]
   exact (va.keep vk).set y.toNat (rv.keep vk)
 | @ax a es ep x e h1 q=>
   obtain rfl:=ro;obtain ⟨t,rfl⟩:=ri
   obtain ⟨cW,hd,r⟩:=R.obj _ _ e
   exact ya (o':=fun ep'=>.ax (putK x v es) ep') R e rfl (fun zz zz zz q=>nomatch q) (strKind_is c.prog c.w x t) hd r rv h1 (fun zz zz zz a b=>⟨_,a,b⟩) q k
 | @cz a es ep x e h1 q=>
   obtain rfl:=ro;obtain ⟨t,rfl⟩:=ri
   obtain ⟨cW,hd,r⟩:=R.obj _ _ e
   exact ya (o':=fun ep'=>.cz (putK x v es) ep') R e rfl (fun zz zz zz q=>nomatch q) (intKind_is c.prog c.w x t) hd r rv h1 (fun zz zz zz a b=>⟨_,a,b⟩) q k
 | @nil a ep x e q=>
   obtain rfl:=ro;obtain ⟨t,rfl⟩:=ri
   obtain ⟨cW,hd,r⟩:=R.obj _ _ e
   obtain rfl:=r
   exact ya (es:=[]) (o':=fun ep'=>.cz [(x,v)] ep') R e rfl (fun zz zz zz q=>nomatch q) (intKind_is c.prog c.w x t) (kC hd) rfl rv (Nat.zero_lt_succ _) (fun zz zz zz a b=>⟨_,a,b⟩) q k
end
section
variable {c:Cfg} {A:Around} {E:Value→Shared→Prop} {s:Shared} {D:Addr→Addr} {mh:MH} {d:Nat}
theorem Kc {l:List Value} {k:Int} (h0:0≤k):kms_pick l none (some k)=l.take k.toNat:=by
 unfold kms_pick kms_lo kms_hi
 simp only [List.drop_zero,Nat.sub_zero]
 rw [if_neg (Int.not_lt.mpr h0),←List.take_take]
 congr 1
 rw [List.take_length]
theorem Kd {l:List Value} {k:Int} (h0:0≤k):kms_pick l (some k) none=l.drop k.toNat:=by
 unfold kms_pick kms_lo kms_hi
 simp only
 rw [if_neg (Int.not_lt.mpr h0)]
 by_cases h:k.toNat≤l.length
 ·rw [Nat.min_eq_left h,List.take_of_length_le]
  rw [List.length_drop];exact Nat.le_refl _
 ·have h':l.length≤k.toNat:=Nat.le_of_not_le h
  rw [Nat.min_eq_right h',List.drop_of_length_le (Nat.le_refl _),List.drop_of_length_le h',List.take_nil]
theorem Fi (a n:Nat) (ha:a≤n):Builtin.Slice.sliceAdjust none (some (a:Int)) 1 (n:Int)=(0,(a:Int)):=by
 unfold Builtin.Slice.sliceAdjust
 have h1:¬((1:Int)<0):=by decide
 have h2:¬((a:Int)<0):=Int.not_lt.mpr (Int.natCast_nonneg a)
 simp only [h1,h2,if_false]
 rw [Int.min_eq_left (Int.ofNat_le.mpr ha)]
theorem Fj (a:Nat):Builtin.Slice.slicePlaces 0 (a:Int) 1=a:=by
 unfold Builtin.Slice.slicePlaces
 have h1:(1:Int) > 0:=by decide
 simp only [h1,if_true,Int.ediv_one]
 split
 ·rw [Int.sub_zero,Int.sub_add_cancel];rfl
 ·rename_i h;exact (Nat.eq_zero_of_not_pos fun q=>h (Int.natCast_pos.mpr q)).symm
theorem s7 {sl:Addr} {a n:Nat} {u:Tok} {Q:Int×Int×Nat→Shared→Prop} (hs:s.heap.IsSliceOf sl .none (.int a u) .none) (ha:a≤n) (h:Q (0,1,a) s):
 wpAny (model c.prog c.w) A (Builtin.Slice.sliceApplied (.ref sl) (pure (n:Int))) Q E s:=by
 obtain ⟨os,V5,hcs,XP⟩:=id hs
 unfold Builtin.Slice.sliceApplied Builtin.Slice.sliceFields
 refine wpAny_bind (wpAny_bind (wpAny_field V5 XP (x:=.none) rfl (wpAny_bind (wpAny_field V5 XP (x:=.int a u) rfl (wpAny_bind (wpAny_field V5 XP (x:=.none) rfl (wpAny_pure ?_)))))))
 refine wpAny_bind (slicePart_none ?_)
 show wpAny _ _ (if ((1:Int) == 0)=true then _ else _) _ _ s
 rw [if_neg (by decide)]
 refine wpAny_bind (slicePart_none (wpAny_bind (slicePart_int (wpAny_bind (wpAny_pure ?_)))))
 show wpAny _ _ (match Builtin.Slice.sliceAdjust none (some (a:Int)) 1 (n:Int) with | (lo,hi)=>pure (lo,(1:Int),Builtin.Slice.slicePlaces lo hi 1)) _ _ s
 rw [Fi a n ha]
 show wpAny _ _ (pure ((0:Int),(1:Int),Builtin.Slice.slicePlaces 0 (a:Int) 1)) _ _ s
 rw [Fj a]
 exact wpAny_pure h
theorem Ke (xs:Array Value) (a:Nat):((List.range a).filterMap fun (k:Nat)=>xs[((0:Int)+(k:Int) * 1).toNat]?).toArray=(xs.toList.take a).toArray:=by
 have e:(fun (k:Nat)=>xs[((0:Int)+(k:Int) * 1).toNat]?)=fun k=>xs[0+k]?:=by
  funext k
  have :((0:Int)+(k:Int) * 1).toNat=0+k:=by rw [Int.mul_one,Int.zero_add,Nat.zero_add];rfl
  rw [this]
 rw [e]
 have:=pick_run xs 0 a
 rw [List.filterMap_map] at this
 have e2:((fun x=>xs[x]?)∘fun x=>0+x)=fun k=>xs[0+k]?:=rfl
 rw [e2] at this
 rw [this,List.drop_zero]
theorem Hr {t sl:Addr} {items:Array Value} {a:Nat} {u:Tok} {Q:Value→Shared→Prop} (ht:IsTup s.heap t items) (hs:s.heap.IsSliceOf sl .none (.int a u) .none) (ha:a<items.size)
 (h:Q (.ref s.heap.objs.size) { s with heap:=s.heap.push { cls:=.type "tuple",data:=.seq (items.toList.take a).toArray } }) (xZ:items.size≤sizeLine):
 wpAny (model c.prog c.w) A (getItem (.ref t) (.ref sl)) Q E s:=by
 have Jf:sizeOk (.seq (items.toList.take a).toArray):=by
  show (items.toList.take a).toArray.size≤sizeLine
  rw [List.size_toArray,List.length_take,Array.length_toList]
  exact Nat.le_trans (Nat.min_le_right _ _) xZ
 obtain ⟨os,V5,hcs,XP⟩:=id hs
 have hTs:s.TypeIs (.ref sl) "slice":=⟨os,V5,hcs⟩
 unfold getItem
 try with_reducible refine wpAny_holding ?_
 first | refine wpAny_bind (wpAny_pure ?_) | skip
 refine wpAny_bind (wpAny_sequenceKey ht.typeIs (by decide) ?_)
 refine wpAny_bind (wpAny_callSpecial?_slot (name:=Str.ofString "__getitem__") ht.typeIs slot_tuple_getitem
  (wpAny_call_entry slot_tuple_getitem ht.typeIs entry_tuple_getitem ?_ (args_tuple_getitem _ _)))
 show wpAny _ _ (Builtin.Tuple.tupleItemsOf (.ref t) >>= _) _ _ s
 refine wpAny_bind (tupleItemsOf_ ht ?_)
 refine wpAny_bind (wpAny_typeOf hTs ?_)
 rw [if_pos (by decide)]
 refine wpAny_bind (s7 hs (Nat.le_of_lt ha) ?_)
 have V6:¬(((0:Int) == 0&&(1:Int) == 1&&a == items.size)=true):=by
  have :(a == items.size)=false:=by rw [beq_eq_false_iff_ne];exact Nat.ne_of_lt ha
  rw [this];simp
 show wpAny _ _ (if ((0:Int) == 0&&(1:Int) == 1&&a == items.size)=true then _ else _) _ _ s
 rw [if_neg V6,Ke items a]
 first
  | exact wpAny_bind (m:=Builtin.Tuple.tupleExact _) (wpAny_newObj_type (wpAny_pure ⟨_,rfl,wpAny_pure h⟩) Jf)
  | exact wpAny_bind (m:=Builtin.Tuple.tupleExact _) (wpAny_newObj_type (wpAny_bind (wpAny_pure (wpAny_pure ⟨_,rfl,wpAny_pure h⟩))) Jf)
  | exact wpAny_bind (wpAny_bind (m:=Builtin.Tuple.tupleExact _) (wpAny_newObj_type (wpAny_pure (wpAny_pure ⟨_,rfl,wpAny_pure h⟩)) Jf))
  | exact wpAny_bind (wpAny_bind (m:=Builtin.Tuple.tupleExact _) (wpAny_newObj_type (wpAny_pure ⟨_,rfl,wpAny_pure h⟩) Jf))
noncomputable def isSlice:PySem.Expr→Bool
 | .Slice ..=>true
 | _=>false
theorem s8 {slice:PySem.Expr} (h:isSlice slice=true) (o i:Value):∃ops,subscripted slice false o i=operate ops (getItem o i):=by
 cases slice with
 | Slice lo up st p=>cases st<;>exact ⟨_,rfl⟩
 | _=>exact iZ h
theorem q7 {value slice:PySem.Expr} {a sl:Addr} {ops:List Value} {l l':List Val} {lo up st:Option Int} {vl vu vs:Value} {Q:VQ} {T:Value→Shared→Prop} (Hs:subscripted slice false (.ref a) (.ref sl)=operate ops (getItem (.ref a) (.ref sl))) (R:Rel c D mh s.heap) (e:mh a=some (.list l))
 (hS:s.heap.IsSliceOf sl vl vu vs) (p1:IsPart vl lo) (p2:IsPart vu up) (p3:IsPart vs st) (h0:st≠some 0) (hl:l.length<bw) (hp:∀c2:Array Value,cX s.heap l c2.toList→∃r,slicePick c2 lo up st=r.toArray∧cX s.heap l' r) (q:aH mh (.list l') Q) (k:KV c D mh s Q T):
 wpAny (model c.prog c.w) A (subscriptTail value slice (.ref a) (.ref sl)) T E s:=by
 obtain ⟨ia,Ha,va⟩:=listAt R e
 obtain ⟨r,e1,e2⟩:=hp ia va
 refine tail_any Ha.typeIs slot_list_getitem.lookup (wpAny_getItem_list_slice Ha hS p1 p2 p3 h0 ?_ (by rw [va.size];exact cx hl)) Hs
 rw [e1]
 exact k.list R e2 q
theorem Kf {value slice:PySem.Expr} {o lo up st:Val} {uo XQ XR XS:Value} {Q:VQ} {T:Value→Shared→Prop} (hsl:isSlice slice=true) (R:Rel c D mh s.heap) (ro:VR s.heap o uo) (rl:VR s.heap lo XQ) (ru:VR s.heap up XR) (rs:VR s.heap st XS)
 (hW:e8 mh Q o lo up st) (k:KV c D mh s Q T):
 wpAny (model c.prog c.w) A (subscriptTail value slice uo (.ref s.heap.objs.size)) T E { s with heap:=s.heap.push { cls:=.type "slice",data:=.fields #[XQ,XR,XS] } }:=by
 have P:aV c D mh s D mh { s with heap:=s.heap.push { cls:=.type "slice",data:=.fields #[XQ,XR,XS] } }:=aV.push R
 have k':=k.trans P
 have hS:=Heap.IsSliceOf.new s.heap XQ XR XS
 obtain ⟨ops,Hs⟩:=s8 hsl uo (.ref s.heap.objs.size)
 cases hW with
 | rev e hl q=>
   obtain rfl:=ro;obtain rfl:=rl;obtain rfl:=ru;obtain ⟨t,rfl⟩:=rs
   exact q7 Hs P.rel e hS .none .none (.int _ _) (by decide) hl (fun c2 va=>⟨_,krv_pick c2,va.reverse⟩) q k'
 | Hp e h0 h1 hl q=>
   obtain rfl:=ro;obtain rfl:=rl;obtain rfl:=rs;obtain ⟨t,rfl⟩:=ru
   exact q7 Hs P.rel e hS .none (.int _ _) .none (by decide) hl (fun c2 va=>⟨_,kms_pick_eq ..,by rw [Kc h0];exact va.take _⟩) q k'
 | «from» e h0 h1 hl q=>
   obtain rfl:=ro;obtain rfl:=ru;obtain rfl:=rs;obtain ⟨t,rfl⟩:=rl
   exact q7 Hs P.rel e hS (.int _ _) .none .none (by decide) hl (fun c2 va=>⟨_,kms_pick_eq ..,by rw [Kd h0];exact va.drop _⟩) q k'
 | @tup l n hl uX q=>
   obtain ⟨ta,ia,rfl,ha,va⟩:=ro.keep P.vk
   obtain rfl:=rl;obtain rfl:=rs
   obtain ⟨t,rfl⟩:=ru
   exact tail_any ha.typeIs slot_tuple_getitem.lookup (Hr ha hS (by rw [va.size];exact uX) (k'.tup P.rel (va.take n) q) (by rw [va.size];exact cx hl)) Hs
 | @str x i j hl hw uX q=>
   obtain ⟨t,rfl⟩:=ro
   obtain ⟨t1,rfl⟩:=rl
   obtain ⟨t2,rfl⟩:=ru
   obtain rfl:=rs
   refine tail_any (typeIs_str _ x t) PySem.F.slot_str_getitem.lookup (wpAny_getItem_str_slice (l:=some (i,t1)) (u:=some (j,t2)) (st:=none) hS rfl ?_) Hs
   unfold sliceMade
   split
   ·rename_i hc
    rw [hw (beq_iff_eq.mp ((Bool.and_eq_true _ _).mp hc).2)] at q
    exact k'.same P.rel .ofStr q
   ·exact ⟨cx uX,k'.tok P.rel .ofStr q⟩
end
section
variable {c:Cfg} {A:Around} {E:Value→Shared→Prop} {s:Shared} {D:Addr→Addr} {mh:MH} {d:Nat}
theorem cX.one {h:Heap} {v:Val} {us:List Value} (r:cX h [v] us):∃u,us=[u]∧VR h v u:=by
 obtain ⟨u,r',rfl,x,y⟩:=r;obtain rfl:=y;exact ⟨u,rfl,x⟩
theorem cX.two {h:Heap} {v w:Val} {us:List Value} (r:cX h [v,w] us):∃u u',us=[u,u']∧VR h v u∧VR h w u':=by
 obtain ⟨u,r',rfl,x,y⟩:=r;obtain ⟨u',rfl,z⟩:=y.one;exact ⟨u,u',rfl,x,z⟩
theorem Ht {n:Nat} (h:n<bw):(n:Int)<2 ^ 63:=Ff (Int.ofNat_lt.mpr h)
theorem Qi {v:Val} {u:Value} {Q:VQ} {T:Value→Shared→Prop} (R:Rel c D mh s.heap) (r:VR s.heap v u) (hW:P6 mh Q v) (k:KV c D mh s Q T):
 wpAny (model c.prog c.w) A (call (.builtin "len") [u]) T E s:=by
 cases hW with
 | seq e h q=>
   obtain ⟨a,c2,rfl,vs,H⟩:=f6 R r e
   have e:=vs.size
   rcases H with ht | H
   ·exact PyProof.Rows.len_tuple ht (by rw [e];exact Ht h) (by rw [e];exact k.tok R .ofInt q)
   ·exact PyProof.Rows.len_list H (by rw [e];exact Ht h) (by rw [e];exact k.tok R .ofInt q)
 | str h q=>
   obtain ⟨t,rfl⟩:=r
   exact SBL.len (Ht h) (k.tok R .ofInt q)
theorem Kg {v:Val} {u:Value} {l:List Val} {Q:VQ} {T:Value→Shared→Prop} (R:Rel c D mh s.heap) (r:VR s.heap v u) (e:jE mh v l) (hl:l.length<bw) (q:Q (.tup l) mh) (k:KV c D mh s Q T):
 wpAny (model c.prog c.w) A (call (.type "tuple") [u]) T E s:=by
 obtain ⟨a,c2,rfl,vs,ht | H⟩:=f6 R r e
 ·exact call_tuple_same ht (k.same R (v:=.tup l) ⟨a,c2,rfl,ht,vs⟩ q)
 ·refine call_tuple_list H (fun h' kp=>?_) (by rw [vs.size];exact cx hl)
  have P:aV c D mh s D mh { s with heap:=h' }:=aV.ext R kp
  exact (k.trans P).tup (n:=0) (t:=s.toks) P.rel (vs.keep P.vk) q
theorem MG {v:Val} {u:Value} {l:List Val} {Q:VQ} {T:Value→Shared→Prop} (R:Rel c D mh s.heap) (r:VR s.heap v u) (e:jE mh v l) (hl:l.length<bw) (q:aH mh (.list l) Q) (k:KV c D mh s Q T):
 wpAny (model c.prog c.w) A (call (.type "list") [u]) T E s:=by
 have key:∀(h':Heap) c' (c2:Array Value),cX s.heap l c2.toList→(∀b o',s.heap.get? b=some o'→h'.get? b=some o')→h'.get? s.heap.objs.size=some { cls:=.type "list",dict:=none,data:=.seq c2 c',slots:=#[] }→
  T (.ref s.heap.objs.size) { s with heap:=h' }:=fun h' c' c2 vs kp e'=>by
  have P:aV c D mh s D mh { s with heap:=h',toks:=s.toks }:=aV.ext R kp
  have e0:=Heap.ba s.heap (Nat.le_refl _)
  have P2:=aV.take (o':=.list l) P e0 (R.cD e0) (R.fresh e0) (fun zz zz q=>nomatch q) ⟨c2,c',e',vs.keep P.vk⟩
  exact k _ _ (.ref s.heap.objs.size) D _ P2 rfl (q _ (MH.fresh (R.fresh e0)))
 obtain ⟨a,c2,rfl,vs,⟨o,ho,hc,n,hd⟩ | ⟨o,ho,hc,n,hd⟩⟩:=f6 R r e
 ·exact call_list_seq a (.inr rfl) ho hc hd (fun h' c' kp e'=>key h' c' c2 vs kp e') (by rw [vs.size];exact cx hl)
 ·exact call_list_seq a (.inl rfl) ho hc hd (fun h' c' kp e'=>key h' c' c2 vs kp e') (by rw [vs.size];exact cx hl)
noncomputable def Jg (f:Str):Value:=if f="len" then .builtin "len" else if f="max" then .builtin "max" else if f="ord" then .builtin "ord" else if f="int" then .type "int" else if f="range" then .type "range"
 else if f="tuple" then .type "tuple" else if f="list" then .type "list" else .type "dict"
end
section
open PySem.Builtin.Str
section
variable {c:Cfg} {A:Around} {E:Value→Shared→Prop} {s:Shared} {D:Addr→Addr} {mh:MH} {d:Nat}
theorem cX.none {h:Heap} {us:List Value} (r:cX h [] us):us=[]:=r
theorem q8 {h:Heap} {a:Addr} {xs ys:Array Value} {n:Nat} (g:Array Value→Array Value) (ho:h.get? a=some (PySem.W.listOf xs n)) (e:g xs=ys):∃n',(h.update a (Obj.mapSeq g)).get? a=some (PySem.W.listOf ys n'):=
 ⟨_,e▸get?_update_seq ho g⟩
theorem Hu {a:Addr} {l:List Val} {v:Val} {u:Value} {Q:VQ} {T:Value→Shared→Prop} (R:Rel c D mh s.heap) (e:mh a=some (.list l)) (rv:VR s.heap v u) (hl:l.length<bw)
 (q:Q .none (mh.set a (.list (l++[v])))) (k:KV c D mh s Q T):wpAny (model c.prog c.w) A (call (.builtin "list.append") [.ref a,u]) T E s:=by
 obtain ⟨xs,n,Ha,va⟩:=gW R e
 have la:=va.size
 refine append_at Ha (fun h' hs Cg=>?_) (by rw [la];exact cx hl)
 refine k _ _ .none D _ (aV.upd (o':=.list (l++[v])) R e rfl (fun zz zz q=>nomatch q) hs.extBut fun vk=>⟨_,_,Cg,?_⟩) rfl q
 rw [Array.toList_push]
 exact (va.keep vk).append (.cons (rv.keep vk) .nil)
theorem Hv {a b:Addr} {l l':List Val} {Q:VQ} {T:Value→Shared→Prop} (R:Rel c D mh s.heap) (e:mh a=some (.list l)) (e':mh b=some (.list l')) (hl:l.length+l'.length<bw)
 (q:Q .none (mh.set a (.list (l++l')))) (k:KV c D mh s Q T):wpAny (model c.prog c.w) A (call (.builtin "list.extend") [.ref a,.ref b]) T E s:=by
 obtain ⟨xs,n,Ha,va⟩:=gW R e
 obtain ⟨ys,n',Hb,vb⟩:=gW R e'
 have la:=va.size
 have lb:=vb.size
 have hz:=cx hl
 obtain ⟨m,hm⟩:=q8 (fun x=>x++ys) Ha rfl
 refine call_meets PySem.F.slot_list_extend ⟨_,Ha,rfl⟩ PySem.F.entry_list_extend (PySem.F.args_list_extend_2 _ _) (PySem.AutoSeq1.list_extend_list_list_0 a xs n b ys n' ?_ (la▸Nat.le_trans (Nat.le_add_right _ _) hz) (by rw [la,lb];exact Nat.le_succ_of_le hz)) ⟨Ha,Hb,?_⟩
 ·unfold Builtin.List.listTooLong
  rw [la,lb,decide_eq_false (Nat.not_lt.mpr hz:¬l.length+l'.length > sizeLine),Bool.and_false]
  exact Bool.false_ne_true
 ·refine k _ _ .none D _ (aV.upd (o':=.list (l++l')) R e rfl (fun zz zz q=>nomatch q) (Heap.SameBut.update ..).extBut fun vk=>⟨_,_,hm,?_⟩) rfl q
  rw [Array.toList_append]
  exact (va.keep vk).append (vb.keep vk)
theorem yb {h:Heap} {us:List Value} {xs:List Int} (x:IntsAre us xs):cX h (bj xs) us:=by
 induction x with
 | nil=>rfl
 | cons _ t r ih=>exact ⟨_,_,rfl,⟨t,rfl⟩,ih⟩
theorem yc {ns xs:List Int} (hp:ns.Perm xs) (ho:ns.Pairwise (·≤·)):ns=qH xs:=by
 refine lks_uniq (hp.trans (List.mergeSort_perm _ _).symm) ho ?_
 have:=List.pairwise_mergeSort (le:=fun (a b:Int)=>decide (a≤b)) (fun a b c h1 h2=>decide_eq_true (Int.le_trans (of_decide_eq_true h1) (of_decide_eq_true h2))) (fun a b=>by rw [Bool.or_eq_true,decide_eq_true_eq,decide_eq_true_eq];exact Int.le_total a b) xs
 exact this.imp fun h=>by simpa using h
theorem MJ {a:Addr} {l:List Val} {xs:List Int} {Q:VQ} {T:Value→Shared→Prop} (R:Rel c D mh s.heap) (e:mh a=some (.list l)) (hx:intsOf l=some xs) (h64:xs.length<64)
 (q:Q .none (mh.set a (.list (bj (qH xs))))) (k:KV c D mh s Q T):wpAny (model c.prog c.w) A (call (.builtin "list.sort") [.ref a]) T E s:=by
 obtain ⟨c2,n,Ha,va⟩:=gW R e
 have hI:=fZ va hx
 have Ha':s.heap.get? a=some (seqObj "list" c2.toList.toArray n):=by rw [Array.toArray_toList];exact Ha
 refine wpAny_call_entry PyProof.Rows.slot_list_sort ⟨_,Ha,rfl⟩ PyProof.Rows.entry_list_sort (list_sort_tree (n:=n) (vs:=c2.toList) Ha' hI (by rw [hI.length];exact h64) fun out ns' hI' hp hP=>⟨.none,rfl,?_⟩) (PyProof.Rows.args_list_sort _)
 have hn:=yc hp hP
 subst hn
 have h1:(s.heap.update a (Obj.mapSeq fun zz=>(#[]:Array Value))).get? a=some (PySem.W.listOf #[] _):=get?_update_seq Ha fun zz=>#[]
 have h2:=Heap.get?_push_of_some (seqObj "tuple" c2.toList.toArray 0) h1
 have h3:=Heap.get?_push_of_some (seqObj "list" #[] 0) h2
 obtain ⟨m,h4⟩:=q8 (fun zz=>out) h3 rfl
 have x:Heap.ExtBut a s.heap (sortedHeap s.heap a c2.toList out):=fun b o hb ho=>by
  refine (Heap.SameBut.update ..).extBut b o hb ?_
  exact Heap.get?_push_of_some _ (Heap.get?_push_of_some _ ((Heap.SameBut.update ..).extBut b o hb ho))
 exact k _ _ .none D _ (aV.upd (o':=.list (bj (qH xs))) R e rfl (fun zz zz q=>nomatch q) x fun vk=>⟨_,_,h4,yb hI'⟩) rfl q
theorem cX.snoc {h:Heap} {l:List Val}:∀{v:Val} {us:List Value},cX h (l++[v]) us→∃p u,us=p++[u]∧cX h l p∧VR h v u:=by
 induction l with
 | nil=>rintro v us r;obtain ⟨u,rfl,x⟩:=cX.one r;exact ⟨[],u,rfl,rfl,x⟩
 | cons w l ih=>
   rintro v us ⟨u',r',e,x,y⟩
   subst e
   obtain ⟨p,u,rfl,z,q⟩:=ih y
   exact ⟨u'::p,u,rfl,.cons x z,q⟩
theorem Qj {a:Addr} {l:List Val} {v:Val} {Q:VQ} {T:Value→Shared→Prop} (R:Rel c D mh s.heap) (e:mh a=some (.list (l++[v]))) (hl:l.length<bw)
 (q:Q v (mh.set a (.list l))) (k:KV c D mh s Q T):wpAny (model c.prog c.w) A (call (.builtin "list.pop") [.ref a]) T E s:=by
 obtain ⟨c2,n,Ha,va⟩:=gW R e
 obtain ⟨p,y,ep,vp,ry⟩:=va.snoc
 have ei:c2=(p++[y]).toArray:=by rw [←ep,Array.toArray_toList]
 subst ei
 have hk:(p++[y]).toArray.size - 1=p.length:=by rw [List.size_toArray,List.length_append];rfl
 have hy:(p++[y]).toArray[(p++[y]).toArray.size - 1]? =some y:=by rw [hk];simp
 have lp:=vp.length
 have hz':(p++[y]).toArray.size≤sizeLine:=by rw [List.size_toArray,List.length_append,lp];exact Bb hl
 obtain ⟨m,hm⟩:=q8 (ys:=p.toArray) (fun xs=>xs.eraseIdxIfInBounds ((p++[y]).toArray.size - 1)) Ha (by rw [hk,kl_erase,List.append_nil])
 refine call_meets PySem.F.slot_list_pop ⟨_,Ha,rfl⟩ PySem.F.entry_list_pop (PySem.F.args_list_pop_1 _) (PySem.MeetsSeq.list_pop_last a _ n y hy hz') ⟨Ha,?_⟩
 have P:aV c D mh s D (mh.set a (.list l)) _:=aV.upd (t':=s.toks) (o':=.list l) R e rfl (fun zz zz q=>nomatch q) (Heap.SameBut.update ..).extBut fun vk=>⟨_,_,hm,vp.keep vk⟩
 exact k _ _ v D _ P (ry.keep P.vk) q
theorem Kh {h:Heap} {us:List Value} {xs:List Str} (x:StrsAre us xs):cX h (aw xs) us:=by
 induction x with
 | nil=>rfl
 | cons _ t r ih=>exact ⟨_,_,rfl,⟨t,rfl⟩,ih⟩
theorem MK {x:Str} {t:Tok} {v:Val} {u:Value} {l:List Val} {ss:List Str} {Q:VQ} {T:Value→Shared→Prop} (R:Rel c D mh s.heap) (r:VR s.heap v u) (e:jE mh v l) (e':fS l=some ss)
 (hl:(ss.map (·.length)).sum+ss.length * x.length<bw) (q:Q (.str (Txt.join x ss)) mh) (k:KV c D mh s Q T):wpAny (model c.prog c.w) A (call (.builtin "str.join") [.str x t,u]) T E s:=by
 obtain ⟨a,c2,rfl,vs,ht | H⟩:=f6 R r e
 ·exact join_tuple ht (jL vs e') (Jd hl) fun t' k'=>k.tok R .ofStr q
 ·exact join_list H (jL vs e') (Jd hl) fun t' k'=>k.tok R .ofStr q
theorem ML {x:Str} {t:Tok} {y:Str} {u:Tok} {Q:Value→Shared→Prop} (hy:(y.length == 0)=false)
 (hq:∀l k,l.map (·.1)=Txt.split x y→Q (.ref s.heap.objs.size) { s with heap:=s.heap.push (PySem.W.listOf (strValues l).toArray 0),toks:=k })
 (xZ:x.length≤sizeLine) (YH:(partsBetween x (occurrences x y 0 x.length (x.length+1)) y.length).length≤sizeLine):
 wpAny (model c.prog c.w) A (call (.builtin "str.split") [.str x t,.str y u]) Q E s:=by
 cases h1:(decide (x.length<y.length) || decide (Builtin.Str.strKind x<Builtin.Str.strKind y))
 ·cases hf:(occurrences x y 0 x.length (x.length+1)).isEmpty
  ·refine call_meets PySem.F.slot_str_split (typeIs_str _ _ _) PySem.F.entry_str_split (PySem.F.args_str_split_2 _ _) (meets_str_split_sep x y t u h1 hy hf xZ YH) ?_
   show wants Q E _ { s with toks:=_,heap:=s.heap.push { cls:=.type "list",data:=.seq (strsFrom s.toks (partsBetween x (occurrences x y 0 x.length (x.length+1)) y.length)).toArray } }
   rw [strsFrom_eq]
   exact hq (numbered s.toks _) _ ((numbered_texts _ _).trans ((if_neg (ne_true_of_eq_false h1)).trans (if_neg (ne_true_of_eq_false hf))).symm)
  ·exact call_meets PySem.F.slot_str_split (typeIs_str _ _ _) PySem.F.entry_str_split (PySem.F.args_str_split_2 _ _) (meets_str_split_not_found x y t u h1 hy hf)
    (hq [(x,t)] s.toks ((if_neg (ne_true_of_eq_false h1)).trans (if_pos hf)).symm)
 ·exact call_meets PySem.F.slot_str_split (typeIs_str _ _ _) PySem.F.entry_str_split (PySem.F.args_str_split_2 _ _) (meets_str_split_cannot_occur x y t u h1)
   (hq [(x,t)] s.toks (if_pos h1).symm)
theorem Ki {x y:Str} {t u:Tok} {Q:VQ} {T:Value→Shared→Prop} (R:Rel c D mh s.heap) (hy:y.length≠0) (hx:x.length<bw) (hz:(partsBetween x (occurrences x y 0 x.length (x.length+1)) y.length).length<bw)
 (q:aH mh (.list (aw (Txt.split x y))) Q) (k:KV c D mh s Q T):wpAny (model c.prog c.w) A (call (.builtin "str.split") [.str x t,.str y u]) T E s:=by
 refine ML (by simpa using hy) (fun l k' e=>?_) (cx hx) (cx hz)
 refine k.list R ?_ q
 have:=Kh (h:=s.heap) (strsAre_of_values l)
 rw [e] at this
 exact this
theorem Fl {x y z:Str} {t u v:Tok} {Q:VQ} {T:Value→Shared→Prop} (R:Rel c D mh s.heap) (hu:u≠0) (hv:v≠0) (huv:u≠v) (hyz:y≠z) (hb:x.length+(x.length+1) * z.length<bw)
 (q:Q (.str (Txt.replace x y z)) mh) (k:KV c D mh s Q T):wpAny (model c.prog c.w) A (call (.builtin "str.replace") [.str x t,.str y u,.str z v]) T E s:=
 SC.replace hu hv huv (by simpa using hyz) (Jd hb) fun t' k'=>k.tok R .ofStr q
theorem MM {α:Type} [DecidableEq α] {h:Heap} {es:List (α×Val)}:∀{cW:List (α×Value)} (x:α),wQ h es cW→(es.lookup x=none∧valueAt cW x=none)∨∃v u,es.lookup x=some v∧valueAt cW x=some u∧VR h v u:=by
 induction es with
 | nil=>rintro cW x r;obtain rfl:=r;exact .inl ⟨rfl,rfl⟩
 | cons p_ es ih=>
   obtain ⟨y,v⟩:=p_
   rintro cW x ⟨u,r',e,a,b⟩
   subst e
   by_cases MN:x=y
   ·subst MN
    refine .inr ⟨v,u,by simp,?_,a⟩
    simp [valueAt]
   ·have ih:=ih x b
    have e1:((y,v)::es).lookup x=es.lookup x:=by simp [List.lookup_cons,beq_eq_false_iff_ne.mpr MN]
    have e2:valueAt ((y,u)::r') x=valueAt r' x:=by simp [valueAt,Ne.symm MN]
    rw [e1,e2];exact ih
end
end
structure fy (c:Cfg) (d:Nat) (A:Around) (s:Shared) (sc:Scope) (env:Env) (ρ:Loc) (D:Addr→Addr) (mh:MH):Prop where
 ok:wz A d
 pos:0<s.toks
 rel:Rel c D mh s.heap
 c3:dU c sc env ρ D mh s.heap
def KP (c:Cfg) (D:Addr→Addr) (mh:MH) (s:Shared) (Q:VQ) (T:Value→Shared→Prop):Prop:=
 ∀u s' v D' aD,0<s'.toks→aV c D mh s D' aD s'→VR s'.heap v u→Q v aD→T u s'
def KB (c:Cfg) (D:Addr→Addr) (mh:MH) (s:Shared) (Q:BQ) (T:Bool→Shared→Prop):Prop:=
 ∀b s' D' aD,aV c D mh s D' aD s'→Q b aD→T b s'
def KBP (c:Cfg) (D:Addr→Addr) (mh:MH) (s:Shared) (Q:BQ) (T:Bool→Shared→Prop):Prop:=
 ∀b s' D' aD,0<s'.toks→aV c D mh s D' aD s'→Q b aD→T b s'
def aT (c:Cfg) (d n:Nat):Prop:=∀(A:Around) (E:Value→Shared→Prop) (s:Shared) (sc:Scope) (env:Env) (ρ:Loc) (D:Addr→Addr) (mh:MH) (e:PySem.Expr) (Q:VQ) (T:Value→Shared→Prop),
 fy c d A s sc env ρ D mh→aJ c d n sc ρ e mh Q→KV c D mh s Q T→wpAny (model c.prog c.w) A (eval e env) T E s
def cS (c:Cfg) (d n:Nat):Prop:=∀(A:Around) (E:Value→Shared→Prop) (s:Shared) (sc:Scope) (env:Env) (ρ:Loc) (D:Addr→Addr) (mh:MH) (e:PySem.Expr) (Q:BQ) (T:Bool→Shared→Prop),
 fy c d A s sc env ρ D mh→dq c d n sc ρ e mh Q→KB c D mh s Q T→wpAny (model c.prog c.w) A (isTrue e env (eval e env)) T E s
theorem aC {a b:Bool} (h:(a&&b)=true):a=true∧b=true:=(Bool.and_eq_true _ _).mp h
theorem wC {p:Prop} [Decidable p] (h:decide p=true):p:=of_decide_eq_true h
section
variable {c:Cfg} {d n:Nat} {A:Around} {E:Value→Shared→Prop} {s:Shared} {sc:Scope} {env:Env} {ρ:Loc} {D:Addr→Addr} {mh:MH}
theorem fy.next {s₁:Shared} {aK av} (X:fy c d A s sc env ρ D mh) (H:0<s₁.toks) (p:aV c D mh s aK av s₁):fy c d A s₁ sc env ρ aK av:=⟨X.ok,H,p.rel,X.c3.sW p⟩
theorem KB.trans {s₁:Shared} {aK av} {Q:BQ} {T:Bool→Shared→Prop} (k:KB c D mh s Q T) (p:aV c D mh s aK av s₁):KB c aK av s₁ Q T:=fun b s' D' aD p' q=>k b s' D' aD (p.trans p') q
theorem aT.p (I:aT c d n) {e:PySem.Expr} {Q:VQ} {T:Value→Shared→Prop} (X:fy c d A s sc env ρ D mh)
 (hW:aJ c d n sc ρ e mh Q) (k:KP c D mh s Q T):wpAny (model c.prog c.w) A (eval e env) T E s:=
 wpAny_with_toks (n:=s.toks) (Nat.le_refl _) (I A _ s sc env ρ D mh e Q _ X hW fun u s' v D' aD p r q le=>k u s' v D' aD (Nat.lt_of_lt_of_le X.pos le) p r q) |> fun h=>wpAny_mono h (fun zz zz x=>x) fun zz zz x=>x
theorem cS.p (I:cS c d n) {e:PySem.Expr} {Q:BQ} {T:Bool→Shared→Prop} (X:fy c d A s sc env ρ D mh)
 (hW:dq c d n sc ρ e mh Q) (k:KBP c D mh s Q T):wpAny (model c.prog c.w) A (isTrue e env (eval e env)) T E s:=
 wpAny_with_toks (n:=s.toks) (Nat.le_refl _) (I A _ s sc env ρ D mh e Q _ X hW fun b s' D' aD p q le=>k b s' D' aD (Nat.lt_of_lt_of_le X.pos le) p q) |> fun h=>wpAny_mono h (fun zz zz x=>x) fun zz zz x=>x
theorem Kj {k:Const} {kd:Nat} {pos:Pos} {Q:VQ} {T:Value→Shared→Prop} (R:Rel c D mh s.heap) (hW:Mu k mh Q) (kk:KV c D mh s Q T):wpAny (model c.prog c.w) A (eval (.Constant k kd pos) env) T E s:=by
 cases k with
 | none=>exact wpAny_Constant_none (kk.same R (v:=.none) rfl hW)
 | bool=>exact wpAny_Constant_bool (kk.same R (v:=.bool _) rfl hW)
 | int=>exact wpAny_Constant_int (kk.tok R .ofInt hW)
 | str=>exact wpAny_Constant_str (kk.tok R .ofStr hW)
 | _=>exact False.elim hW
theorem MP {b:Bool} {T:Value→Shared→Prop} (h:T (.bool (!b)) s):wpAny (model c.prog c.w) A (unaryOp .Not (.bool b)) T E s:=by
 unfold unaryOp
 exact wpAny_bind (wpAny_truthy_bool (wpAny_pure h))
theorem pW {pos:Pos} {e:PySem.Expr} {es:List PySem.Expr} (h:notStar e=true):backTo pos (starEach (e::es) env)=(false,eval e env)::backTo pos (starEach es env):=by
 cases e<;>first | rfl | exact (Bool.false_ne_true h).elim
theorem oc (I:aT c d n) {pos:Pos} {es:List PySem.Expr}:∀{s:Shared} {D:Addr→Addr} {mh:MH} {Q:List Val→MH→Prop} {T:List Value→Shared→Prop},
 es.all notStar=true→fy c d A s sc env ρ D mh→sT (aJ c d n sc ρ) es mh Q→
 (∀us s' vs D' aD,0<s'.toks→aV c D mh s D' aD s'→cX s'.heap vs us→vs.length=es.length→Q vs aD→T us s')→wpAny (model c.prog c.w) A (spliced (backTo pos (starEach es env))) T E s:=by
 induction es with
 | nil=>
   rintro s D mh Q T _ X hW k
   exact wpAny_pure (k [] s [] D mh X.pos (.refl X.rel) rfl rfl hW)
 | cons e es ih=>
   rintro s D mh Q T ns X hW k
   rw [pW (aC ns).1]
   show wpAny _ _ (eval e env >>= _) _ _ _
   refine wpAny_bind (I.p X hW fun u s₁ v aK av bE aA bz aU=>?_)
   rw [if_neg Bool.false_ne_true]
   refine wpAny_bind (wpAny_pure (wpAny_bind (wpAny_holding ?_)))
   exact ih (aC ns).2 (X.next bE aA) aU fun us bp vs cA a6 gG cO oh l₂ dX=>wpAny_pure (k (u::us) bp (v::vs) cA a6 gG (aA.trans cO) (.cons (bz.keep cO.vk) oh) (congrArg (·+1) l₂) dX)
theorem yd (I:aT c d n) {pos:Pos} {op:BoolOp}:∀{es:List PySem.Expr} {s:Shared} {D:Addr→Addr} {mh:MH} {Q:VQ} {T:Value→Shared→Prop},
 fy c d A s sc env ρ D mh→I6 (aJ c d n sc ρ) op es mh Q→KV c D mh s Q T→wpAny (model c.prog c.w) A (boolOp pos op (evalEach es env)) T E s
 | [],_,_,_,_,_,_,hW,_=>False.elim hW
 | [e],s,D,mh,Q,T,X,hW,k=>I A E s sc env ρ D mh e Q T X hW k
 | e::e'::es,s,D,mh,Q,T,X,hW,k=>by
   show wpAny _ _ (eval e env >>= _) _ _ _
   refine wpAny_bind (I.p X hW fun u s₁ v aK av bE aA bz aU=>wpAny_bind (wpAny_standAt (wpAny_bind (wpAny_holding ?_))))
   cases aU with
   | @mk b aU=>
     obtain rfl:=bz
     refine wpAny_truthy_bool ?_
     cases op<;>cases b
     ·exact wpAny_pure (k _ _ (.bool _) _ _ aA rfl aU)
     ·exact yd I (X.next bE aA) aU (k.trans aA)
     ·exact yd I (X.next bE aA) aU (k.trans aA)
     ·exact wpAny_pure (k _ _ (.bool _) _ _ aA rfl aU)
theorem Qk (I:cS c d n) {op:BoolOp} {es:List PySem.Expr}:∀{s:Shared} {D:Addr→Addr} {mh:MH} {Q:BQ} {T:Bool→Shared→Prop},
 fy c d A s sc env ρ D mh→P9 (dq c d n sc ρ) op es mh Q→KB c D mh s Q T→wpAny (model c.prog c.w) A (allTrue op es env) T E s:=by
 induction es with
 | nil=>
   rintro s D mh Q T X hW k
   exact wpAny_pure (k _ _ _ _ (.refl X.rel) hW)
 | cons e es ih=>
   rintro s D mh Q T X hW k
   show wpAny _ _ (isTrue e env (eval e env) >>= _) _ _ _
   refine wpAny_bind (I.p X hW fun b s₁ aK av bE aA aU=>?_)
   cases op<;>cases b
   ·exact wpAny_pure (k _ _ _ _ aA aU)
   ·exact ih (X.next bE aA) aU (k.trans aA)
   ·exact ih (X.next bE aA) aU (k.trans aA)
   ·exact wpAny_pure (k _ _ _ _ aA aU)
def Ss (c:Cfg) (A:Around) (E:Value→Shared→Prop) (op:CmpOp) (l x:Value) (s:Shared) (P:Bool→Shared→Prop):Prop:=∀T:Value→Shared→Prop,(∀b s',P b s'→T (.bool b) s')→wpAny (model c.prog c.w) A (compareOp op l x) T E s
theorem Bd (O:c.Ok) (I:aT c d n) {B:Type} (W:Value→List CmpOp→List (Sem Value)→Sem B) (K:Bool→B)
 (last:∀{l r op s} {T:B→Shared→Prop},wpAny (model c.prog c.w) A r (fun x s₁=>Ss c A E op l x s₁ fun b=>T (K b)) E s→wpAny (model c.prog c.w) A (W l [op] [r]) T E s)
 (link:∀{l op YI ops r r' rs s} {T:B→Shared→Prop},wpAny (model c.prog c.w) A r (fun x s₁=>Ss c A E op l x s₁ fun b bp=>match b with
  | true=>wpAny (model c.prog c.w) A (W x (YI::ops) (r'::rs)) T E bp
  | false=>T (K false) bp) E s→wpAny (model c.prog c.w) A (W l (op::YI::ops) (r::r'::rs)) T E s):
 ∀{ops:List CmpOp} {es:List PySem.Expr} {left:Val} {ul:Value} {s:Shared} {D:Addr→Addr} {mh:MH} {Q:BQ} {T:B→Shared→Prop},
 fy c d A s sc env ρ D mh→VR s.heap left ul→nX (aJ c d n sc ρ) ops es left mh Q→
 (∀b s' D' aD,aV c D mh s D' aD s'→Q b aD→T (K b) s')→wpAny (model c.prog c.w) A (W ul ops (evalEach es env)) T E s:=by
 intro ops
 induction ops with
 | nil=>intro es left ul s D mh Q T X rl hW k;exact False.elim hW
 | cons op ops ih=>
   intro es left ul s D mh Q T X rl hW k
   cases es with
   | nil=>exact False.elim hW
   | cons e es=>
     cases ops with
     | nil=>
       cases es with
       | nil=>exact last (I.p X hW fun u s₁ v aK av bE aA bz aU T' kT=>Je O X.ok aA.rel (rl.keep aA.vk) bz aU fun b t q=>kT b _ (k b _ aK av (aA.trans (aV.tok aA.rel)) q))
       | cons e' es=>exact False.elim hW
     | cons YI ops=>
       cases es with
       | nil=>exact False.elim hW
       | cons e' es=>
         refine link (I.p X hW fun u s₁ v aK av bE aA bz aU T' kT=>?_)
         refine wpAny_with_toks (n:=s₁.toks) (Nat.le_refl _) (Je O X.ok aA.rel (rl.keep aA.vk) bz aU fun b t q le=>kT b _ ?_)
         have pt:aV c aK av s₁ aK av { s₁ with toks:=t }:=aV.tok aA.rel
         cases b
         ·exact k false _ aK av (aA.trans pt) q
         ·exact ih ((X.next bE aA).next (Nat.lt_of_lt_of_le bE le) pt) (bz.keep pt.vk) q fun b s' D' aD p q=>k b s' D' aD ((aA.trans pt).trans p) q
theorem Kk (O:c.Ok) (I:aT c d n) {pos:Pos} {ops:List CmpOp} {es:List PySem.Expr} {left:Val} {ul:Value} {Q:BQ} {T:Value→Shared→Prop} (X:fy c d A s sc env ρ D mh) (rl:VR s.heap left ul)
 (hW:nX (aJ c d n sc ρ) ops es left mh Q) (k:∀b s' D' aD,aV c D mh s D' aD s'→Q b aD→T (.bool b) s'):wpAny (model c.prog c.w) A (compareChain pos ul ops (evalEach es env)) T E s:=
 Bd O I (compareChain pos) .bool (fun h=>chain_last (wpAny_mono h (fun zz zz dT=>dT _ fun zz zz x=>x) fun zz zz x=>x))
  (fun h=>chain_link (wpAny_mono h (fun zz zz dT=>dT _ fun b zz x=>wpAny_truthy_bool (by cases b<;>exact x)) fun zz zz x=>x)) X rl hW k
theorem z6 (O:c.Ok) (I:aT c d n) {pos:Pos} {ops:List CmpOp} {es:List PySem.Expr} {left:Val} {ul:Value} {Q:BQ} {T:Bool→Shared→Prop} (X:fy c d A s sc env ρ D mh) (rl:VR s.heap left ul)
 (hW:nX (aJ c d n sc ρ) ops es left mh Q) (k:KB c D mh s Q T):wpAny (model c.prog c.w) A (testChain pos ul ops (evalEach es env)) T E s:=
 Bd O I (testChain pos) id (fun h=>test_last (wpAny_mono h (fun zz zz dT=>dT _ fun zz zz x=>wpAny_truthy_bool x) fun zz zz x=>x))
  (fun h=>test_link (wpAny_mono h (fun zz zz dT=>dT _ fun b zz x=>wpAny_truthy_bool (by cases b<;>exact x)) fun zz zz x=>x)) X rl hW k
theorem Kl {op:CmpOp} {e:PySem.Expr} (h:uS e=true):lastMarks [op] [e]=false:=by
 cases e<;>first | rfl | exact (Bool.false_ne_true h).elim
theorem ye:∀{ops:List CmpOp} {es:List PySem.Expr},es.all uS=true→lastMarks ops es=false
 | [],[],_=>rfl
 | [],_::_,_=>rfl
 | [_],[],_=>rfl
 | _::_::_,[],_=>rfl
 | [op],[e],h=>Kl (aC h).1
 | [_],_::_::_,_=>rfl
 | _::_::r,[_],_=>by cases r<;>rfl
 | _::o::ops,_::e::es,h=>ye (ops:=o::ops) (aC h).2
theorem Fm (O:c.Ok) (I:aT c d n) {l:PySem.Expr} {ops:List CmpOp} {rs:List PySem.Expr} {pos:Pos} {Q:BQ} {T:Value→Shared→Prop} (X:fy c d A s sc env ρ D mh)
 (hW:fu (rs.all uS) (aJ c d n sc ρ l mh fun a c1=>nX (aJ c d n sc ρ) ops rs a c1 Q)) (k:∀b s' D' aD,aV c D mh s D' aD s'→Q b aD→T (.bool b) s'):
 wpAny (model c.prog c.w) A (eval (.Compare l ops rs pos) env) T E s:=by
 obtain ⟨o3,hW⟩:=bT hW
 rw [arm_eval_Compare,markedEach_of_false _ _ _ (ye o3)]
 exact wpAny_bind (I.p X hW fun u s₁ v aK av bE aA bz aU=>Kk O I (X.next bE aA) bz aU fun b s' D' aD p q=>k b s' D' aD (aA.trans p) q)
theorem Cj (O:c.Ok) (I:aT c d n) {l:PySem.Expr} {ops:List CmpOp} {rs:List PySem.Expr} {pos:Pos} {whole:Sem Value} {Q:BQ} {T:Bool→Shared→Prop} (X:fy c d A s sc env ρ D mh)
 (hW:fu (rs.all uS) (aJ c d n sc ρ l mh fun a c1=>nX (aJ c d n sc ρ) ops rs a c1 Q)) (k:KB c D mh s Q T):
 wpAny (model c.prog c.w) A (isTrue (.Compare l ops rs pos) env whole) T E s:=by
 obtain ⟨o3,hW⟩:=bT hW
 show wpAny _ _ (eval l env >>= fun x=>testChain pos x ops (markedEach ops rs (evalEach rs env))) _ _ _
 rw [markedEach_of_false _ _ _ (ye o3)]
 exact wpAny_bind (I.p X hW fun u s₁ v aK av bE aA bz aU=>z6 O I (X.next bE aA) bz aU (k.trans aA))
theorem Jh {o:PySem.Expr} {x:Str} {whole:Sem Value} (h:baseOk o=true):attributeBase o x env whole=whole:=by
 cases o with
 | Call f args J7 pos=>
   cases f with
   | Name _ _=>
     cases args with
     | cons _ _=>rfl
     | nil=>exact (Bool.false_ne_true h).elim
   | Attribute _ _ _=>rfl
   | _=>exact (Bool.false_ne_true h).elim
 | _=>rfl
theorem z7 (O:c.Ok) (I:aT c d n) {o:PySem.Expr} {x:Str} {pos:Pos} {Q:VQ} {T:Value→Shared→Prop} (X:fy c d A s sc env ρ D mh)
 (hW:fu (baseOk o) (aJ c d n sc ρ o mh fun ov c1=>ao c1 Q ov x)) (k:KV c D mh s Q T):wpAny (model c.prog c.w) A (eval (.Attribute o x pos) env) T E s:=by
 obtain ⟨ob,hW⟩:=bT hW
 exact Attribute_any_ (I.p X hW fun u s₁ v aK av bE aA bz aU=>ME O aA.rel bz aU (k.trans aA)) (by rw [arm_eval_Attribute,Jh ob])
theorem yf (I:aT c d n) {e:Option PySem.Expr} {Q:VQ} {T:Value→Shared→Prop} (X:fy c d A s sc env ρ D mh)
 (hW:P8 (aJ c d n sc ρ) e mh Q) (k:KP c D mh s Q T):wpAny (model c.prog c.w) A (evalPart e env) T E s:=by
 cases e with
 | none=>exact wpAny_pure (k _ _ .none _ _ X.pos (.refl X.rel) rfl hW)
 | some e=>exact I.p X hW k
theorem z8 (I:aT c d n) {o i:PySem.Expr} {pos:Pos} {Q:VQ} {T:Value→Shared→Prop} (X:fy c d A s sc env ρ D mh)
 (hW:aJ c d (n+1) sc ρ (.Subscript o i pos) mh Q) (k:KV c D mh s Q T):
 wpAny (model c.prog c.w) A (eval (.Subscript o i pos) env) T E s:=by
 refine Subscript_ (I.p X (show aJ c d n sc ρ o mh _ from hW) fun u s₁ v aK av bE aA bz aU=>?_)
 have iE:=X.next bE aA
 have plain:sV i=true→(aJ c d n sc ρ i av fun iv gh=>ay gh Q v iv)→wpAny (model c.prog c.w) A (eval i env) (fun x bp=>wpAny (model c.prog c.w) A (subscriptTail o i u x) T E bp) E s₁:=fun h q=>I.p iE q fun TG bp Ql cA a6 gG cO oh dX=>Kb h cO.rel (bz.keep cO.vk) oh dX (k.trans (aA.trans cO))
 cases i with
 | Slice lo up st sp=>
   refine wpAny_Slice (yf I iE aU fun TG bp Ql cA a6 gG cO oh dX=>?_)
   have Km:=iE.next gG cO
   refine yf I Km dX fun u₃ iF v₃ Fn s9 Kn kF TH z9=>?_
   refine yf I (Km.next Kn kF) z9 fun u₄ Ck v₄ yg oi V7 Cm MQ yh=>?_
   exact Kf rfl Cm.rel (((bz.keep cO.vk).keep kF.vk).keep Cm.vk) ((oh.keep kF.vk).keep Cm.vk) (TH.keep Cm.vk) MQ yh (k.trans (((aA.trans cO).trans kF).trans Cm))
 | _=>exact plain rfl aU
theorem tc (I:aT c d n) {es:List PySem.Expr} {kd:Nat} {pos:Pos} {Q:VQ} {T:Value→Shared→Prop} (X:fy c d A s sc env ρ D mh)
 (hW:fu (decide (es.length<bw)&&es.all notStar) (sT (aJ c d n sc ρ) es mh fun vs c1=>Q (.tup vs) c1)) (k:KV c D mh s Q T):
 wpAny (model c.prog c.w) A (eval (.Tuple es kd pos) env) T E s:=
 wpAny_Tuple_spliced (oc I (aC (bT hW).1).2 X (bT hW).2 fun us s₁ vs aK av bE aA bz Hw aU=>⟨by rw [bz.length,Hw];exact cx (wC (aC (bT hW).1).1),(k.trans aA).tup (t:=s₁.toks) aA.rel bz aU⟩)
theorem uY (I:aT c d n) {es:List PySem.Expr} {pos:Pos} {Q:VQ} {T:Value→Shared→Prop} (X:fy c d A s sc env ρ D mh)
 (hW:fu (decide (es.length<bw)&&es.all notStar) (sT (aJ c d n sc ρ) es mh fun vs c1=>aH c1 (.list vs) Q)) (k:KV c D mh s Q T):
 wpAny (model c.prog c.w) A (eval (.List es pos) env) T E s:=
 wpAny_List_spliced (oc I (aC (bT hW).1).2 X (bT hW).2 fun us s₁ vs aK av bE aA bz Hw aU=>⟨by rw [bz.length,Hw];exact cx (wC (aC (bT hW).1).1),(k.trans aA).list (t:=s₁.toks) aA.rel bz aU⟩)
end
section
variable {c:Cfg} {d n:Nat} {A:Around} {E:Value→Shared→Prop} {s:Shared} {sc:Scope} {env:Env} {ρ:Loc} {D:Addr→Addr} {mh:MH}
theorem f7 {pos:Pos} {es:List PySem.Expr}:es.all notStar=true→(backTo pos (starEach es env)).any (·.1)=false∧(backTo pos (starEach es env)).all (fun x=>!x.1)=true:=by
 induction es with
 | nil=>
   rintro _
   exact ⟨rfl,rfl⟩
 | cons e es ih=>
   rintro h
   rw [pW (aC h).1]
   exact ih (aC h).2
theorem td (I:aT c d n) {pos:Pos} {f:Value} {es:List PySem.Expr} {Q:List Val→MH→Prop} {T:Args→Shared→Prop} (X:fy c d A s sc env ρ D mh)
 (o2:es.all notStar=true) (hW:sT (aJ c d n sc ρ) es mh Q)
 (k:∀us s' vs D' aD,0<s'.toks→aV c D mh s D' aD s'→cX s'.heap vs us→Q vs aD→T ⟨us,[]⟩ s'):wpAny (model c.prog c.w) A (evalArgs f true (backTo pos (starEach es env)) []) T E s:=by
 have main:=oc (E:=E) I (pos:=pos) (T:=fun us s'=>T ⟨us,[]⟩ s') o2 X hW fun us s' vs D' aD H' p r l q=>k us s' vs D' aD H' p r q
 cases es with
 | nil=>exact evalArgs_nil3 (k [] s [] D mh X.pos (.refl X.rel) rfl hW)
 | cons e es=>
   rw [pW (aC o2).1] at main⊢
   exact evalArgs_plain main
theorem boot_max:bootBuiltins "max"=some (.builtin "max"):=by decide+kernel
theorem boot_ord:bootBuiltins "ord"=some (.builtin "ord"):=by decide+kernel
theorem boot_sorted:bootBuiltins "sorted"=some (.builtin "sorted"):=by decide+kernel
theorem Qm {f:Str} (h:Mw f=true):bootBuiltins f=some (Jg f)∧f∈eZ∧f≠"__name__"∧((∃i,Jg f= .builtin i)∨∃i,Jg f= .type i):=by
 have :f="len"∨f="int"∨f="max"∨f="range"∨f="tuple"∨f="list"∨f="ord":=by simpa [Mw] using h
 rcases this with rfl | rfl | rfl | rfl | rfl | rfl | rfl
 ·exact ⟨boot_len,by simp [eZ],by decide,.inl ⟨_,rfl⟩⟩
 ·exact ⟨boot_int,by simp [eZ],by decide,.inr ⟨_,by rfl⟩⟩
 ·exact ⟨boot_max,by simp [eZ],by decide,.inl ⟨_,by rfl⟩⟩
 ·exact ⟨boot_range,by simp [eZ],by decide,.inr ⟨_,by rfl⟩⟩
 ·exact ⟨boot_tuple,by simp [eZ],by decide,.inr ⟨_,by rfl⟩⟩
 ·exact ⟨boot_list,by simp [eZ],by decide,.inr ⟨_,by rfl⟩⟩
 ·exact ⟨boot_ord,by simp [eZ],by decide,.inl ⟨_,by rfl⟩⟩
theorem TJ {f:Str} {vs:List Val} {us:List Value} {Q:VQ} {T:Value→Shared→Prop} (HA:wz A d) (R:Rel c D mh s.heap) (r:cX s.heap vs us) (hW:eX mh Q f vs) (k:KV c D mh s Q T):
 wpAny (model c.prog c.w) A (call (Jg f) us) T E s:=by
 cases hW with
 | len q=>obtain ⟨u,rfl,z⟩:=r.one;exact Qi R z q k
 | B9 q=>obtain ⟨u,rfl,⟨t,rfl⟩⟩:=r.one;exact call_int_int (k.same R .ofInt q)
 | Mv q=>obtain ⟨u,rfl,z⟩:=r.one;obtain rfl:=z;exact call_int_bool (k.tok R .ofInt q)
 | @max a b q=>
   obtain ⟨u,u',rfl,⟨t,rfl⟩,⟨t',rfl⟩⟩:=r.two
   refine max_two_ints HA.handled fun h' tk kp=>k _ _ (.int (max a b)) D mh (aV.ext R kp) ?_ q
   by_cases h:b > a
   ·rw [if_pos h,Int.max_eq_right (Int.le_of_lt h)];exact .ofInt
   ·rw [if_neg h,Int.max_eq_left (Int.not_lt.mp h)];exact .ofInt
 | @range m h0 h q=>obtain ⟨u,rfl,⟨t,rfl⟩⟩:=r.one;exact call_range_1 (k _ _ (.xG m) D mh (aV.push R) ⟨_,_,_,_,rfl,IsRange.new ..⟩ q)
 | tuple e hl q=>obtain ⟨u,rfl,z⟩:=r.one;exact Kg R z e hl q k
 | list e hl q=>obtain ⟨u,rfl,z⟩:=r.one;exact MG R z e hl q k
 | ord h q=>
   obtain ⟨u,rfl,⟨t,rfl⟩⟩:=r.one
   exact ord_of_one h (k.tok R (v:=.int _) ⟨s.toks,by rw [Array.getD_eq_getD_getElem?]⟩ q)
theorem eR {pos:Pos} {v:Value} (hv:(∃i,v= .builtin i)∨∃i,v= .type i) {first:List Value} {trees:List (Bool×Sem Value)} {T:Value→Shared→Prop} (hp:trees.any (·.1)=false)
 (h:wpAny (model c.prog c.w) A (evalArgs v true trees []) (fun a s₁=>wpAny (model c.prog c.w) A (call v (first++a.pos) a.kw) T E s₁) E s):wpAny (model c.prog c.w) A (callWith pos v first trees []) T E s:=by
 rcases hv with ⟨i,rfl⟩ | ⟨i,rfl⟩
 ·exact Calls.callWith_builtin hp h
 ·exact PyProof.Rows.callWith_type hp h
theorem jM {f:Str} {p pos:Pos} {args:List PySem.Expr} {T:Value→Shared→Prop} (hn:uQ f=true)
 (h:wpAny (model c.prog c.w) A (loadName env f) (fun fv s₁=>wpAny (model c.prog c.w) A (callWith pos fv [] (backTo pos (starEach args env)) []) T E s₁) E s):wpAny (model c.prog c.w) A (eval (.Call (.Name f p) args [] pos) env) T E s:=
 wpAny_Call_Name_kw (wpAny_Name h (Bool.not_eq_true' _▸(aC hn).1))
theorem Hx (O:c.Ok) (I:aT c d n) {f:Str} {p pos:Pos} {args:List PySem.Expr} {Q:VQ} {T:Value→Shared→Prop} (X:fy c d A s sc env ρ D mh)
 (hb:Mw f=true) (hn:uQ f=true) (hg:dV sc f=true) (o2:args.all notStar=true) (hW:sT (aJ c d n sc ρ) args mh fun vs c1=>eX c1 Q f vs) (k:KV c D mh s Q T):
 wpAny (model c.prog c.w) A (eval (.Call (.Name f p) args [] pos) env) T E s:=by
 obtain ⟨b1,b2,b3,b4⟩:=Qm hb
 exact jM hn (sX O X.c3 X.rel hg (O.bi f b2) b1 b3 (eR b4 (f7 o2).1 (td I X o2 hW fun us s₁ vs aK av bE aA bz aU=>TJ X.ok aA.rel bz aU (k.trans aA))))
theorem Hy (O:c.Ok) (I:aT c d n) {f:Str} {p pos:Pos} {args:List PySem.Expr} {Q:VQ} {T:Value→Shared→Prop} (X:fy c d A s sc env ρ D mh)
 (hn:uQ f=true) (hg:dV sc f=true) (hk:aX c f=true) (o2:args.all notStar=true)
 (hW:sT (aJ c d n sc ρ) args mh fun vs c1=>aq c d f vs c1 Q) (k:KV c D mh s Q T):wpAny (model c.prog c.w) A (eval (.Call (.Name f p) args [] pos) env) T E s:=
 jM hn (Jc O X.c3 X.rel hg (beq_iff_eq.mp (aC hk).1) (callWith_of (P:=fun h=>c.K.In h) (by rw [(f7 o2).1];rfl) (keeps_K (aC hk).2) (td I X o2 hW fun us s₁ vs aK av bE aA bz aU=>⟨O.X.keeps aA.rel.old,
  aU A s₁ aK us T E X.ok bE aA.rel bz (k.trans aA)⟩)))
noncomputable def Hz (m:Str):String:=if m="append" then "list.append" else if m="extend" then "list.extend" else if m="sort" then "list.sort" else "list.pop"
theorem HB {m:Str} (h:(["append","extend","sort","pop"]:List Str).contains m=true):Slot "list" m (Hz m)∧typeOf (.builtin (Hz m))=pure (.type "method_descriptor"):=by
 have :m="append"∨m="extend"∨m="sort"∨m="pop":=by simpa using h
 rcases this with rfl | rfl | rfl | rfl
 ·exact ⟨PySem.F.slot_list_append,PySem.F.type_list_append⟩
 ·exact ⟨PySem.F.slot_list_extend,PySem.F.type_list_extend⟩
 ·exact ⟨PySem.F.slot_list_sort,PySem.F.type_list_sort⟩
 ·exact ⟨PySem.F.slot_list_pop,PySem.F.type_list_pop⟩
noncomputable def MR (m:Str):String:=if m="join" then "str.join" else "str.split"
theorem Ko {m:Str} (h:(["join","split"]:List Str).contains m=true):Slot "str" m (MR m)∧typeOf (.builtin (MR m))=pure (.type "method_descriptor"):=by
 have :m="join"∨m="split":=by simpa using h
 rcases this with rfl | rfl
 ·exact ⟨PySem.F.slot_str_join,PySem.F.type_str_join⟩
 ·exact ⟨PySem.F.slot_str_split,PySem.F.type_str_split⟩
theorem Kp {m:Str} {a:Addr} {vs:List Val} {us:List Value} {Q:VQ} {T:Value→Shared→Prop} (R:Rel c D mh s.heap) (r:cX s.heap vs us) (hW:nW mh Q m a vs) (k:KV c D mh s Q T):
 wpAny (model c.prog c.w) A (call (.builtin (Hz m)) (.ref a::us)) T E s:=by
 cases hW with
 | append e h q=>obtain ⟨u,rfl,z⟩:=r.one;exact Hu R e z h q k
 | extend e e' h q=>obtain ⟨u,rfl,z⟩:=r.one;obtain rfl:=z;exact Hv R e e' h q k
 | sort e i h q=>obtain rfl:=r.none;exact MJ R e i h q k
 | pop e h q=>obtain rfl:=r.none;exact Qj R e h q k
theorem Kq {m:Str} {x:Str} {t:Tok} {vs:List Val} {us:List Value} {Q:VQ} {T:Value→Shared→Prop} (R:Rel c D mh s.heap) (r:cX s.heap vs us) (hW:uN mh Q m x vs) (k:KV c D mh s Q T):
 wpAny (model c.prog c.w) A (call (.builtin (MR m)) (.str x t::us)) T E s:=by
 cases hW with
 | join e i h q=>obtain ⟨u,rfl,z⟩:=r.one;exact MK R z e i h q k
 | split h0 h h1 q=>obtain ⟨u,rfl,⟨t',rfl⟩⟩:=r.one;exact Ki R h0 h h1 q k
theorem Ji {K:Type} [DecidableEq K] {knd:PySem.KeyKind c.prog c.w K} {a:Addr} {cW:List (K×Value)} {ep:Nat} {k:K} {key:Value} {T:Value→Shared→Prop} (hk:knd.is k key=true) (hd:s.heap.DictAt knd a cW ep) (hm:(a == sysModules)=false)
 (h:T ((valueAt cW k).getD .none) { s with toks:=s.toks+1 }):wpAny (model c.prog c.w) A (call (.builtin "dict.get") [.ref a,key]) T E s:=
 call_meetsIn PySem.F.slot_dict_get ((by obtain ⟨o,_,ho,hc,_⟩:=hd;exact ⟨o,ho,hc.1⟩)) PySem.F.entry_dict_get (PySem.F.args_dict_get_2 _ _) (meets_dict_get knd a hk hm) ⟨_,hd.dictOf.mapOf,h⟩
theorem Jj {K:Type} [DecidableEq K] {knd:PySem.KeyKind c.prog c.w K} {a:Addr} {cW:List (K×Value)} {ep:Nat} {k:K} {key dv:Value} {T:Value→Shared→Prop} (hk:knd.is k key=true) (hd:s.heap.DictAt knd a cW ep) (hm:(a == sysModules)=false)
 (h:T ((valueAt cW k).getD dv) { s with toks:=s.toks+1 }):wpAny (model c.prog c.w) A (call (.builtin "dict.get") [.ref a,key,dv]) T E s:=
 call_meetsIn PySem.F.slot_dict_get ((by obtain ⟨o,_,ho,hc,_⟩:=hd;exact ⟨o,ho,hc.1⟩)) PySem.F.entry_dict_get (PySem.F.args_dict_get_3 _ _ _) (meets_dict_get_default knd a hk hm dv) ⟨_,hd.dictOf.mapOf,h⟩
theorem Jk {α:Type} [DecidableEq α] {es:List (α×Val)} {cW:List (α×Value)} (x:α) {h:Heap} {dv:Val} {ud:Value} (r:wQ h es cW) (rd:VR h dv ud):VR h ((es.lookup x).getD dv) ((valueAt cW x).getD ud):=by
 rcases MM x r with ⟨h1,h2⟩ | ⟨v,u,h1,h2,h3⟩
 ·rw [h1,h2];exact rd
 ·rw [h1,h2];exact h3
theorem Be (O:c.Ok) {a:Addr} {kv dv v:Val} {uk ud:Value} (R:Rel c D mh s.heap) (r:VR s.heap kv uk) (rd:VR s.heap dv ud) (g:A8 mh dv a kv v):
 (a == sysModules)=false∧((∃(cW:List (Str×Value)) (ep:Nat) (x:Str),(PySem.strKind c.prog c.w).is x uk=true∧s.heap.DictAt (PySem.strKind c.prog c.w) a cW ep∧VR s.heap v ((valueAt cW x).getD ud))∨
  ∃(cW:List (Int×Value)) (ep:Nat) (x:Int),(PySem.intKind c.prog c.w).is x uk=true∧s.heap.DictAt (PySem.intKind c.prog c.w) a cW ep∧VR s.heap v ((valueAt cW x).getD ud)):=by
 cases g with
 | str e=>
   obtain ⟨t,rfl⟩:=r
   obtain ⟨cW,hd,rk⟩:=R.obj _ _ e
   exact ⟨dW O R e rfl,.inl ⟨cW,_,_,strKind_is c.prog c.w _ t,hd,Jk _ rk rd⟩⟩
 | int e=>
   obtain ⟨t,rfl⟩:=r
   obtain ⟨cW,hd,rk⟩:=R.obj _ _ e
   exact ⟨dW O R e rfl,.inr ⟨cW,_,_,intKind_is c.prog c.w _ t,hd,Jk _ rk rd⟩⟩
 | nil e=>
   obtain ⟨t,rfl⟩:=r
   obtain ⟨cW,hd,rk⟩:=R.obj _ _ e
   obtain rfl:=rk
   exact ⟨dW O R e rfl,.inr ⟨[],_,_,intKind_is c.prog c.w _ t,kC hd,rd⟩⟩
theorem Bf (O:c.Ok) {a:Addr} {vs:List Val} {us:List Value} {Q:VQ} {T:Value→Shared→Prop} (R:Rel c D mh s.heap) (r:cX s.heap vs us) (hW:jm mh Q a vs) (k:KV c D mh s Q T):
 wpAny (model c.prog c.w) A (call (.builtin "dict.get") (.ref a::us)) T E s:=by
 cases hW with
 | one g q=>
   obtain ⟨u,rfl,z⟩:=r.one
   obtain ⟨hm,⟨cW,ep,x,h1,h2,h3⟩ | ⟨cW,ep,x,h1,h2,h3⟩⟩:=Be O R z (ud:=.none) (dv:=.none) rfl g
   ·exact Ji h1 h2 hm (k.tok R h3 q)
   ·exact Ji h1 h2 hm (k.tok R h3 q)
 | two g q=>
   obtain ⟨u,u',rfl,z,z'⟩:=r.two
   obtain ⟨hm,⟨cW,ep,x,h1,h2,h3⟩ | ⟨cW,ep,x,h1,h2,h3⟩⟩:=Be O R z z' g
   ·exact Jj h1 h2 hm (k.tok R h3 q)
   ·exact Jj h1 h2 hm (k.tok R h3 q)
theorem Bg {o:PySem.Expr} {m:Str} {apos pos:Pos} {args:List PySem.Expr} {T:Value→Shared→Prop} (o1:baseOk o=true) (o2:args.all notStar=true) (o3:args.length<29) (o4:(apos.endLine == pos.line)=true)
 (h:wpAny (model c.prog c.w) A (eval o env) (fun ov s₁=>∀pl,wpAny (model c.prog c.w) A (getMethod ov m pl) (fun p bp=>wpAny (model c.prog c.w) A (callWith pos p.1 p.2 (backTo pos (starEach args env)) []) T E bp) E s₁) E s):
 wpAny (model c.prog c.w) A (eval (.Call (.Attribute o m apos) args [] pos) env) T E s:=by
 rw [arm_eval_Call,Jh o1]
 refine wpAny_bind (wpAny_mono h (fun ov s₁ dT=>?_) fun zz zz e=>e)
 refine wpAny_bind (wpAny_standAt ?_)
 have V8:methodCallForm (args.length+([]:List Keyword).length) (backTo pos (starEach args env)) (backToKw pos (keywordEach [] env))=true:=by
  unfold methodCallForm
  rw [(f7 o2).2]
  show (true&&true&&decide (args.length+0+0<30))=true
  exact decide_eq_true (show args.length<30 from Nat.lt_succ_of_lt o3)
 have YJ:methodCallPos true o env apos pos=pure pos:=by unfold methodCallPos;rw [o4];rfl
 unfold methodCall
 rw [V8]
 refine wpAny_bind (wpAny_holding ?_)
 unfold calleeOf
 rw [if_pos rfl]
 exact wpAny_mono (dT _) (fun p bp Hn=>wpAny_bind (wpAny_of_eq YJ Hn)) fun zz zz e=>e
theorem Cn (O:c.Ok) (I:aT c d n) {o:PySem.Expr} {m:Str} {apos pos:Pos} {args:List PySem.Expr} {Q:VQ} {T:Value→Shared→Prop} (X:fy c d A s sc env ρ D mh)
 (o1:baseOk o=true) (o2:args.all notStar=true) (o3:args.length<29) (o4:(apos.endLine == pos.line)=true)
 (hW:aJ c d n sc ρ o mh fun ov c1=>ak c c1 (fun k=>sT (aJ c d n sc ρ) args c1 fun vs gh=>ar c d k m ov vs gh Q) m ov) (k:KV c D mh s Q T):
 wpAny (model c.prog c.w) A (eval (.Call (.Attribute o m apos) args [] pos) env) T E s:=by
 refine Bg o1 o2 o3 o4 (I.p X hW fun u s₁ v aK av bE aA bz aU pl=>?_)
 have iE:=X.next bE aA
 have bi:∀{i:String} {self:Value} {W:List Val→MH→VQ→Prop},sT (aJ c d n sc ρ) args av (fun vs gh=>W vs gh Q)→
  (∀{bp:Shared} {cA a6 vs us},Rel c cA a6 bp.heap→cX bp.heap vs us→W vs a6 Q→KV c cA a6 bp Q T→wpAny (model c.prog c.w) A (call (.builtin i) (self::us)) T E bp)→
  wpAny (model c.prog c.w) A (callWith pos (.builtin i) [self] (backTo pos (starEach args env)) []) T E s₁:=fun q h=>
  eR (.inl ⟨_,rfl⟩) (f7 o2).1 (td I iE o2 q fun us bp vs cA a6 gG cO oh dX=>h cO.rel oh dX (k.trans (aA.trans cO)))
 cases aU with
 | str hm q=>
   obtain ⟨t,rfl⟩:=bz
   obtain ⟨sl,ty⟩:=Ko hm
   exact getMethod_builtin (typeIs_str _ _ _) PySem.F.plainAttrs_str sl ty (fun zz q=>nomatch q) (bi (W:=fun vs mh Q=>uN mh Q _ _ vs) q fun R r q k=>Kq R r q k)
 | list el hm q=>
   obtain rfl:=bz
   obtain ⟨c2,nn,Ha,va⟩:=gW aA.rel el
   obtain ⟨sl,ty⟩:=HB hm
   exact getMethod_builtin ⟨_,Ha,rfl⟩ PySem.F.plainAttrs_list sl ty (fun zz q=>by cases q;exact ⟨_,Ha,rfl⟩) (bi (W:=fun vs mh Q=>nW mh Q _ _ vs) q fun R r q k=>Kp R r q k)
 | ax ed q=>
   obtain rfl:=bz
   obtain ⟨cW,⟨oo,_,ho,hc,_⟩,rk⟩:=aA.rel.obj _ _ ed
   exact getMethod_builtin ⟨_,ho,hc.1⟩ PySem.F.plainAttrs_dict PySem.F.slot_dict_get PySem.F.type_dict_get (fun zz q=>by cases q;exact ⟨_,ho,hc.2.1⟩) (bi (W:=fun vs mh Q=>jm mh Q _ vs) q fun R r q k=>Bf O R r q k)
 | cz ed q=>
   obtain rfl:=bz
   obtain ⟨cW,⟨oo,_,ho,hc,_⟩,rk⟩:=aA.rel.obj _ _ ed
   exact getMethod_builtin ⟨_,ho,hc.1⟩ PySem.F.plainAttrs_dict PySem.F.slot_dict_get PySem.F.type_dict_get (fun zz q=>by cases q;exact ⟨_,ho,hc.2.1⟩) (bi (W:=fun vs mh Q=>jm mh Q _ vs) q fun R r q k=>Bf O R r q k)
 | @inst m a C fs ei hm hok q=>
   obtain rfl:=bz
   obtain ⟨YK,h4⟩:=aC hok
   obtain ⟨h12,h3⟩:=aC YK
   obtain ⟨h1,h2⟩:=aC h12
   obtain ⟨es,nn,IA,hd,rf⟩:=Hq aA.rel ei
   have hs:shadowIn (some (dictOf es nn)) m=some false:=by
    show (lookIn m (dictOf es nn)).map _=_
    rw [lookIn_dict,(Ci rf).1 hm];rfl
   refine method_fn (O.X.keeps aA.rel.old) IA (plainGet_of h4).1 (plainGet_of h4).2 (beq_iff_eq.mp h1) (beq_iff_eq.mp h2) hs ?_
   exact callWith_of (P:=fun h=>c.K.In h) (by rw [(f7 o2).1];rfl) (keeps_K h3) (td I iE o2 q fun us bp vs cA a6 gG cO oh dX=>⟨O.X.keeps cO.rel.old,
    dX A bp cA _ T E X.ok gG cO.rel (.cons rfl oh) (k.trans (aA.trans cO))⟩)
end
section
variable {c:Cfg} {d n:Nat} {A:Around} {E:Value→Shared→Prop} {s:Shared} {sc:Scope} {env:Env} {ρ:Loc} {D:Addr→Addr} {mh:MH}
theorem wW (I:aT c d n) {o:PySem.Expr} {x y:Str} {k1 k2:Nat} {p1 p2 apos pos:Pos} {Q:VQ} {T:Value→Shared→Prop} (X:fy c d A s sc env ρ D mh)
 (o1:baseOk o=true) (o4:(apos.endLine == pos.line)=true) (hW:aJ c d n sc ρ o mh fun ov c1=>Ja x y c1 Q ov) (k:KV c D mh s Q T):
 wpAny (model c.prog c.w) A (eval (.Call (.Attribute o "replace" apos) [.Constant (.str x) k1 p1,.Constant (.str y) k2 p2] [] pos) env) T E s:=by
 refine Bg o1 rfl (Nat.le_of_ble_eq_true rfl) o4 (I.p X hW fun u s₁ v aK av bE aA bz aU pl=>?_)
 cases aU with
 | mk hn h q=>
   obtain ⟨t,rfl⟩:=bz
   refine getMethod_builtin (typeIs_str _ _ _) PySem.F.plainAttrs_str PySem.F.slot_str_replace PySem.F.type_str_replace (fun zz q=>nomatch q) ?_
   refine eR (.inl ⟨_,rfl⟩) rfl (evalArgs_plain ?_)
   show wpAny _ _ (eval (.Constant (.str x) k1 p1) env >>= _) _ _ _
   refine wpAny_bind (wpAny_Constant_str (wpAny_bind (wpAny_pure (wpAny_bind (wpAny_holding ?_)))))
   show wpAny _ _ (eval (.Constant (.str y) k2 p2) env >>= _) _ _ _
   refine wpAny_bind (wpAny_Constant_str (wpAny_bind (wpAny_pure (wpAny_bind (wpAny_holding (wpAny_pure (wpAny_pure (wpAny_pure ?_))))))))
   have pt:aV c aK av s₁ aK av { s₁ with toks:=s₁.toks+1+1 }:=aV.tok aA.rel
   exact Fl (s:={ s₁ with toks:=s₁.toks+1+1 }) pt.rel (Nat.ne_of_gt bE) (Nat.succ_ne_zero _) (Nat.ne_of_lt (Nat.lt_succ_self _)) hn h q ((k.trans aA).trans pt)
noncomputable def uZ (h:Heap):List (Val×Val)→List (Value×Value)→Prop
 | [],us=>us=[]
 | (a,b)::l,us=>∃ua ub r,us=(ua,ub)::r∧VR h a ua∧VR h b ub∧uZ h l r
theorem uZ.keep {h h':Heap} (k:cR h h') {l}:∀{us},uZ h l us→uZ h' l us:=by
 induction l with
 | nil=>
   rintro _ x
   exact x
 | cons p_ l_ ih=>
   obtain ⟨_,_⟩:=p_
   rintro _ ⟨ua,ub,r,e,x,y,z⟩
   exact ⟨ua,ub,r,e,x.keep k,y.keep k,ih z⟩
theorem Bh (I:aT c d n) {pos:Pos}:∀{ks:List (Option PySem.Expr)} {vs:List PySem.Expr} {s:Shared} {D:Addr→Addr} {mh:MH} {Q:List (Val×Val)→MH→Prop} {T:List (Value×Value)→Shared→Prop},
 fy c d A s sc env ρ D mh→Ca (aJ c d n sc ρ) ks vs mh Q→
 (∀us s' ps D' aD,aV c D mh s D' aD s'→uZ s'.heap ps us→ps.length=ks.length→Q ps aD→T us s')→wpAny (model c.prog c.w) A (evalPairs (pairTrees ks vs env pos)) T E s
 | [],[],s,D,mh,Q,T,X,hW,k=>wpAny_pure (k [] s [] D mh (.refl X.rel) rfl rfl hW)
 | some ke::ks,v::vs,s,D,mh,Q,T,X,hW,k=>by
   show wpAny _ _ (eval ke env >>= _) _ _ _
   refine wpAny_bind (I.p X hW fun u s₁ YL aK av bE aA bz aU=>wpAny_bind (wpAny_holding (wpAny_bind ?_)))
   refine I.p (X.next bE aA) aU fun TG bp Ql cA a6 gG cO oh dX=>wpAny_bind (wpAny_standAt (wpAny_pure (wpAny_bind (wpAny_holding ?_))))
   exact Bh I ((X.next bE aA).next gG cO) dX fun us iF ps Fn s9 kF TH YM z9=>
    wpAny_pure (k _ _ ((YL,Ql)::ps) Fn s9 ((aA.trans cO).trans kF) ⟨_,_,_,rfl,(bz.keep cO.vk).keep kF.vk,oh.keep kF.vk,TH⟩ (congrArg (·+1) YM) z9)
 | none::_,[],_,_,_,_,_,_,hW,_=>False.elim hW
 | none::_,_::_,_,_,_,_,_,_,hW,_=>False.elim hW
 | [],_::_,_,_,_,_,_,_,hW,_=>False.elim hW
 | some _::_,[],_,_,_,_,_,_,hW,_=>False.elim hW
theorem Jl {α:Type} [DecidableEq α] (k:α) (v:Val) (es:List (α×Val)):(putK k v es).length≤es.length+1:=by
 unfold putK
 split
 ·rw [List.length_map];exact Nat.le_succ _
 ·rw [List.length_append];exact Nat.le_refl _
theorem Co {a:Addr} {ps:List (Val×Val)}:∀{es:List (Str×Val)} {us:List (Value×Value)} {s:Shared} {base:List (Str×Val)} {cW:List (Str×Value)} {T:Unit→Shared→Prop},uZ s.heap ps us→strPairs ps=some es→
 s.heap.DictOf (PySem.strKind c.prog c.w) a cW→wQ s.heap base cW→base.length+ps.length<bw→(∃o,s.heap.get? a=some o∧¬ET o)→
 (∀h' t wV,h'.DictOf (PySem.strKind c.prog c.w) a wV→wQ h' (es.foldl (fun r p=>putK p.1 p.2 r) base) wV→Heap.SameBut a s.heap h'→T () { s with heap:=h',toks:=t })→wpAny (model c.prog c.w) A (storeAll a us) T E s:=by
 induction ps with
 | nil=>
   rintro es us s base cW T r e hd rk hl _ k
   obtain rfl:=r;obtain rfl:=Option.some.inj e
   exact wpAny_pure (k _ s.toks cW hd rk (.refl ..))
 | cons p_ ps ih=>
   obtain ⟨kv,v⟩:=p_
   rintro es us s base cW T ⟨ua,ub,r',eu,x,y,z⟩ e hd rk hl ⟨o,ho,hi⟩ k
   subst eu
   cases kv with
   | str kk=>
     obtain ⟨Fp,e',rfl⟩:=Option.map_eq_some_iff.mp (show (strPairs ps).map ((kk,v)::·)=some es from e)
     obtain ⟨t,rfl⟩:=x
     have lk:=uW rk
     simp only [List.length_cons] at hl
     unfold storeAll
     rw [List.forIn_cons]
     refine wpAny_bind (wpAny_bind (wpAny_dictSet_pairs (strKind_is c.prog c.w kk t) hd (fun h' Mi e9=>wpAny_pure ?_) (by rw [lk];exact cx (Nat.lt_of_le_of_lt (Nat.le_add_right _ _) hl))))
     have vk:cR s.heap h':=.but ho hi e9.extBut
     have YN:=uV (k:=kk) (y.keep vk) (rk.keep vk)
     obtain ⟨o',Cg,PA⟩:∃o,h'.get? a=some o∧¬ET o:=(by obtain ⟨ep,MF⟩:=Mi.dictAt;exact Heap.gE MF)
     have len:=Jl kk v base
     exact ih (z.keep vk) e' Mi YN (Nat.lt_of_le_of_lt (Nat.add_le_add_right len _) (Nat.lt_of_le_of_lt (Nat.le_of_eq (Nat.add_right_comm _ _ _)) hl)) ⟨o',Cg,PA⟩ fun Vm t' V9 a1 a2 a3=>k Vm t' V9 a1 a2 (e9.trans a3)
   | _=>exact a8 e
theorem u1 (I:aT c d n) {ks:List (Option PySem.Expr)} {vs:List PySem.Expr} {pos:Pos} {Q:VQ} {T:Value→Shared→Prop} (X:fy c d A s sc env ρ D mh)
 (hW:fu (decide (ks.length≤15)&&(ks.all (·.isSome)&&decide (ks.length=vs.length))) (Ca (aJ c d n sc ρ) ks vs mh fun ps c1=>dE c1 Q ps)) (k:KV c D mh s Q T):
 wpAny (model c.prog c.w) A (eval (.Dict ks vs pos) env) T E s:=by
 have R:=X.rel
 obtain ⟨ok,hW⟩:=bT hW
 obtain ⟨o5,ok⟩:=aC ok
 obtain ⟨o2,o4⟩:=aC ok
 have o5:=wC o5
 have o4:=wC o4
 have e0:=Heap.ba s.heap (Nat.le_refl _)
 cases ks with
 | nil=>
   cases vs with
   | cons _ _=>cases o4
   | nil=>
     obtain ⟨h1,h2⟩:=(show dE mh Q [] from hW)
     obtain rfl:=Option.some.inj h1
     refine wpAny_Dict_empty (k _ _ (.ref s.heap.objs.size) D _ (aV.new (t':=s.toks) (o':=.ax [] 0) R (fun zz zz q=>nomatch q) ?_) rfl (h2 0 (fun zz=>rfl) _ (MH.fresh (R.fresh e0))))
     exact ⟨[],⟨_,#[],Heap.get?_push_size _ rfl,⟨rfl,rfl,rfl⟩,rfl,fun zz h=>by simp at h,.nil,.nil⟩,rfl⟩
 | cons k0 ks'=>
   have P0:aV c D mh s D mh { s with heap:=s.heap.push { cls:=.type "dict",data:=.dict #[] } }:=aV.push R
   refine wpAny_Dict_any o2 o4 (fun q=>nomatch q) o5 ?_
   refine Bh I (X.next X.pos P0) hW fun us s₁ ps aK av aA bz Hw aU=>?_
   obtain ⟨h1,h2⟩:=aU
   rename_i es
   have at0:(s.heap.push { cls:=.type "dict",data:=.dict #[] }).get? s.heap.objs.size=some { cls:=.type "dict",data:=.dict #[] }:=Heap.get?_push_size _ rfl
   have n0:¬In D mh s.heap.objs.size:=R.fresh e0
   have Cp:s₁.heap.get? s.heap.objs.size=some { cls:=.type "dict",data:=.dict #[] }:=aA.keep _ _ at0 n0 id
   have n1:¬In aK av s.heap.objs.size:=fun i=>by
    rcases aA.own _ i with i | i
    ·exact n0 i
    ·exact bQ at0 i
   have hd0:s₁.heap.DictOf (PySem.strKind c.prog c.w) s.heap.objs.size []:=⟨_,#[],0,Cp,⟨rfl,rfl,rfl⟩,rfl,fun zz h=>by simp at h,.nil,.nil⟩
   refine Co (base:=[]) bz h1 hd0 rfl (by rw [Hw,List.length_nil,Nat.zero_add];exact Nat.lt_of_le_of_lt o5 (Nat.le_of_ble_eq_true rfl)) ⟨_,Cp,bD rfl⟩ fun h' t wV a1 a2 a3=>?_
   obtain ⟨ep,Mi⟩:=a1.dictAt
   have P1:aV c D mh s aK av s₁:=P0.trans aA
   have R':Rel c aK av h':=aA.rel.but Cp (bD rfl) n1 (R.cD e0) a3.extBut
   have P2:aV c D mh s aK av { s₁ with heap:=h',toks:=t }:=by
    refine ⟨?_,R',fun a o e ni zz=>?_,P1.own,P1.vk.trans (.but Cp (bD rfl) a3.extBut)⟩
    ·obtain ⟨h1,t1,d1,e1⟩:=P1.st
     exact ⟨h',t,d1,by rw [e1]⟩
    ·exact a3.extBut a o (fun q=>by subst q;exact bQ e e0) (P1.keep a o e ni id)
   have P3:=aV.takeIn (o':=.ax (es.foldl (fun r p=>putK p.1 p.2 r) []) ep) P2 e0 (R.cD e0) n1 (fun zz zz q=>nomatch q) ⟨wV,Mi,a2⟩
   exact k _ _ (.ref s.heap.objs.size) aK _ P3 rfl (h2 ep (fun q=>by rw [q] at Hw;simp at Hw) _ (MH.fresh n1))
end
def Hj (h:Heap) (u:Value) (src:Val) (st:Option MO) (I:Addr) (i:Nat):Prop:=match src with
 | .tup _=>∃a,u= .ref a∧h.IsTupleIter I a i
 | .str x=>∃t,u= .str x t∧h.IsStrIter I (if x.cps.all (·<128) then "str_ascii_iterator" else "str_iterator") x t i
 | .xG n=>IsRangeIter h I (i:Int) (n - i) 1
 | .ref a=>(match st with
  | none=>h.IsListIter I a i
  | some o=>(match o with
   | .ax es ep=>h.IsKeyIter I a i es.length ep
   | .cz es ep=>h.IsKeyIter I a i es.length ep
   | _=>False))
 | _=>False
noncomputable def MS (Ty:String):Bool:=!(["enumerate","zip","dict_itemiterator","dict_reverseitemiterator","odict_iterator","itertools.zip_longest","itertools.pairwise"]:List String).contains Ty&&(!(Ty == "tuple")&& !(Ty == "range"))
structure TK (h:Heap) (u:Value) (src:Val) (st:Option MO) (I:Addr) (i:Nat):Prop where
 mk::
 ob:∃o Ty vs,h.get? I=some o∧o.cls= .type Ty∧o.data= .fields vs∧MS Ty=true∧∀h':Heap,h'.get? I=some o→Hj h' u src st I i
theorem Hj.view {h:Heap} {u src st I i} (x:Hj h u src st I i):TK h u src st I i:=by
 constructor
 cases src with
 | tup l=>obtain ⟨a,e,o,ho,hc,hd⟩:=x;exact ⟨o,_,_,ho,hc,hd,by decide,fun zz k=>⟨a,e,o,k,hc,hd⟩⟩
 | str l=>obtain ⟨a,e,o,ho,hc,hd⟩:=x;exact ⟨o,_,_,ho,hc,hd,by split<;>decide,fun zz k=>⟨a,e,o,k,hc,hd⟩⟩
 | xG m=>exact ⟨_,_,_,x,rfl,rfl,by decide,fun zz k=>k⟩
 | ref a=>
   cases st with
   | none=>obtain ⟨o,ho,hc,hd⟩:=x;exact ⟨o,_,_,ho,hc,hd,by decide,fun zz k=>⟨o,k,hc,hd⟩⟩
   | some q=>
     cases q with
     | ax=>obtain ⟨o,ho,hc,hd⟩:=x;exact ⟨o,_,_,ho,hc,hd,by decide,fun zz k=>⟨o,k,hc,hd⟩⟩
     | cz=>obtain ⟨o,ho,hc,hd⟩:=x;exact ⟨o,_,_,ho,hc,hd,by decide,fun zz k=>⟨o,k,hc,hd⟩⟩
     | _=>exact False.elim x
 | _=>exact False.elim x
theorem Hj.at' {h h':Heap} {u src st I i} (x:Hj h u src st I i) (k:∀o,h.get? I=some o→h'.get? I=some o):Hj h' u src st I i:=
 (by obtain ⟨o,_,_,ho,_,_,_,f⟩:=x.view.ob;exact f h' (k o ho))
theorem Hj.alive {h:Heap} {u src st I i} (x:Hj h u src st I i):∃o,h.get? I=some o∧¬ET o:=
 (by obtain ⟨o,_,_,ho,hc,_,hn,_⟩:=x.view.ob;exact ⟨o,ho,da hc (by rintro rfl;exact absurd hn (by decide)) (by rintro rfl;exact absurd hn (by decide))⟩)
theorem Kr {prog:Program} {w:World} {x:Str} {key:Value} {h:Heap} (e:(PySem.strKind prog w).is x key=true):VR h (.str x) key:=by
 cases key with
 | str y t=>obtain rfl:=(beq_iff_eq.mp e:y=x);exact ⟨t,rfl⟩
 | _=>exact (Bool.false_ne_true e).elim
theorem Ks {prog:Program} {w:World} {x:Int} {key:Value} {h:Heap} (e:(PySem.intKind prog w).is x key=true):VR h (.int x) key:=by
 cases key with
 | int y t=>obtain rfl:=(beq_iff_eq.mp e:y=x);exact ⟨t,rfl⟩
 | _=>exact (Bool.false_ne_true e).elim
section
variable {c:Cfg} {d n:Nat} {A:Around} {E:Value→Shared→Prop} {s:Shared} {D:Addr→Addr} {mh:MH}
theorem Fq {m:Int} (h0:0≤m) (h1:m<bw):Builtin.Range.small 0 m 1=true∧Builtin.Range.rangeSize 0 m 1=m:=by
 unfold bw at h1
 have e:Builtin.Range.rangeSize 0 m 1=m:=by
  unfold Builtin.Range.rangeSize
  simp
  exact fun h=>Int.le_antisymm h0 h
 refine ⟨?_,e⟩
 unfold Builtin.Range.small
 rw [e]
 unfold Builtin.Range.rangeFitsLong
 simp
 have a: -9223372036854775808≤m∧m<9223372036854775808:=⟨Int.le_trans (by decide) h0,Int.lt_trans h1 (by decide)⟩
 exact ⟨a,.inr a⟩
theorem u2 (O:c.Ok) {src:Val} {u:Value} {full:List Val} {st:Option MO} {T:Value→Shared→Prop} (R:Rel c D mh s.heap) (ru:VR s.heap src u) (hs:Walk mh src full st)
 (k:∀o,Hj (s.heap.push o) u src st s.heap.objs.size 0→T (.ref s.heap.objs.size) { s with heap:=s.heap.push o }):wpAny (model c.prog c.w) A (pyIter u) T E s:=by
 cases hs with
 | tup=>obtain ⟨a,c2,rfl,ht,vs⟩:=ru;exact wpAny_pyIter_tuple ht (k _ ⟨a,rfl,_,Heap.get?_push_size _ rfl,rfl,rfl⟩)
 | @str x=>
   obtain ⟨t,rfl⟩:=ru
   cases ha:x.cps.all (·<128)
   ·exact wpAny_pyIter_wide ha (k _ ⟨t,rfl,_,Heap.get?_push_size _ rfl,by rw [ha];rfl,rfl⟩)
   ·exact wpAny_pyIter_ascii ha (k _ ⟨t,rfl,_,Heap.get?_push_size _ rfl,by rw [ha];rfl,rfl⟩)
 | @xG m h0 h1=>
   obtain ⟨a,t,v,x,rfl,hr⟩:=ru
   obtain ⟨e1,e2⟩:=Fq h0 h1
   refine wpAny_pyIter_range hr e1 (k _ ?_)
   rw [e2]
   show IsRangeIter _ _ ((0:Nat):Int) (m - ((0:Nat):Int)) 1
   rw [show m - ((0:Nat):Int)=m from Int.sub_zero m]
   exact Heap.get?_push_size _ rfl
 | list e=>obtain rfl:=ru;exact wpAny_pyIter_list (listAt R e).choose_spec.1 (k _ ⟨_,Heap.get?_push_size _ rfl,rfl,rfl⟩)
 | ro e=>obtain rfl:=ru;exact wpAny_pyIter_list (R.obj _ _ e).choose_spec.1 (k _ ⟨_,Heap.get?_push_size _ rfl,rfl,rfl⟩)
 | ax e=>
   obtain rfl:=ru
   obtain ⟨cW,hd,rk⟩:=R.obj _ _ e
   refine wpAny_pyIter_dict (dW O R e rfl) hd (k _ ?_)
   rw [uW rk]
   exact ⟨_,Heap.get?_push_size _ rfl,rfl,rfl⟩
 | cz e=>
   obtain rfl:=ru
   obtain ⟨cW,hd,rk⟩:=R.obj _ _ e
   refine wpAny_pyIter_dict (dW O R e rfl) hd (k _ ?_)
   rw [uW rk]
   exact ⟨_,Heap.get?_push_size _ rfl,rfl,rfl⟩
theorem cX.Jm {h:Heap} {l:List Val} {us:List Value} {i:Nat} (r:cX h l us) (e:l[i]? =Option.none):us[i]? =Option.none:=by
 rw [List.getElem?_eq_none_iff] at e⊢
 rw [r.length];exact e
theorem Wa {α:Type} {h:Heap} {es:List (α×Val)}:∀{cW:List (α×Value)} {i:Nat} {p:α×Val},wQ h es cW→es[i]? =some p→∃u,cW[i]? =some (p.1,u):=by
 induction es with
 | nil=>intro cW i p x hv;exact a8 hv
 | cons q es ih=>
   rintro _ (_ | i) p ⟨u,r,rfl,a,b⟩ h
   ·obtain rfl:=Option.some.inj h;exact ⟨u,rfl⟩
   ·exact ih (i:=i) b h
structure MT (s:Shared) (u:Value) (src:Val) (st:Option MO) (full:List Val) (I:Addr) (i:Nat) (T:Option Value→Shared→Prop):Prop where
 item:∀x u' h' t',full[i]? =some x→VR h' x u'→Hj h' u src st I (i+1)→Heap.ExtBut I s.heap h'→T (some u') { s with heap:=h',toks:=t' }
 done:∀h',full[i]? =none→Heap.ExtBut I s.heap h'→T none { s with heap:=h' }
theorem Bi (hh:A.handled=none) {a:Addr} {c2:Array Value} {full:List Val} {I:Addr} {i:Nat} {T:Option Value→Shared→Prop} (H:s.heap.IsList a c2) (vs:cX s.heap full c2.toList) (it:s.heap.IsListIter I a i)
 (vk:∀h',Heap.ExtBut I s.heap h'→cR s.heap h') (k:MT s (.ref a) (.ref a) none full I i T):wpAny (model c.prog c.w) A (pyNext (.ref I)) T E s:=by
 cases hf:full[i]? with
 | some x=>
   obtain ⟨u',hu,rx⟩:=vs.get hf
   exact wpAny_pyNext_list_item it H (x:=u') ((Array.getElem?_toList ..).symm.trans hu) fun h' yi e9=>k.item x u' h' s.toks hf (rx.keep (vk _ e9.extBut)) yi e9.extBut
 | none=>exact wpAny_pyNext_list_end hh it H ((Array.getElem?_toList ..).symm.trans (vs.Jm hf)) fun h' e9=>k.done h' hf e9
theorem Bj (hh:A.handled=none) {K:Type} [DecidableEq K] {knd:PySem.KeyKind c.prog c.w K} {a:Addr} {es:List (K×Val)} {cW:List (K×Value)} {ep:Nat} {st:Option MO} {I:Addr} {i:Nat} {T:Option Value→Shared→Prop} (V:K→Val) (hv:∀{x key h},knd.is x key=true→VR h (V x) key)
 (hd:s.heap.DictAt knd a cW ep) (rk:wQ s.heap es cW) (it:s.heap.IsKeyIter I a i es.length ep) (Wb:∀h i,h.IsKeyIter I a i es.length ep→Hj h (.ref a) (.ref a) st I i)
 (k:MT s (.ref a) (.ref a) st (es.map fun p=>V p.1) I i T):wpAny (model c.prog c.w) A (pyNext (.ref I)) T E s:=by
 have lk:=uW rk
 rw [←lk] at it Wb
 have key:(es.map fun p=>V p.1)[i]? =(es[i]?).map fun p=>V p.1:=List.getElem?_map ..
 cases hf:es[i]? with
 | some p=>
   obtain ⟨u',hu⟩:=Wa rk hf
   exact wpAny_pyNext_dict_item it hd hu fun ky h' Ka yi e9=>k.item (V p.1) ky h' s.toks (by rw [key,hf];rfl) (hv Ka) (Wb _ _ yi) e9.extBut
 | none=>exact wpAny_pyNext_dict_end hh it hd (by rw [List.getElem?_eq_none_iff] at hf⊢;rw [lk];exact hf) fun h' e9=>k.done h' (by rw [key,hf];rfl) e9
theorem Fs (hh:A.handled=none) {src:Val} {u:Value} {full:List Val} {st:Option MO} {I:Addr} {i:Nat} {T:Option Value→Shared→Prop} (R:Rel c D mh s.heap) (ru:VR s.heap src u) (hs:Walk mh src full st) (it:Hj s.heap u src st I i)
 (k:MT s u src st full I i T):wpAny (model c.prog c.w) A (pyNext (.ref I)) T E s:=by
 obtain ⟨oI,PB,iI⟩:=it.alive
 have vk:∀h',Heap.ExtBut I s.heap h'→cR s.heap h':=fun h' x=>.but PB iI x
 cases hs with
 | tup=>
   obtain ⟨a,c2,rfl,ht,vs⟩:=ru
   obtain ⟨a',e,it⟩:=it
   cases e
   cases hf:full[i]? with
   | some x=>
     obtain ⟨u',hu,rx⟩:=vs.get hf
     exact wpAny_pyNext_tuple_item it ht (x:=u') ((Array.getElem?_toList ..).symm.trans hu) fun h' yi e9=>k.item x u' h' s.toks hf (rx.keep (vk _ e9.extBut)) ⟨a,rfl,yi⟩ e9.extBut
   | none=>exact wpAny_pyNext_tuple_end hh it ht ((Array.getElem?_toList ..).symm.trans (vs.Jm hf)) fun h' e9=>k.done h' hf e9
 | @str x=>
   obtain ⟨t,rfl,it⟩:=it
   have key:(chars x)[i]? =(x.cps[i]?).map fun n=>.str ⟨#[n]⟩:=by unfold chars;rw [List.getElem?_map,Array.getElem?_toList]
   cases hf:x.cps[i]? with
   | some n=>
     rw [hf] at key
     cases ha:x.cps.all (·<128)
     ·rw [ha] at it;exact wpAny_pyNext_wide_item it hf fun h' yi e9=>k.item (.str ⟨#[n]⟩) _ h' (s.toks+1) key ⟨_,rfl⟩ ⟨t,rfl,by rw [ha];exact yi⟩ e9.extBut
     ·rw [ha] at it;exact wpAny_pyNext_ascii_item it hf fun h' yi e9=>k.item (.str ⟨#[n]⟩) _ h' (s.toks+1) key ⟨_,rfl⟩ ⟨t,rfl,by rw [ha];exact yi⟩ e9.extBut
   | none=>
     rw [hf] at key
     cases ha:x.cps.all (·<128)
     ·rw [ha] at it;exact wpAny_pyNext_wide_end hh it hf fun h' e9=>k.done h' key e9
     ·rw [ha] at it;exact wpAny_pyNext_ascii_end hh it hf fun h' e9=>k.done h' key e9
 | @xG m h0 h1=>
   have it:IsRangeIter s.heap I (i:Int) (m - i) 1:=it
   have key:(Hp m)[i]? =if i<m.toNat then some (.int (i:Int)) else none:=by
    unfold Hp;rw [List.getElem?_map]
    by_cases h:i<m.toNat
    ·rw [List.getElem?_range h,if_pos h];rfl
    ·rw [List.getElem?_eq_none (by rw [List.length_range];exact Nat.le_of_not_lt h),if_neg h];rfl
   by_cases h:i<m.toNat
   ·refine wpAny_pyNext_range_item it (Int.sub_pos_of_lt (Int.lt_toNat.mp h)) fun h' yi e9=>k.item (.int (i:Int)) _ h' (s.toks+1) (by rw [key,if_pos h]) ⟨_,rfl⟩ ?_ e9.extBut
    show IsRangeIter h' I ((i+1:Nat):Int) (m - ((i+1:Nat):Int)) 1
    rw [show m - ((i+1:Nat):Int)=m - (i:Int) - 1 from (Int.sub_sub m i 1).symm];exact yi
   ·exact wpAny_pyNext_range_end hh it (Int.sub_nonpos_of_le (Int.not_lt.mp fun q=>h (Int.lt_toNat.mpr q))) fun h' e9=>k.done h' (by rw [key,if_neg h]) e9
 | list e=>
   obtain rfl:=ru
   obtain ⟨c2,H,vs⟩:=listAt R e
   exact Bi hh H vs it vk k
 | ro e=>
   obtain rfl:=ru
   obtain ⟨c2,H,vs⟩:=R.obj _ _ e
   exact Bi hh H vs it vk k
 | @ax a es ep e=>
   obtain rfl:=ru
   obtain ⟨cW,hd,rk⟩:=R.obj _ _ e
   exact Bj (st:=some (.ax es ep)) hh .str Kr hd rk it (fun zz zz x=>x) k
 | @cz a es ep e=>
   obtain rfl:=ru
   obtain ⟨cW,hd,rk⟩:=R.obj _ _ e
   exact Bj (st:=some (.cz es ep)) hh .int Ks hd rk it (fun zz zz x=>x) k
theorem Ft {src:Val} {u:Value} {st:Option MO} {I:Addr} {i:Nat} {T:Value→Shared→Prop} (it:Hj s.heap u src st I i) (k:T (.ref I) s):wpAny (model c.prog c.w) A (pyIter (.ref I)) T E s:=by
 cases src with
 | tup l=>obtain ⟨a,rfl,it⟩:=it;exact wpAny_pyIter_tupleiter it k
 | str x=>
   obtain ⟨t,rfl,it⟩:=it
   split at it
   ·exact wpAny_pyIter_striter_ascii it k
   ·exact wpAny_pyIter_striter_wide it k
 | xG m=>exact wpAny_pyIter_rangeiter it k
 | ref a=>
   cases st with
   | none=>exact wpAny_pyIter_listiter it k
   | some o=>
     cases o with
     | ax=>exact wpAny_pyIter_keyiter it k
     | cz=>exact wpAny_pyIter_keyiter it k
     | _=>exact False.elim it
 | _=>exact False.elim it
end
theorem mapM_cons {α β:Type} {f:α→Option β} {a:α} {l:List α} {r:List β} (e:(a::l).mapM f=some r):∃b r',f a=some b∧l.mapM f=some r'∧r=b::r':=by
 rw [List.mapM_cons] at e
 obtain ⟨b,e1,e⟩:=Option.bind_eq_some_iff.mp e
 obtain ⟨r',e2,e3⟩:=Option.bind_eq_some_iff.mp e
 obtain rfl:=Option.some.inj e3
 exact ⟨b,r',e1,e2,rfl⟩
section
variable {c:Cfg} {d n:Nat} {A:Around} {E:Value→Shared→Prop} {s:Shared} {sc:Scope} {env:Env} {ρ:Loc} {D:Addr→Addr} {mh:MH}
theorem pX {α:Type} {t:Sem α} {Q:α→Shared→Prop} {M:Model} (H:0<s.toks) (h:wpAny M A t (fun a s'=>0<s'.toks→Q a s') E s):wpAny M A t Q E s:=
 wpAny_with_toks (n:=s.toks) (Nat.le_refl _) (wpAny_mono h (fun zz zz x le=>x (Nat.lt_of_lt_of_le H le)) fun zz zz x zz=>x)
structure After (c:Cfg) (X:Addr→Prop) (sc:Scope) (env:Env) (D:Addr→Addr) (mh:MH) (s:Shared) (cN:Loc) (D':Addr→Addr) (aD:MH) (s':Shared):Prop where
 pos:0<s'.toks
 post:a9 c X D mh s D' aD s'
 c3:dU c sc env cN D' aD s'.heap
structure u3 (sc:Scope) (env:Env) (X:Addr→Prop):Prop where
 sub:∀a,X a→q6 env a
 all:∀x a,dz sc x=true→SX env x a→X a
theorem u3.full:u3 sc env (q6 env):=⟨fun zz x=>x,fun zz a zz h=>h.elim (fun e=>.inl e) fun e=>e.2⟩
variable {X:Addr→Prop}
theorem After.Kt {s₁:Shared} {aK av yj} (a:After c X sc env D mh s yj aK av s₁) (H:wz A d):fy c d A s₁ sc env yj aK av:=⟨H,a.pos,a.post.rel,a.c3⟩
theorem After.trans {s₁ bp:Shared} {aK cA av a6 yj yk} (hX:u3 sc env X) (a:After c X sc env D mh s yj aK av s₁) (b:After c X sc env aK av s₁ yk cA a6 bp):After c X sc env D mh s yk cA a6 bp:=
 ⟨b.pos,a.post.ey b.post fun y q=>a.c3.alive y (hX.sub y q),b.c3⟩
theorem After.of {s₁:Shared} {aK av} (V:dU c sc env ρ D mh s.heap) (H:0<s₁.toks) (p:aV c D mh s aK av s₁):After c X sc env D mh s ρ aK av s₁:=⟨H,p.mono fun zz x=>x.elim,V.sW p⟩
theorem After.refl (Y:fy c d A s sc env ρ D mh):After c X sc env D mh s ρ D mh s:=.of Y.c3 Y.pos (.refl Y.rel)
theorem gX (hX:u3 sc env X) {x:Str} {v:Val} {u:Value} {T:Unit→Shared→Prop} (Y:fy c d A s sc env ρ D mh) (hv:dz sc x=true) (r:VR s.heap v u)
 (k:∀s',After c X sc env D mh s (ρ.put x v) D mh s'→T () s'):wpAny (model c.prog c.w) A (storeName env x u) T E s:=
 pX Y.pos (J9 Y.c3 Y.rel (aC hv).1 r (bne_iff_ne.mp (aC hv).2) fun s' p V' H'=>k s' ⟨H',p.mono fun a h=>hX.all x a hv h,V'⟩)
theorem HC (hX:u3 sc env X) {es:List PySem.Expr}:∀{xs:List Str} {vs:List Val} {us:List Value} {s:Shared} {ρ:Loc} {T:Unit→Shared→Prop},fy c d A s sc env ρ D mh→
 xs.all (dz sc)=true→es.mapM nameOf=some xs→xs.length=vs.length→cX s.heap vs us→
 (∀s',After c X sc env D mh s (ρ.gF xs vs) D mh s'→T () s')→wpAny (model c.prog c.w) A (assignInOrder ((assignEach es env).map (·.2)) us) T E s:=by
 induction es with
 | nil=>
   rintro xs vs us s ρ T Y _ e hl r k
   obtain rfl:=Option.some.inj e
   obtain rfl:=(List.length_eq_zero_iff.mp hl.symm:vs=[])
   obtain rfl:=r
   exact wpAny_pure (k s (.refl Y))
 | cons e0 es ih=>
   rintro xs vs us s ρ T Y ok e hl r k
   obtain ⟨x,V3,e1,e2,rfl⟩:=mapM_cons e
   obtain ⟨px,rfl⟩:=kB e1
   cases vs with
   | nil=>cases hl
   | cons v vs=>
     obtain ⟨u,r',rfl,ru,rr⟩:=r
     show wpAny _ _ (assignInOrder (assign (.Name x px) env::(assignEach es env).map (·.2)) (u::r')) _ _ _
     refine wpAny_bind (wpAny_holding (PyProof.Rows.assign_Name (gX hX Y (aC ok).1 ru fun s₁ gY=>?_)))
     exact ih (gY.Kt Y.ok) (aC ok).2 e2 (Nat.succ.inj hl) (rr.keep gY.post.vk) fun bp iG=>k bp (gY.trans hX iG)
theorem u4 {e:PySem.Expr} {es:List PySem.Expr} (h:notStar e=true):assignEach (e::es) env=(false,assign e env)::assignEach es env:=by
 cases e<;>first | rfl | exact (Bool.false_ne_true h).elim
theorem MU {es:List PySem.Expr}:es.all notStar=true→(assignEach es env).length=es.length:=by
 induction es with
 | nil=>
   rintro _
   exact rfl
 | cons e es ih=>rintro h;rw [u4 (aC h).1];exact congrArg (·+1) (ih (aC h).2)
theorem Fu {env:Env} {es:List PySem.Expr}:es.all notStar=true→(assignEach es env).findIdx? (·.1)=none:=by
 induction es with
 | nil=>
   rintro _
   exact rfl
 | cons e es ih=>rintro h;rw [u4 (aC h).1,List.findIdx?_cons,ih (aC h).2];rfl
theorem Bk {es:List PySem.Expr}:∀{xs:List Str},es.mapM nameOf=some xs→xs.length=es.length∧es.all notStar=true:=by
 induction es with
 | nil=>rintro xs e;obtain rfl:=Option.some.inj e;exact ⟨rfl,rfl⟩
 | cons e0 es ih=>
   rintro xs e
   obtain ⟨x,V3,e1,e2,rfl⟩:=mapM_cons e
   obtain ⟨px,rfl⟩:=kB e1
   exact ⟨congrArg (·+1) (ih e2).1,(ih e2).2⟩
theorem Jn {h h':Heap} (x:Heap.ExtBut h.objs.size h h'):∀b o,h.get? b=some o→h'.get? b=some o:=fun b o e=>x b o (fun q=>by subst q;exact bQ e (Heap.ba h (Nat.le_refl _))) e
theorem yl {es:List PySem.Expr} {kd:Nat} {pos:Pos} {vs:List Val} {u:Value} {T:Unit→Shared→Prop} (Y:fy c d A s sc env ρ D mh) (ns:es.all notStar=true) (hl:es.length=vs.length) (r:VR s.heap (.tup vs) u)
 (k:∀h' us,fy c d A { s with heap:=h' } sc env ρ D mh→aV c D mh s D mh { s with heap:=h' }→cX h' vs us→wpAny (model c.prog c.w) A (assignInOrder ((assignEach es env).map (·.2)) us) T E { s with heap:=h' }):
 wpAny (model c.prog c.w) A (assign (.Tuple es kd pos) env u) T E s:=by
 obtain ⟨a,c2,rfl,ht,rs⟩:=r
 refine assign_Tuple_tuple Y.ok.handled ht (by rw [MU ns,hl];exact rs.size.symm) (Fu ns) fun h' x=>?_
 have P:aV c D mh s D mh { s with heap:=h',toks:=s.toks }:=aV.ext Y.rel (Jn x)
 exact k h' _ (Y.next Y.pos P) P (rs.keep P.vk)
theorem After.ext {h':Heap} {bp:Shared} {cA a6 yk} (hX:u3 sc env X) (Y:fy c d A s sc env ρ D mh) (P:aV c D mh s D mh { s with heap:=h' }) (b:After c X sc env D mh { s with heap:=h' } yk cA a6 bp):After c X sc env D mh s yk cA a6 bp:=
 (After.of (s₁:={ s with heap:=h' }) Y.c3 Y.pos P).trans hX b
theorem Ku (hX:u3 sc env X) {t:PySem.Expr} {v:Val} {u:Value} {Q:Loc→Prop} {T:Unit→Shared→Prop} (Y:fy c d A s sc env ρ D mh) (ok:sU sc t=true) (r:VR s.heap v u) (hW:I9 t v ρ Q)
 (k:∀cN s',After c X sc env D mh s cN D mh s'→Q cN→T () s'):wpAny (model c.prog c.w) A (assign t env u) T E s:=by
 cases t with
 | Name x px=>exact PyProof.Rows.assign_Name (gX hX Y (aC ok).1 r fun s' a=>k _ s' a hW)
 | Tuple es kd px=>
   have hW:I8 (es.mapM nameOf) v ρ Q:=hW
   cases e:es.mapM nameOf with
   | none=>rw [e] at hW;exact hW.elim
   | some xs=>
     rw [e] at hW
     have ok:xs.all (dz sc)=true:=by
      have ok:Ce sc (es.mapM nameOf)=true:=ok
      rw [e] at ok
      exact ok
     obtain ⟨vs,rfl,h1,h2⟩:=Cc (show Vk xs.length (fun vs=>Q (ρ.gF xs vs)) v from hW)
     exact yl Y (Bk e).2 ((Bk e).1.symm.trans h1) r fun h' us Y' P rs=>HC hX Y' ok e h1 rs fun bp iG=>k _ bp (iG.ext hX Y P) h2
 | _=>exact False.elim hW
theorem wD (hX:u3 sc env X) (O:c.Ok) (I:aT c d n) {t:PySem.Expr} {v:Val} {u:Value} {Q:Loc→MH→Prop} {T:Unit→Shared→Prop} (Y:fy c d A s sc env ρ D mh) (r:VR s.heap v u)
 (hW:jJ (aJ c d n sc ρ) sc t v ρ mh Q) (k:∀cN s' D' aD,After c X sc env D mh s cN D' aD s'→Q cN aD→T () s'):wpAny (model c.prog c.w) A (assign t env u) T E s:=by
 cases t with
 | Name x px=>exact PyProof.Rows.assign_Name (gX hX Y (bT hW).1 r fun s' a=>k _ s' _ _ a (bT hW).2)
 | Attribute o x px=>
   show wpAny _ _ (holding [u] (eval o env) >>= _) _ _ _
   refine wpAny_bind (wpAny_holding (I.p Y hW fun uo s₁ vo aK av bE aA bz aU=>wpAny_bind (wpAny_standAt (wpAny_bind (wpAny_holding ?_)))))
   exact pX bE (Fe O aA.rel bz (r.keep aA.vk) aU fun bp a6 cO dX gG=>wpAny_release' (k _ _ _ _ (.of Y.c3 gG (aA.trans cO)) dX))
 | Subscript o i px=>
   obtain ⟨_,hW⟩:=bT hW
   show wpAny _ _ (holding [u] (eval o env) >>= _) _ _ _
   refine wpAny_bind (wpAny_holding (I.p Y hW fun uo s₁ vo aK av bE aA bz aU=>wpAny_bind (wpAny_holding ?_)))
   refine I.p (Y.next bE aA) aU fun ui bp vi cA a6 gG cO oh dX=>wpAny_bind (wpAny_standAt (wpAny_bind (wpAny_holding ?_)))
   exact pX gG (Fh cO.rel (bz.keep cO.vk) oh ((r.keep aA.vk).keep cO.vk) dX fun iF s9 kF z9 Kn=>wpAny_release' (k _ _ _ _ (.of Y.c3 Kn ((aA.trans cO).trans kF)) z9))
 | _=>exact False.elim hW
theorem Fv (hX:u3 sc env X) (O:c.Ok) (I:aT c d n) {ts:List PySem.Expr}:∀{vs:List Val} {us:List Value} {s:Shared} {ρ:Loc} {D:Addr→Addr} {mh:MH} {Q:Loc→MH→Prop} {T:Unit→Shared→Prop},fy c d A s sc env ρ D mh→
 ts.all notStar=true→cX s.heap vs us→jK (fun cN=>aJ c d n sc cN) sc ts vs ρ mh Q→(∀cN s' D' aD,After c X sc env D mh s cN D' aD s'→Q cN aD→T () s')→
 wpAny (model c.prog c.w) A (assignInOrder ((assignEach ts env).map (·.2)) us) T E s:=by
 induction ts with
 | nil=>
   intro wX
   cases wX with
   | nil=>
     rintro us s ρ D mh Q T Y _ r hW k
     obtain rfl:=r;exact wpAny_pure (k _ _ _ _ (.refl Y) hW)
   | cons p_ l_=>
     rintro us s ρ D mh Q T Y _ r hW k
     exact False.elim hW
 | cons t ts ih=>
   intro wX
   cases wX with
   | nil=>
     rintro us s ρ D mh Q T Y _ r hW k
     exact False.elim hW
   | cons v vs=>
     rintro us s ρ D mh Q T Y ok r hW k
     obtain ⟨u,r',rfl,ru,rr⟩:=r
     rw [u4 (aC ok).1]
     show wpAny _ _ (assignInOrder (assign t env::(assignEach ts env).map (·.2)) (u::r')) _ _ _
     refine wpAny_bind (wpAny_holding (wD hX O I Y ru (show jJ (aJ c d n sc ρ) sc t v ρ mh fun cN aD=>jK (fun cN=>aJ c d n sc cN) sc ts vs cN aD Q from hW) fun yj s₁ aK av gY aU=>?_))
     exact ih (gY.Kt Y.ok) (aC ok).2 (rr.keep gY.post.vk) aU fun yk bp cA a6 iG dX=>k _ _ _ _ (gY.trans hX iG) dX
theorem ym (hX:u3 sc env X) (O:c.Ok) (I:aT c d n) {t:PySem.Expr} {v:Val} {u:Value} {Q:Loc→MH→Prop} {T:Unit→Shared→Prop} (Y:fy c d A s sc env ρ D mh) (r:VR s.heap v u)
 (hW:i5 (fun cN=>aJ c d n sc cN) sc t v ρ mh Q) (k:∀cN s' D' aD,After c X sc env D mh s cN D' aD s'→Q cN aD→T () s'):wpAny (model c.prog c.w) A (assign t env u) T E s:=by
 have one:jJ (aJ c d n sc ρ) sc t v ρ mh Q→wpAny (model c.prog c.w) A (assign t env u) T E s:=fun h=>wD hX O I Y r h k
 cases t with
 | Tuple ts kd px=>
   obtain ⟨ns,h0⟩:=bT hW
   obtain ⟨vs,rfl,h1,h2⟩:=Cc h0
   exact yl Y ns h1 r fun h' us Y' P rs=>Fv hX O I Y' ns rs h2 fun yk bp cA a6 iG dX=>k _ _ _ _ (iG.ext hX Y P) dX
 | _=>exact one hW
end
def Ext (ρ cN:Loc):Prop:=∀x v,ρ x=some v→cN x=some v
theorem HD {xs:List Str}:∀{vs:List Val} {ρ:Loc} {y:Str},y∉xs→ρ.gF xs vs y=ρ y:=by
 induction xs with
 | nil=>
   rintro _ _ _ _
   exact rfl
 | cons x xs ih=>
   intro wX
   cases wX with
   | nil=>
     rintro _ _ _
     exact rfl
   | cons v vs=>
     rintro ρ y h
     exact (ih fun q=>h (List.mem_cons_of_mem _ q)).trans (if_neg fun (q:y=x)=>h (q▸List.mem_cons_self ..))
theorem HE {t:PySem.Expr} {v:Val} {ρ:Loc} {Q:Loc→Prop} (hf:∀x∈eO t,ρ x=none) (h:I9 t v ρ Q):I9 t v ρ fun cN=>Q cN∧Ext ρ cN∧∀y,y∉eO t→cN y=ρ y:=by
 have ext:∀cN:Loc,(∀y,y∉eO t→cN y=ρ y)→Ext ρ cN∧∀y,y∉eO t→cN y=ρ y:=fun cN k=>⟨fun y w hy=>(k y fun q=>by exact bQ hy (hf y q)).trans hy,k⟩
 cases t with
 | Name x px=>exact ⟨h,ext _ fun y hy=>if_neg fun (q:y=x)=>hy (q▸List.mem_cons_self ..)⟩
 | Tuple es kd px=>
   have h:I8 (es.mapM nameOf) v ρ Q:=h
   show I8 (es.mapM nameOf) v ρ fun cN=>Q cN∧Ext ρ cN∧∀y,y∉eO (.Tuple es kd px)→cN y=ρ y
   have en:eO (.Tuple es kd px)=(es.mapM nameOf).getD []:=rfl
   rw [en] at ext⊢
   cases e:es.mapM nameOf with
   | none=>rw [e] at h;exact h.elim
   | some xs=>
     rw [e] at h ext
     exact Mx (K:=fun vs=>Q (ρ.gF xs vs)) (K':=fun vs=>Q (ρ.gF xs vs)∧Ext ρ (ρ.gF xs vs)∧∀y,y∉xs→ρ.gF xs vs y=ρ y) h fun vs q=>⟨q,ext _ fun y hy=>HD hy⟩
 | _=>exact False.elim h
section
variable {c:Cfg} {d n:Nat} {A:Around} {E:Value→Shared→Prop} {s:Shared} {sc:Scope} {env:Env} {ρ:Loc} {D:Addr→Addr} {mh:MH}
structure yn (c:Cfg) (env:Env) (D:Addr→Addr) (mh:MH) (a:Addr):Prop where
 Su:¬In D mh a
 base:c.h₀.get? a=none
 fr:¬q6 env a
theorem yn.post {X:Addr→Prop} {a:Addr} {s₁:Shared} {aK av} (P:yn c env D mh a) (p:a9 c X D mh s aK av s₁) (h:∃o,s.heap.get? a=some o):yn c env aK av a:=
 ⟨fun i=>(p.own a i).elim P.Su fun e=>(by obtain ⟨o,ho⟩:=h;exact bQ ho e),P.base,P.fr⟩
theorem yn.fresh {a:Addr} (R:Rel c D mh s.heap) (V:dU c sc env ρ D mh s.heap) (e:s.heap.get? a=none):yn c env D mh a:=
 ⟨R.fresh e,R.cD e,fun f=>by obtain ⟨o,ho⟩:=V.alive a f;exact bQ ho e⟩
structure jN (c:Cfg) (env:Env) (D:Addr→Addr) (mh:MH) (h:Heap) (L:Addr) (acc:List Val):Prop where
 iH:yn c env D mh L
 at_:∃c2 m,h.get? L=some (PySem.W.listOf c2 m)∧cX h acc c2.toList
theorem jN.alive {h:Heap} {L acc} (a:jN c env D mh h L acc):∃o,h.get? L=some o:=(by obtain ⟨_,_,h,_⟩:=a.at_;exact ⟨_,h⟩)
theorem jN.post {X:Addr→Prop} {L acc} {s₁:Shared} {aK av} (a:jN c env D mh s.heap L acc) (p:a9 c X D mh s aK av s₁) (hx:¬X L):jN c env aK av s₁.heap L acc:=
 (by obtain ⟨c2,m,h1,h2⟩:=a.at_;exact ⟨a.iH.post p a.alive,c2,m,p.keep _ _ h1 a.iH.Su hx,h2.keep p.vk⟩)
structure gi (c:Cfg) (env:Env) (D:Addr→Addr) (mh:MH) (h:Heap) (u:Value) (src:Val) (st:Option MO) (I:Addr) (i:Nat):Prop where
 iH:yn c env D mh I
 val:VR h src u
 it:Hj h u src st I i
theorem gi.alive {h:Heap} {u src st I i} (a:gi c env D mh h u src st I i):∃o,h.get? I=some o:=(by obtain ⟨o,h,_⟩:=a.it.alive;exact ⟨o,h⟩)
theorem gi.post {X:Addr→Prop} {u src st I i} {s₁:Shared} {aK av} (a:gi c env D mh s.heap u src st I i) (p:a9 c X D mh s aK av s₁) (hx:¬X I):gi c env aK av s₁.heap u src st I i:=
 ⟨a.iH.post p a.alive,a.val.keep p.vk,a.it.at' fun o e=>p.keep _ _ e a.iH.Su hx⟩
theorem Jo (IT:cS c d n):∀{es:List PySem.Expr} {s:Shared} {D:Addr→Addr} {mh:MH} {Q:BQ} {T:Bool→Shared→Prop},fy c d A s sc env ρ D mh→
 Ts (dq c d n sc ρ) es mh Q→KBP c D mh s Q T→wpAny (model c.prog c.w) A (forIn es true fun c r=>if r=true then do let ok ←isTrue c env (eval c env);pure (ForInStep.yield ok) else pure (ForInStep.yield r)) T E s
 | [],s,D,mh,Q,T,X,hW,k=>wpAny_pure (k true s D mh X.pos (.refl X.rel) hW)
 | e::es,s,D,mh,Q,T,X,hW,k=>by
   rw [List.forIn_cons,if_pos rfl]
   refine wpAny_bind (wpAny_bind (IT.p X hW fun b s₁ aK av bE aA aU=>wpAny_pure ?_))
   cases b with
   | true=>exact Jo IT (X.next bE aA) aU fun b bp cA a6 gG cO dX=>k b bp cA a6 gG (aA.trans cO) dX
   | false=>
     have fin:=k false _ _ _ bE aA aU
     clear hW aU
     show wpAny _ _ (forIn es false _) _ _ _
     induction es with
     | nil=>exact wpAny_pure fin
     | cons e es ih=>
       rw [List.forIn_cons,if_neg Bool.false_ne_true]
       exact wpAny_bind (wpAny_pure ih)
theorem Bl {t:PySem.Expr} {u src st I i} {uv:Value} {T:Unit→Shared→Prop} (a:Hj s.heap u src st I i) (h:T () s):wpAny (model c.prog c.w) A (letOwnedTupleGo t (.ref I) uv) T E s:=by
 obtain ⟨o,Ty,vs,ho,hc,hd,hn,_⟩:=a.view.ob
 have hn:=Bool.not_eq_true' _▸(aC hn).1
 cases t with
 | Tuple=>
   cases uv with
   | ref b=>
     refine wpAny_bind (wpAny_load ho ?_)
     rw [hc,hd]
     dsimp only
     rw [hn]
     exact wpAny_pure h
   | _=>exact wpAny_pure h
 | List=>
   cases uv with
   | ref b=>
     refine wpAny_bind (wpAny_load ho ?_)
     rw [hc,hd]
     dsimp only
     rw [hn]
     exact wpAny_pure h
   | _=>exact wpAny_pure h
 | _=>exact wpAny_pure h
end
theorem drop_cons {α:Type} {l:List α} {k:Nat} {g:α} {gs:List α} (h:l.drop k=g::gs):l[k]? =some g∧l.drop (k+1)=gs:=by
 refine ⟨?_,by rw [←List.drop_drop,h];rfl⟩
 have:=List.getElem?_drop (xs:=l) (i:=k) (j:=0)
 rw [h] at this
 exact this.symm
theorem Bm {α:Type} {l:List α} {k:Nat} {g:α} {gs:List α} (h:l.drop k=g::gs):l[k]? =some g∧l.drop (k+1)=gs∧l[k+1]? =gs.head?:=by
 obtain ⟨h1,h2⟩:=drop_cons h
 refine ⟨h1,h2,?_⟩
 cases gs with
 | nil=>exact List.getElem?_eq_none_iff.mpr (List.drop_eq_nil_iff.mp h2)
 | cons a r=>exact (drop_cons h2).1
theorem Bn {α:Type} {l r:List α} {i:Nat} {x:α} (h:l.drop i=r) (e:l[i]? =some x):∃xs,r=x::xs∧l.drop (i+1)=xs∧xs.length<r.length:=by
 cases r with
 | nil=>exact bQ e (List.getElem?_eq_none_iff.mpr (List.drop_eq_nil_iff.mp h))
 | cons y ys=>
   obtain ⟨h1,h2⟩:=drop_cons h
   obtain rfl:=both h1 e
   exact ⟨ys,rfl,h2,Nat.lt_succ_self _⟩
theorem Bo {α:Type} {l r:List α} {i:Nat} (h:l.drop i=r) (e:l[i]? =none):r=[]:=h.symm.trans (List.drop_eq_nil_iff.mpr (List.getElem?_eq_none_iff.mp e))
section
variable {c:Cfg} {d n:Nat} {A:Around} {E:Value→Shared→Prop} {s:Shared} {csc:Scope} {cu:Env} {ρ:Loc} {D:Addr→Addr} {mh:MH}
theorem q9 {e:PySem.Expr} {env:Env} (h:jG e=true) (x:Value):foldedSetIterable e env x=pure x:=by
 cases e<;>first | rfl | exact (Bool.false_ne_true h).elim
theorem qJ {elt:PySem.Expr} {clauses:List Comprehension} {pos:Pos} {k:Nat} {it acc:Value} {env:Env} {g:Comprehension} {R:Result→Shared→Prop} (hg:clauses[k]? =some g) (ha:g.is_async=0)
 (h0:codeAny (model c.prog c.w) A (.compLoop (.ListComp elt clauses csc pos) k it acc env) R s)
 (h:wpAny (model c.prog c.w) A (pyIter it) (fun yi s'=>codeAny (model c.prog c.w) A (.compLoop (.ListComp elt clauses csc pos) k yi acc env) R s') (notedBy (model c.prog c.w) A env fun x s'=>R (.error x) s') s):
 codeAny (model c.prog c.w) A (.compStart (.ListComp elt clauses csc pos) k it acc env) R s:=by
 refine codeAny_of_tree ?_
 show wpAny _ _ ((compStart (.ListComp elt clauses csc pos) k it acc env).onRaise (fun x=>do noteFrame x env;standAt theWindowsPlace)) _ _ s
 refine wpAny_notedAt ?_
 unfold compStart
 have e1:(clausesOf (PySem.Expr.ListComp elt clauses csc pos))[k]? =some g:=hg
 rw [e1]
 have e2:((some g).elim false fun x=>x.is_async != 0)=false:=bne_eq_false_iff_eq.mpr ha
 rw [e2]
 refine wpAny_bind (wpAny_askSetting (wpAny_ite ?_))
 split
 ·first
   | exact wpAny_bind (wpAny_pure (wpAny_pure (And.intro rfl h0)))
   | exact wpAny_pure (And.intro rfl h0)
 ·refine wpAny_bind (wpAny_rule ?_)
  first
   | exact wpAny_bind (wpAny_standAt (wpAny_bind (wpAny_mono h (fun yi s' h'=>wpAny_pure (And.intro rfl h')) fun zz zz x=>x)))
   | (show wpAny _ _ (standAt g.iter.pos >>= _) _ _ s
      exact wpAny_bind (wpAny_standAt (wpAny_bind (wpAny_mono h (fun yi s' h'=>wpAny_pure (And.intro rfl h')) fun zz zz x=>x))))
abbrev CX (C L I:Addr) (a:Addr):Prop:=a=C∨a=L∨a=I
noncomputable def yo (elt:PySem.Expr) (clauses:List Comprehension) (csc:Scope) (pos:Pos) (k:Nat) (it acc:Value) (env:Env):Sem Fin:=
 match clauses[k+1]? with
 | some g'=>do
   let x ←eval g'.iter env
   standAt g'.iter.pos
   if (g'.is_async != 0)=true then do
       let x ←foldedIterable g'.iter x
       let __do_lift ←holding [x] (if (g'.is_async != 0)=true then asyncIter x else pyIter x)
       let _ ←runOwn (Code.compStart (elt.ListComp clauses csc pos) (k+1) __do_lift acc env) env
       again (Code.compLoop (elt.ListComp clauses csc pos) k it acc env)
    else do
     let x ←foldedSetIterable g'.iter env x
     let __do_lift ←holding [x] (if (g'.is_async != 0)=true then asyncIter x else pyIter x)
     let _ ←runOwn (Code.compStart (elt.ListComp clauses csc pos) (k+1) __do_lift acc env) env
     again (Code.compLoop (elt.ListComp clauses csc pos) k it acc env)
 | none=>(eval elt env >>= fun v=>call (Value.builtin "list.append") [acc,v] >>= fun zz=>pure ()) >>= fun (_:Unit)=>again (Code.compLoop (elt.ListComp clauses csc pos) k it acc env)
theorem gZ {g:Comprehension} (h:jI csc g=true):g.is_async=0∧sU csc g.target=true∧jG g.iter=true:=⟨beq_iff_eq.mp (aC h).1,aC (aC h).2⟩
structure CS (c:Cfg) (csc:Scope) (cu:Env) (ρ:Loc) (L:Addr) (acc:List Val) (u:Value) (src:Val) (st:Option MO) (I:Addr) (i:Nat) (D:Addr→Addr) (mh:MH) (s:Shared):Prop where
 pos:0<s.toks
 rel:Rel c D mh s.heap
 c3:dU c csc cu ρ D mh s.heap
 acc:jN c cu D mh s.heap L acc
 it:gi c cu D mh s.heap u src st I i
section
variable {L I:Addr} {acc:List Val} {u:Value} {src:Val} {st:Option MO} {i:Nat}
theorem CS.alive (x:CS c csc cu ρ L acc u src st I i D mh s):∀a,CX cu.locals L I a→∃o,s.heap.get? a=some o:=fun a q=>by
 rcases q with rfl | rfl | rfl
 ·exact x.c3.alive _ (.inl rfl)
 ·exact x.acc.alive
 ·exact x.it.alive
theorem CS.ne (x:CS c csc cu ρ L acc u src st I i D mh s):I≠cu.locals∧L≠cu.locals:=⟨fun q=>x.it.iH.fr (.inl q),fun q=>x.acc.iH.fr (.inl q)⟩
theorem CS.Kt (x:CS c csc cu ρ L acc u src st I i D mh s) (H:wz A d):fy c d A s csc cu ρ D mh:=⟨H,x.pos,x.rel,x.c3⟩
end
theorem Cq {σ:Type} {ok:MH→Prop} {turn:Val→σ→MH→(σ→MH→Prop)→Prop} {l:List Val} {st:σ} {mh:MH} {Q:σ→MH→Prop} (h:i4 ok turn l st mh Q):ok mh:=by cases l<;>exact h.1
theorem Kv {σ:Type} {ok:MH→Prop} {turn:Val→σ→MH→(σ→MH→Prop)→Prop} {l:List Val} {i:Nat} {x:Val} {st:σ} {mh:MH} {Q:σ→MH→Prop} (h:i4 ok turn (l.drop i) st mh Q) (e:l[i]? =some x):turn x st mh fun Pz aD=>i4 ok turn (l.drop (i+1)) Pz aD Q:=by
 obtain ⟨xs,e1,e2,_⟩:=Bn rfl e
 rw [e1] at h;rw [e2];exact h.2
theorem Kw {σ:Type} {ok:MH→Prop} {turn:Val→σ→MH→(σ→MH→Prop)→Prop} {l:List Val} {i:Nat} {st:σ} {mh:MH} {Q:σ→MH→Prop} (h:i4 ok turn (l.drop i) st mh Q) (e:l[i]? =none):Q st mh:=by
 rw [Bo rfl e] at h;exact h.2
def Jp (c:Cfg) (d:Nat) (A:Around) (csc:Scope) (cu:Env) (elt:PySem.Expr) (clauses:List Comprehension) (pos:Pos) (k:Nat) (I L:Addr) (ρ:Loc) (xs:List Str) (jH:Loc→List Val→MH→(List Val→MH→Prop)→Prop):Prop:=
 ∀(T:Fin→Shared→Prop) (E':Value→Shared→Prop) (EU:Loc) (acc:List Val) (s:Shared) (D:Addr→Addr) (mh:MH) (Q1:List Val→MH→Prop),fy c d A s csc cu EU D mh→Ext ρ EU→(∀y,y∉xs→EU y=ρ y)→
  jN c cu D mh s.heap L acc→jH EU acc mh Q1→(∀s' D' aD eY,0<s'.toks→a9 c (fun a=>a=cu.locals∨a=L) D mh s D' aD s'→dU c csc cu EU D' aD s'.heap→jN c cu D' aD s'.heap L eY→Q1 eY aD→
   T (.again (.compLoop (.ListComp elt clauses csc pos) k (.ref I) (.ref L) cu)) s')→wpAny (model c.prog c.w) A (yo elt clauses csc pos k (.ref I) (.ref L) cu) T E' s
theorem Cr (IT:cS c d n) (HA:wz A d) {elt:PySem.Expr} {clauses:List Comprehension} {pos:Pos} {L:Addr} {k:Nat} {g:Comprehension} (hg:clauses[k]? =some g)
 (og:jI csc g=true) (hX:u3 csc cu (·=cu.locals))
 {ρ:Loc} {jH:Loc→List Val→MH→(List Val→MH→Prop)→Prop} {I:Addr} (Mj:∀x∈eO g.target,ρ x=none) (MV:I≠L) (MW:Jp c d A csc cu elt clauses pos k I L ρ (eO g.target) jH)
 {src:Val} {u:Value} {full:List Val} {st:Option MO} {acc:List Val} {i:Nat} {s:Shared} {D:Addr→Addr} {mh:MH} {Q:List Val→MH→Prop} {T:Fin→Shared→Prop} {E':Value→Shared→Prop}
 (kG:CS c csc cu ρ L acc u src st I i D mh s)
 (hW:i4 (fun m=>Walk m src full st) (xX (dq c d n csc) g ρ jH) (full.drop i) acc mh Q)
 (kA:∀s' D' aD eY,full[i]?.isSome=true→a9 c (CX cu.locals L I) D mh s D' aD s'→CS c csc cu ρ L eY u src st I (i+1) D' aD s'→i4 (fun m=>Walk m src full st) (xX (dq c d n csc) g ρ jH) (full.drop (i+1)) eY aD Q→
  T (.again (.compLoop (.ListComp elt clauses csc pos) k (.ref I) (.ref L) cu)) s')
 (kE:∀s',0<s'.toks→a9 c (CX cu.locals L I) D mh s D mh s'→dU c csc cu ρ D mh s'.heap→jN c cu D mh s'.heap L acc→Q acc mh→T (.done .next) s'):
 wpAny (model c.prog c.w) A (compTurn (.ListComp elt clauses csc pos) k (.ref I) (.ref L) cu) T E' s:=by
 have ga:=(gZ og).1
 unfold compTurn
 dsimp only
 rw [hg]
 dsimp only
 rw [show (g.is_async != 0)=false from bne_eq_false_iff_eq.mpr ga]
 refine wpAny_bind (wpAny_standAt (wpAny_bind ?_))
 obtain ⟨oI,PB,iI⟩:=kG.it.it.alive
 have stepI:∀h' t',Heap.ExtBut I s.heap h'→a9 c (·=I) D mh s D mh { s with heap:=h',toks:=t' }∧dU c csc cu ρ D mh h'∧jN c cu D mh h' L acc:=fun h' t' xb=>
  have p:a9 c (·=I) D mh s D mh { s with heap:=h',toks:=t' }:=aV.but kG.rel PB iI kG.it.iH.Su kG.it.iH.base rfl xb
  ⟨p,kG.c3.post p fun a f q=>kG.it.iH.fr (q▸f),kG.acc.post p fun (q:L=I)=>MV q.symm⟩
 refine wpAny_with_toks (n:=s.toks) (Nat.le_refl _) (Fs HA.handled kG.rel kG.it.val (Cq hW) kG.it.it ⟨fun x u' h' t' hx rx yi xb le=>?_,fun h' hx xb le=>?_⟩)
 ·obtain ⟨aA,jo,fB⟩:=stepI h' t' xb
  have hW:=Kv hW hx
  have kA:=fun s' D' aD eY=>kA s' D' aD eY (hx▸rfl)
  have iE:CS c csc cu ρ L acc u src st I (i+1) D mh { s with heap:=h',toks:=t' }:=⟨Nat.lt_of_lt_of_le kG.pos le,aA.rel,jo,fB,⟨kG.it.iH.post aA kG.it.alive,kG.it.val.keep aA.vk,yi⟩⟩
  have aA:a9 c (CX cu.locals L I) D mh s D mh _:=aA.mono fun a q=>.inr (.inr q)
  dsimp only
  refine wpAny_bind (Bl (s:={ s with heap:=h',toks:=t' }) yi (wpAny_bind ?_))
  have rx:VR ({ s with heap:=h',toks:=t' }:Shared).heap x u':=rx
  clear stepI jo fB xb PB kE
  generalize ({ s with heap:=h',toks:=t' }:Shared)=s₁ at *
  refine Ku hX (iE.Kt HA) (gZ og).2.1 rx (HE Mj hW) fun EU bp iG dX=>?_
  obtain ⟨dX,ext,XT⟩:=dX
  have Km:CS c csc cu ρ L acc u src st I (i+1) D mh bp:=⟨iG.pos,iG.post.rel,iG.c3.free ext,iE.acc.post iG.post iE.ne.2,iE.it.post iG.post iE.ne.1⟩
  refine wpAny_bind (Jo IT (iG.Kt HA) dX fun b iF Fn s9 Kn kF z9=>?_)
  have Qn:=iG.c3.sW kF
  have Qo:CS c csc cu ρ L acc u src st I (i+1) Fn s9 iF:=⟨Kn,kF.rel,Qn.free ext,Km.acc.post kF id,Km.it.post kF id⟩
  have base:=(aA.ey (iG.post.mono fun a q=>.inl q) iE.alive).ey (kF.mono fun a q=>q.elim) Km.alive
  cases b with
  | false=>exact wpAny_pure (kA _ _ _ _ base Qo z9)
  | true=>
    refine MW T E' EU acc iF Fn s9 _ ⟨HA,Kn,kF.rel,Qn⟩ ext XT Qo.acc z9 fun Ck yg oi YO V7 Cm YP Wc yh=>
     kA _ _ _ _ (base.ey (Cm.mono fun a q=>q.elim .inl fun q=>.inr (.inl q)) Qo.alive) ⟨V7,Cm.rel,YP.free ext,Wc,Qo.it.post Cm fun q=>q.elim iE.ne.1 MV⟩ yh
 ·obtain ⟨aA,jo,fB⟩:=stepI h' s.toks xb
  exact wpAny_pure (kE _ (Nat.lt_of_lt_of_le kG.pos le) (aA.mono fun a q=>.inr (.inr q)) jo fB (Kw hW hx))
theorem Fw (IT:cS c d n) (HA:wz A d) {elt:PySem.Expr} {clauses:List Comprehension} {pos:Pos} {L:Addr} {k:Nat} {g:Comprehension} (hg:clauses[k]? =some g)
 (og:jI csc g=true) (hX:u3 csc cu (·=cu.locals))
 {ρ:Loc} {jH:Loc→List Val→MH→(List Val→MH→Prop)→Prop} {I:Addr} (Mj:∀x∈eO g.target,ρ x=none) (MV:I≠L) (MW:Jp c d A csc cu elt clauses pos k I L ρ (eO g.target) jH)
 {src:Val} {u:Value} {full:List Val} {st:Option MO} {acc:List Val} {s:Shared} {D:Addr→Addr} {mh:MH} {Q:List Val→MH→Prop} {R:Result→Shared→Prop}
 (X:CS c csc cu ρ L acc u src st I 0 D mh s)
 (hW:i4 (fun m=>Walk m src full st) (xX (dq c d n csc) g ρ jH) full acc mh Q)
 (kk:∀s' D' aD eY,0<s'.toks→a9 c (CX cu.locals L I) D mh s D' aD s'→dU c csc cu ρ D' aD s'.heap→jN c cu D' aD s'.heap L eY→Q eY aD→R (.ok .next) s'):
 codeAny (model c.prog c.w) A (.compLoop (.ListComp elt clauses csc pos) k (.ref I) (.ref L) cu) R s:=by
 refine codeAny_loop rfl (fun m s'=>∃eY D' aD i,full.length - i=m∧a9 c (CX cu.locals L I) D mh s D' aD s'∧CS c csc cu ρ L eY u src st I i D' aD s'∧
  i4 (fun m=>Walk m src full st) (xX (dq c d n csc) g ρ jH) (full.drop i) eY aD Q) ?_ full.length ⟨acc,D,mh,0,rfl,.refl X.rel,X,hW⟩
 rintro m jl ⟨eY,D',aD,i,rfl,Wd,kG,yp⟩
 show wpAny _ A ((compTurn (.ListComp elt clauses csc pos) k (.ref I) (.ref L) cu).onRaise (fun x=>do noteFrame x cu;theTreesLotGoes x)) _ _ jl
 refine wpAny_noted (Cr IT HA hg og hX Mj MV MW kG yp (fun s₁ aK av TL hi aA iE aU=>?_) fun s₁ bE aA jo fB aU=>kk _ _ _ _ bE (Wd.ey aA kG.alive) jo fB aU)
 refine ⟨rfl,_,Nat.sub_succ_lt_self _ _ ?_,TL,aK,av,i+1,rfl,Wd.ey aA kG.alive,iE,aU⟩
 obtain ⟨x,e⟩:=Option.isSome_iff_exists.mp hi
 exact (List.getElem?_eq_some_iff.mp e).1
theorem Cs (O:c.Ok) (IE:aT c d n) (IT:cS c d n) (HA:wz A d) {elt:PySem.Expr} {clauses:List Comprehension} {pos:Pos} {L:Addr}
 (oG:clauses.all (jI csc)=true) (hX:u3 csc cu (·=cu.locals)):
 ∀(gs:List Comprehension) (g:Comprehension) (k:Nat),clauses.drop k=g::gs→∀{ρ:Loc} {src:Val} {u:Value} {I:Addr} {acc:List Val} {s:Shared} {D:Addr→Addr} {mh:MH} {Q:List Val→MH→Prop} {R:Result→Shared→Prop},
  (∀x∈(g::gs).flatMap (fun g=>eO g.target),ρ x=none)→((g::gs).flatMap fun g=>eO g.target).Nodup→I≠L→
  (∃full st,CS c csc cu ρ L acc u src st I 0 D mh s∧i4 (fun m=>Walk m src full st) (xX (dq c d n csc) g ρ (jH (aJ c d n csc) (dq c d n csc) elt gs)) full acc mh Q)→
  (∀s' D' aD eY,0<s'.toks→a9 c (CX cu.locals L I) D mh s D' aD s'→dU c csc cu ρ D' aD s'.heap→jN c cu D' aD s'.heap L eY→Q eY aD→R (.ok .next) s')→
  codeAny (model c.prog c.w) A (.compLoop (.ListComp elt clauses csc pos) k (.ref I) (.ref L) cu) R s:=by
 have YQ:∀{k:Nat} {g:Comprehension},clauses[k]? =some g→jI csc g=true:=fun h=>List.all_eq_true.mp oG _ (List.mem_of_getElem? h)
 intro gs
 induction gs with
 | nil=>
   intro g k hk ρ src u I acc s D mh Q R Mj XU MV hW kk
   obtain ⟨full,st,X,hW⟩:=hW
   obtain ⟨hg,hd,hn⟩:=Bm hk
   refine Fw IT HA hg (YQ hg) hX (fun x hx=>Mj x (List.mem_append.mpr (.inl hx))) MV
    (fun T E' EU acc s D mh Q1 Y ext XT ha hW h=>?_) X hW kk
   unfold yo
   rw [hn]
   refine wpAny_bind (wpAny_bind (IE.p Y hW fun uv s₁ v aK av bE aA bz aU=>?_))
   have fB:=ha.post aA id
   have jo:=Y.c3.sW aA
   obtain ⟨c2,m,hL,vs⟩:=fB.at_
   refine wpAny_bind (append_at hL (fun h' e9 Cg=>?_) (by rw [vs.size];exact cx aU.1))
   have cO:a9 c (·=L) aK av s₁ aK av { s₁ with heap:=h',toks:=s₁.toks }:=aV.but aA.rel hL (da rfl (by decide) (by decide)) fB.iH.Su fB.iH.base rfl e9.extBut
   refine wpAny_pure (wpAny_pure (h _ _ _ (acc++[v]) bE ((aA.mono fun a q=>q.elim).ey (cO.mono fun a q=>.inr q) fun a q=>?_) (jo.post cO fun a f q=>fB.iH.fr (q▸f)) ⟨fB.iH.post cO fB.alive,_,_,Cg,?_⟩ aU.2))
   ·rcases q with rfl | rfl
    ·exact jo.alive _ (.inl rfl)
    ·exact fB.alive
   ·rw [Array.toList_push]
    exact (vs.keep cO.vk).append (.cons (bz.keep cO.vk) .nil)
 | cons g' gs' ih=>
   intro g k hk ρ src u I acc s D mh Q R Mj XU MV hW kk
   obtain ⟨full,st,X,hW⟩:=hW
   obtain ⟨hg,hd,hn⟩:=Bm hk
   have hn:clauses[k+1]? =some g':=hn
   obtain ⟨ga,gt,gp⟩:=gZ (YQ hn)
   rw [List.flatMap_cons,List.nodup_append] at XU
   refine Fw IT HA hg (YQ hg) hX (fun x hx=>Mj x (List.mem_append.mpr (.inl hx))) MV
    (fun T E' EU acc s D mh Q1 Y ext XT ha hW h=>?_) X hW kk
   unfold yo
   rw [hn]
   dsimp only
   rw [show (g'.is_async != 0)=false from bne_eq_false_iff_eq.mpr ga]
   refine wpAny_bind (IE.p Y hW fun uv s₁ v aK av bE aA bz aU=>wpAny_bind (wpAny_standAt (wpAny_bind (wpAny_of_eq (q9 gp uv) (wpAny_bind (wpAny_holding ?_))))))
   obtain ⟨We,Pz,aU⟩:=aU
   refine u2 O aA.rel bz (Cq aU) fun ob hit=>?_
   have e0:=Heap.ba s₁.heap (Nat.le_refl _)
   have P:aV c aK av s₁ aK av { s₁ with heap:=s₁.heap.push ob,toks:=s₁.toks }:=aV.push aA.rel
   have jo:=Y.c3.sW aA
   have fB:=ha.post aA id
   have iE:CS c csc cu EU L acc uv v Pz s₁.heap.objs.size 0 aK av { s₁ with heap:=s₁.heap.push ob }:=⟨bE,P.rel,jo.sW P,fB.post P id,⟨yn.fresh aA.rel jo e0,bz.keep P.vk,hit⟩⟩
   have main:codeAny (model c.prog c.w) A (.compLoop (.ListComp elt clauses csc pos) (k+1) (.ref s₁.heap.objs.size) (.ref L) cu) (fun r s'=>match r with
    | .ok f=>wpAny (model c.prog c.w) A (again (Code.compLoop (elt.ListComp clauses csc pos) k (Value.ref I) (Value.ref L) cu)) T E' s'
    | .error e=>cameBackBy (model c.prog c.w) A cu E' e s') { s₁ with heap:=s₁.heap.push ob }:=by
    refine ih g' (k+1) hd (fun x hx=>?_) XU.2.1 ?_ ⟨We,Pz,iE,aU⟩ fun bp cA a6 TM gG cO MX Jq dX=>?_
    ·exact (XT x fun q=>XU.2.2 x q x hx rfl).trans (Mj x (List.mem_append.mpr (.inr hx)))
    ·intro q
     obtain ⟨o,ho⟩:=fB.alive
     rw [←q,e0] at ho;exact a8 ho
    ·refine wpAny_pure (h bp cA a6 TM gG ?_ MX Jq dX)
     have Mk:a9 c (CX cu.locals L s₁.heap.objs.size) aK av s₁ cA a6 bp:=(P.mono fun a q=>q.elim).ey cO iE.alive
     exact (aA.mono fun a q=>q.elim).ey (Mk.hide fun a q=>q.elim (fun q=>.inl (.inl q)) fun q=>q.elim (fun q=>.inl (.inr q)) fun q=>.inr (q▸e0)) fun a q=>by
      rcases q with rfl | rfl
      ·exact jo.alive _ (.inl rfl)
      ·exact fB.alive
   refine wpAny_bind (wpAny_runOwn (h:=none) (by
    rw [Around.mark_none]
    exact qJ hn ga main (Ft hit main)))
end
noncomputable def f9 (env:Env):List (Str×NameKind)→List (Str×Addr)→List (Str×Addr)
 | [],cs=>cs
 | (x,k)::r,cs=>if (k == .free)=true then f9 env r ((x,(env.cells.lookup x).getD 0)::cs) else f9 env r cs
theorem kH {env:Env}:∀(names:List (Str×NameKind)) (cs:List (Str×Addr)),(∀x∈names,x.2= .free→(env.cells.lookup x.1).isSome=true)→
 (forIn names cs (fun (x:Str×NameKind) (cs:List (Str×Addr))=>if (x.2 == .free)=true then (do let a ←cellOf env x.1;pure (ForInStep.yield ((x.1,a)::cs))) else pure (ForInStep.yield cs)):Sem (List (Str×Addr)))=pure (f9 env names cs)
 | [],cs,_=>rfl
 | (x,k)::r,cs,h=>by
   rw [List.forIn_cons]
   unfold f9
   by_cases hk:(k == NameKind.free)=true
   ·have hs:=h (x,k) (List.mem_cons_self ..) (by simpa using hk)
    obtain ⟨a,ha⟩:=Option.isSome_iff_exists.mp hs
    have ha:env.cells.lookup x=some a:=ha
    have e1:cellOf env x=pure a:=by unfold cellOf;rw [ha]
    simp only [hk,if_true,e1,pure_bind,ha,Option.getD_some]
    exact kH r _ fun y hy=>h y (List.mem_cons_of_mem _ hy)
   ·simp only [hk,if_false,pure_bind,Bool.false_eq_true]
    exact kH r _ fun y hy=>h y (List.mem_cons_of_mem _ hy)
theorem HF {env:Env} {scope:Scope} (h:∀x∈scope.names,x.2= .free→(env.cells.lookup x.1).isSome=true):closureFor scope env=pure (f9 env scope.names []):=by
 have:=kH scope.names [] h
 unfold closureFor
 simp only [bind_pure]
 rw [←this]
theorem MY {env:Env} {names:List (Str×NameKind)}:∀{cs:List (Str×Addr)} {p:Str×Addr},(∀x∈names,x.2= .free→(env.cells.lookup x.1).isSome=true)→p∈f9 env names cs→p∈cs∨((p.1,NameKind.free)∈names∧env.cells.lookup p.1=some p.2):=by
 induction names with
 | nil=>
   rintro cs p _ h
   exact .inl h
 | cons p_ r ih=>
   obtain ⟨x,k⟩:=p_
   rintro cs p hs h
   unfold f9 at h
   by_cases hk:(k == NameKind.free)=true
   ·rw [if_pos hk] at h
    rcases ih (fun y hy=>hs y (List.mem_cons_of_mem _ hy)) h with h | h
    ·rcases List.mem_cons.mp h with rfl | h
     ·have xM:k= .free:=by simpa using hk
      subst xM
      obtain ⟨a,ha⟩:=Option.isSome_iff_exists.mp (hs (x,.free) (List.mem_cons_self ..) rfl)
      have ha:env.cells.lookup x=some a:=ha
      exact .inr ⟨List.mem_cons_self ..,by show env.cells.lookup x=some ((env.cells.lookup x).getD 0);rw [ha];rfl⟩
     ·exact .inl h
    ·exact .inr ⟨List.mem_cons_of_mem _ h.1,h.2⟩
   ·rw [if_neg hk] at h
    rcases ih (fun y hy=>hs y (List.mem_cons_of_mem _ hy)) h with h | h
    ·exact .inl h
    ·exact .inr ⟨List.mem_cons_of_mem _ h.1,h.2⟩
theorem TN {env:Env} {names:List (Str×NameKind)}:∀{cs:List (Str×Addr)} {p:Str×Addr},p∈cs→p∈f9 env names cs:=by
 induction names with
 | nil=>
   rintro _ _ h
   exact h
 | cons p_ r ih=>
   obtain ⟨x,k⟩:=p_
   rintro cs p h
   unfold f9
   split
   ·exact ih (List.mem_cons_of_mem _ h)
   ·exact ih h
theorem HG {env:Env}:∀{names:List (Str×NameKind)} {cs:List (Str×Addr)} {x:Str},(x,NameKind.free)∈names→∃a,(x,a)∈f9 env names cs
 | (y,k)::r,cs,x,h=>by
   unfold f9
   rcases List.mem_cons.mp h with e | h
   ·cases e
    rw [if_pos (by decide)]
    exact ⟨_,TN (List.mem_cons_self ..)⟩
   ·split
    ·exact HG h
    ·exact HG h
theorem Qp {env:Env} {names:List (Str×NameKind)}:∀{cs:List (Str×Addr)},(names.map (·.1)).Nodup→(cs.map (·.1)).Nodup→(∀x∈names.map (·.1),x∉cs.map (·.1))→((f9 env names cs).map (·.1)).Nodup:=by
 induction names with
 | nil=>
   rintro _ _ h _
   exact h
 | cons p_ r ih=>
   obtain ⟨x,k⟩:=p_
   rintro cs hn hc hd
   rw [List.map_cons,List.nodup_cons] at hn
   unfold f9
   split
   ·refine ih hn.2 ?_ fun y hy q=>?_
    ·rw [List.map_cons,List.nodup_cons];exact ⟨hd x (by simp),hc⟩
    ·rw [List.map_cons] at q
     rcases List.mem_cons.mp q with e | q
     ·rw [e] at hy;exact hn.1 hy
     ·exact hd y (by rw [List.map_cons];exact List.mem_cons_of_mem _ hy) q
   ·exact ih hn.2 hc fun y hy=>hd y (by rw [List.map_cons];exact List.mem_cons_of_mem _ hy)
theorem Aa {α:Type} {l:List (Str×α)} {x:Str} {a:α} (h:(x,a)∈l):∃b,l.lookup x=some b:=by
 cases e:l.lookup x with
 | some b=>exact ⟨b,rfl⟩
 | none=>
   exfalso
   induction l with
   | nil=>cases h
   | cons p l ih=>
     rw [List.lookup_cons] at e
     split at e
     ·exact c5 e
     ·rename_i q
      rcases List.mem_cons.mp h with rfl | h
      ·simp at q
      ·exact ih h e
theorem g0 {env:Env}:∀{names:List (Str×NameKind)} {x:Str},(names.map fun (n,k)=>if (k == NameKind.free&&env.scope.kind == .function&&env.kindOf n == some .cell) then (n,NameKind.cell) else (n,k)).lookup x=
 (names.lookup x).map fun k=>if (k == NameKind.free&&env.scope.kind == .function&&env.kindOf x == some .cell) then NameKind.cell else k
 | [],x=>rfl
 | (n,k)::r,x=>by
   have ih:=@g0 env r x
   show List.lookup x ((if (k == NameKind.free&&env.scope.kind == .function&&env.kindOf n == some .cell)=true then (n,NameKind.cell) else (n,k))::_)=_
   cases hx:x == n with
   | true=>
     have :x=n:=by simpa using hx
     subst this
     simp only [List.lookup_cons,beq_self_eq_true,Option.map_some]
     split<;>simp_all
   | false=>
     by_cases hc:(k == NameKind.free&&env.scope.kind == .function&&env.kindOf n == some .cell)=true
     ·rw [if_pos hc];simp only [List.lookup_cons,hx];exact ih
     ·rw [if_neg hc];simp only [List.lookup_cons,hx];exact ih
structure Qq (sc csc:Scope):Prop where
 kind:csc.kind= .function
 HH:∀x∈csc.names,x.2≠ .cell
 TO:∀x∈csc.names,x.2= .local→csc.names.lookup x.1=some .local
 free_:∀x∈csc.names,x.2= .free→csc.names.lookup x.1=some .free
 nodup:(csc.names.map (·.1)).Nodup
 around:∀x∈csc.names,x.2= .free→sc.names.lookup x.1=some .cell∨sc.names.lookup x.1=some .free
theorem MZ {a b:NameKind} {c:Bool} (h:(a != b || c)=true) (e:a=b):c=true:=by
 subst e
 rw [bne_self_eq_false] at h
 exact h
theorem YR {a b:Bool} (h:(a || b)=true):a=true∨b=true:=(Bool.or_eq_true _ _).mp h
theorem Qr {sc csc:Scope} (h1:V0 csc=true) (h2:freeOk sc csc=true):Qq sc csc:=by
 obtain ⟨a1,h1⟩:=aC h1
 obtain ⟨a2,h1⟩:=aC h1
 obtain ⟨a3,h1⟩:=aC h1
 obtain ⟨a4,a5⟩:=aC h1
 exact ⟨beq_iff_eq.mp a1,fun x hx=>bne_iff_ne.mp (List.all_eq_true.mp a2 x hx),fun x hx e=>beq_iff_eq.mp (MZ (List.all_eq_true.mp a3 x hx) e),fun x hx e=>beq_iff_eq.mp (MZ (List.all_eq_true.mp a4 x hx) e),wC a5,
  fun x hx e=>(YR (MZ (List.all_eq_true.mp h2 x hx) e)).imp beq_iff_eq.mp beq_iff_eq.mp⟩
section
variable {c:Cfg} {d n:Nat} {A:Around} {E:Value→Shared→Prop} {s:Shared} {sc csc:Scope} {env:Env} {ρ:Loc} {D:Addr→Addr} {mh:MH}
noncomputable abbrev hE (csc:Scope) (env:Env) (C:Addr):Env:={ newEnv csc C env.globals (f9 env csc.names []) env.qual none .none (some env) env.builtins with scope:=relabel csc env }
theorem rh (V:dU c sc env ρ D mh s.heap) (K:Qq sc csc) {x:Str} (hx:(x,NameKind.free)∈csc.names):∃a u,env.cells.lookup x=some a∧s.heap.IsCell a u∧∀v,ρ x=some v→∃u',u=some u'∧VR s.heap v u':=by
 refine V.cell x ?_
 rcases K.around _ hx rfl with e | e
 ·rcases V.Qc x with q | ⟨q,_⟩
  ·exact .inl (q.trans e)
  ·rw [e] at q;cases q
 ·rcases V.Qc x with q | ⟨_,q⟩
  ·exact .inr (q.trans e)
  ·exact .inl q
theorem wF {x:Str} {v:Val} (h:pT csc ρ x=some v):csc.names.lookup x=some .free∧ρ x=some v:=by
 unfold pT at h
 cases e:csc.names.lookup x == some NameKind.free with
 | true=>rw [e] at h;exact ⟨beq_iff_eq.mp e,h⟩
 | false=>rw [e] at h;exact a8 h
theorem oj {names:List (Str×NameKind)} {x:Str} {k:NameKind} (h:names.lookup x=some k):(x,k)∈names:=mem_of_lookup h
theorem Kx (V:dU c sc env ρ D mh s.heap) (R:Rel c D mh s.heap) (K:Qq sc csc) {C:Addr} (hC:s.heap.get? C=none) {h:Heap} (hn:h.Ns C fun zz=>none) (kp:∀b o,s.heap.get? b=some o→h.get? b=some o):
 dU c csc (hE csc env C) (pT csc ρ) D mh h:=by
 have hs:∀x∈csc.names,x.2= .free→(env.cells.lookup x.1).isSome=true:=fun x hx e=>by
  obtain ⟨y,k⟩:=x
  obtain rfl:=e
  obtain ⟨a,u,h1,_⟩:=rh V K hx
  show (env.cells.lookup y).isSome=true
  rw [h1];rfl
 have mem:∀x a,(x,a)∈f9 env csc.names []→(x,NameKind.free)∈csc.names∧env.cells.lookup x=some a:=fun x a hm=>(MY hs hm).resolve_left (by simp)
 have kinds:∀x,(hE csc env C).kindOf x=(csc.names.lookup x).map fun k=>if (k == NameKind.free&&env.scope.kind == .function&&env.kindOf x == some .cell) then NameKind.cell else k:=fun x=>g0
 refine ⟨K.kind,V.glob,V.blt,fun x=>?_,fun a f=>?_,⟨_,hn,fun x v hk hv=>?_⟩,fun x hk=>?_,?_⟩
 ·rw [kinds]
  cases hl:csc.names.lookup x with
  | none=>exact .inl rfl
  | some k=>
    simp only [Option.map_some]
    split
    ·rename_i q
     simp only [Bool.and_eq_true,beq_iff_eq] at q
     exact .inr ⟨by rw [q.1.1],rfl⟩
    ·exact .inl rfl
 ·rcases f with e | ⟨x,hx⟩
  ·have e:a=C:=e
   subst e
   obtain ⟨o,es,ep,ho,hd,_⟩:=hn
   exact ⟨R.fresh hC,R.cD hC,o,ho,bD hd⟩
  ·obtain ⟨h1,h2⟩:=mem x a hx
   obtain ⟨g1,g2,o,ho,hi⟩:=V.fr a (.inr ⟨x,mem_of_lookup h2⟩)
   exact ⟨g1,g2,o,kp _ _ ho,hi⟩
 ·exfalso
  rw [kinds] at hk
  rw [(wF hv).1] at hk
  have hk:some (if (NameKind.free == NameKind.free&&env.scope.kind == .function&&env.kindOf x == some .cell)=true then NameKind.cell else NameKind.free)=some .local:=hk
  split at hk<;>cases hk
 ·have hf:(x,NameKind.free)∈csc.names:=by
   rw [kinds] at hk
   cases hl:csc.names.lookup x with
   | none=>rw [hl] at hk;rcases hk with q | q<;>exact a8 q
   | some k=>
     have hm:=oj hl
     rw [hl] at hk
     cases k with
     | free=>exact hm
     | cell=>exact (K.HH _ hm rfl).elim
     | _=>rcases hk with q | q<;>simp at q
  obtain ⟨a,u,h1,h2,h3⟩:=rh V K hf
  obtain ⟨b,hb⟩:=HG (env:=env) (cs:=[]) hf
  obtain ⟨b',EV⟩:=Aa hb
  have:=(mem x b' (mem_of_lookup EV)).2
  obtain rfl:=both h1 this
  refine ⟨a,u,EV,Heap.Ba h2 (kp _),fun v hv=>?_⟩
  obtain ⟨u',e,r⟩:=h3 v (wF hv).2
  exact ⟨u',e,r.keep (.q5 kp)⟩
 ·have keys:=Qp (env:=env) (names:=csc.names) (cs:=[]) K.nodup (by simp) (by simp)
  have Wf:(f9 env csc.names []).Pairwise fun x y=>x.1≠y.1:=List.pairwise_map.mp keys
  refine List.Pairwise.imp_of_mem ?_ Wf
  intro p q hp hq Wg e
  obtain ⟨px,pa⟩:=p
  obtain ⟨qx,qa⟩:=q
  have e:pa=qa:=e
  subst e
  exact Wg (name_of_addr V.apart (mem_of_lookup (mem _ _ hp).2) (mem_of_lookup (mem _ _ hq).2))
theorem M0 (K:Qq sc csc) {C:Addr}:u3 csc (hE csc env C) (·=(hE csc env C).locals):=by
 refine ⟨fun a e=>.inl e,fun x a hv h=>h.elim id fun h=>?_⟩
 have hk:=h.1
 have hf:=bne_iff_ne.mp (aC hv).2
 exfalso
 have kinds:(hE csc env C).kindOf x=(csc.names.lookup x).map fun k=>if (k == NameKind.free&&env.scope.kind == .function&&env.kindOf x == some .cell) then NameKind.cell else k:=g0
 rw [kinds] at hk
 cases hl:csc.names.lookup x with
 | none=>rw [hl] at hk;exact a8 hk
 | some k=>
   rw [hl] at hk hf
   cases k with
   | free=>exact hf rfl
   | cell=>exact K.HH _ (oj hl) rfl
   | _=>cases hk
end
section
variable {c:Cfg} {d n:Nat} {A:Around} {E:Value→Shared→Prop} {s:Shared} {sc csc:Scope} {env:Env} {ρ:Loc} {D:Addr→Addr} {mh:MH}
theorem Fx {t:PySem.Expr} (ht:sU csc t=true):∀x∈eO t,csc.names.lookup x≠some .free:=by
 intro x hx
 have ht:Ce csc (namesOf t)=true:=ht
 have hx:x∈(namesOf t).getD []:=hx
 cases e:namesOf t with
 | none=>rw [e] at hx;cases hx
 | some xs=>rw [e] at ht hx;exact bne_iff_ne.mp (aC (List.all_eq_true.mp ht x hx)).2
theorem Fy (O:c.Ok) (IE:aT c d n) (IT:cS c d n) {elt:PySem.Expr} {g:Comprehension} {gs:List Comprehension} {pos:Pos} {Q:List Val→MH→Prop} {use:Option (Value→Sem Unit)} {T:Value→Shared→Prop} (X:fy c d A s sc env ρ D mh)
 (hW:qI (aJ c d n) (dq c d n) sc ρ elt g gs csc mh Q)
 (k:∀s₁ aK av C I L bp cA a6 acc c2 m ns,0<bp.toks→aV c D mh s aK av s₁→a9 c (CX C L I) aK av s₁ cA a6 bp→s₁.heap.get? C=none→s₁.heap.get? L=none→s₁.heap.get? I=none→L≠C→
  bp.heap.get? L=some (PySem.W.listOf c2 m)→cX bp.heap acc c2.toList→¬In cA a6 L→¬In cA a6 C→bp.heap.Ns C ns→Q acc a6→compPost (model c.prog c.w) A E use T (.ref L) C (.ok .next) bp):
 wpAny (model c.prog c.w) A (comprehension (.ListComp elt (g::gs) csc pos) csc env (firstIterPos (g::gs) pos) (newList []) (firstAsync (g::gs)) (firstIter (g::gs) env) use) T E s:=by
 obtain ⟨ok,hW⟩:=bT hW
 obtain ⟨oG,ok⟩:=aC ok
 obtain ⟨o5,ok⟩:=aC ok
 obtain ⟨o6,o7⟩:=aC ok
 have K:=Qr o5 o6
 have HA:=X.ok
 have R:=X.rel
 have V:=X.c3
 obtain ⟨ga,gt,gp⟩:=gZ (aC oG).1
 have hs:∀x∈csc.names,x.2= .free→(env.cells.lookup x.1).isSome=true:=fun x hx e=>by
  obtain ⟨y,kd⟩:=x
  obtain rfl:=e
  obtain ⟨a,u,h1,_⟩:=rh V K hx
  show (env.cells.lookup y).isSome=true
  rw [h1];rfl
 have e1:firstAsync (g::gs)=false:=by cases g;exact bne_eq_false_iff_eq.mpr ga
 rw [e1]
 have e2:firstIter (g::gs) env=eval g.iter env:=by cases g;rfl
 rw [e2]
 refine wpAny_comprehension_free (use:=use) (cl:=f9 env csc.names []) rfl (q9 gp) (HF hs) K.kind (fun x hx e=>K.TO x hx e) ?_
 refine IE.p X hW fun u s₁ src aK av bE aA bz aU=>?_
 obtain ⟨full,st,aU⟩:=aU
 have jo:=V.sW aA
 refine u2 O aA.rel bz (Cq aU) fun ob hit=>?_
 have eI:=Heap.ba s₁.heap (Nat.le_refl _)
 refine wpAny_newObj_type ?_
 refine wpAny_newFunctionEnv (fun x hx=>K.HH x hx) (fun y hy=>nomatch hy) (fun dT HI HJ=>?_) K.kind
 dsimp only at HI HJ⊢
 generalize XW:(s₁.heap.push ob).push { cls:=.type "list",dict:=none,data:=.seq ([]:List Value).toArray }=H2 at HI HJ⊢
 have hL:(s₁.heap.push ob).objs.size=s₁.heap.objs.size+1:=Heap.size_push ..
 have hC:H2.objs.size=s₁.heap.objs.size+2:=by rw [←XW,Heap.size_push,Heap.size_push]
 have eL:=Heap.ba s₁.heap (a:=s₁.heap.objs.size+1) (Nat.le_succ _)
 have eC:=Heap.ba s₁.heap (a:=H2.objs.size) (by rw [hC];exact Nat.le_add_right _ 2)
 have nC:∀b,b<H2.objs.size→b≠H2.objs.size:=fun b hb=>Nat.ne_of_lt hb
 have TP:∀b o,H2.get? b=some o→dT.get? b=some o:=fun b o e=>HJ.extBut b o (nC b (Heap.lt_size e)) (Heap.get?_push_of_some _ e)
 have old:∀b o,s₁.heap.get? b=some o→dT.get? b=some o:=fun b o e=>TP b o (XW▸Heap.get?_push_of_some _ (Heap.get?_push_of_some _ e))
 have dO:dT.get? (s₁.heap.objs.size+1)=some (PySem.W.listOf #[] 0):=by
  refine TP _ _ (XW▸?_)
  have:=Heap.get?_push_size (s₁.heap.push ob) (o:={ cls:=.type "list",dict:=none,data:=.seq ([]:List Value).toArray }) rfl
  rwa [hL] at this
 have YS:Hj dT u src st s₁.heap.objs.size 0:=hit.at' fun o e=>TP _ _ (XW▸Heap.get?_push_of_some _ e)
 have P:aV c aK av s₁ aK av { s₁ with heap:=dT,toks:=s₁.toks }:=aV.ext aA.rel old
 have VC:dU c csc (hE csc env H2.objs.size) (pT csc ρ) aK av dT:=Kx jo aA.rel K eC (HI) old
 have frC:∀a,q6 (hE csc env H2.objs.size) a→a=H2.objs.size∨q6 env a:=fun a f=>by
  rcases f with e | ⟨x,hx⟩
  ·exact .inl e
  ·exact .inr (.inr ⟨x,mem_of_lookup ((MY hs hx).resolve_left (fun q=>nomatch q)).2⟩)
 have prv:∀a,s₁.heap.get? a=none→a≠H2.objs.size→yn c (hE csc env H2.objs.size) aK av a:=fun a ea ne=>by
  have p:=yn.fresh aA.rel jo ea
  exact ⟨p.Su,p.base,fun f=>(frC a f).elim ne p.fr⟩
 have YT:jN c (hE csc env H2.objs.size) aK av dT (s₁.heap.objs.size+1) []:=⟨prv _ eL (Nat.ne_of_lt (by rw [hC];exact Nat.lt_succ_self _)),_,_,dO,rfl⟩
 have itS:gi c (hE csc env H2.objs.size) aK av dT u src st s₁.heap.objs.size 0:=⟨prv _ eI (Nat.ne_of_lt (by rw [hC];exact Nat.lt_succ_of_lt (Nat.lt_succ_self _))),bz.keep P.vk,YS⟩
 have main:codeAny (model c.prog c.w) A (.compLoop (.ListComp elt (g::gs) csc pos) 0 (.ref s₁.heap.objs.size) (.ref (s₁.heap.objs.size+1)) (hE csc env H2.objs.size)) (compPost (model c.prog c.w) A E use T (.ref (s₁.heap.objs.size+1)) H2.objs.size)
  { s₁ with heap:=dT }:=by
  refine Cs O IE IT HA oG (M0 K) gs g 0 rfl (s:={ s₁ with heap:=dT }) (fun x hx=>?_) (wC o7) (Nat.ne_of_lt (Nat.lt_succ_self _)) ⟨full,st,⟨bE,P.rel,VC,YT,itS⟩,aU⟩ fun bp cA a6 acc gG cO MX Jq dX=>?_
  ·obtain ⟨g',Vn,hx⟩:=List.mem_flatMap.mp hx
   unfold pT
   rw [beq_eq_false_iff_ne.mpr (Fx (gZ (List.all_eq_true.mp oG g' Vn)).2.1 x hx)]
  ·obtain ⟨m,hn,_⟩:=MX.ns
   obtain ⟨c2,mm,M1,vs⟩:=Jq.at_
   have fC:=MX.fr H2.objs.size (.inl rfl)
   have al:∀a,CX H2.objs.size (s₁.heap.objs.size+1) s₁.heap.objs.size a→∃o,dT.get? a=some o:=fun a q=>by
    rcases q with rfl | rfl | rfl
    ·exact VC.alive _ (.inl rfl)
    ·exact ⟨_,dO⟩
    ·obtain ⟨o,ho,_⟩:=YS.alive;exact ⟨o,ho⟩
   have Mk:a9 c (CX H2.objs.size (s₁.heap.objs.size+1) s₁.heap.objs.size) aK av s₁ cA a6 bp:=(P.mono fun a q=>q.elim).ey cO al
   exact k s₁ aK av H2.objs.size s₁.heap.objs.size _ bp cA a6 acc c2 mm m gG aA Mk eC eL eI (Nat.ne_of_lt (by rw [hC];exact Nat.lt_succ_self _)) M1 vs Jq.iH.Su fC.1 hn dX
 rw [hL]
 exact qJ (g:=g) rfl ga main (Ft YS main)
theorem Bp (O:c.Ok) (IE:aT c d n) (IT:cS c d n) {elt:PySem.Expr} {g:Comprehension} {gs:List Comprehension} {pos:Pos} {Q:List Val→MH→Prop} {T:Value→Shared→Prop} (X:fy c d A s sc env ρ D mh)
 (hW:qI (aJ c d n) (dq c d n) sc ρ elt g gs csc mh Q)
 (k:∀s₁ aK av s' D' aD acc L c2 m,0<s'.toks→aV c D mh s aK av s₁→aV c aK av s₁ D' aD s'→s₁.heap.get? L=none→s'.heap.get? L=some (PySem.W.listOf c2 m)→cX s'.heap acc c2.toList→¬In D' aD L→Q acc aD→T (.ref L) s'):
 wpAny (model c.prog c.w) A (eval (.ListComp elt (g::gs) csc pos) env) T E s:=by
 rw [eval_ListComp]
 refine Fy O IE IT X hW fun s₁ aK av C I L bp cA a6 acc c2 m ns gG aA Mk eC eL eI YU M1 vs nL nC hn q=>?_
 refine ⟨ns,hn,fun h' e9=>?_⟩
 obtain ⟨oC,es,ep,Wh,Vo,_⟩:=hn
 have p13:a9 c (CX C L I) aK av s₁ cA a6 { bp with heap:=h',toks:=bp.toks }:=by
  have YV:=aA.rel.cD eC
  refine ⟨?_,Mk.rel.but Wh (bD Vo) nC YV e9.extBut,fun a o e ni nx=>?_,fun a i=>Mk.own a i,Mk.vk.trans (.but Wh (bD Vo) e9.extBut)⟩
  ·obtain ⟨h2,t2,d2,e⟩:=Mk.st
   exact ⟨h',bp.toks,d2,by rw [e]⟩
  ·exact e9.extBut a o (fun q=>nx (.inl q)) (Mk.keep a o e ni nx)
 exact k s₁ aK av _ cA a6 acc L c2 m gG aA (p13.hide fun a q=>by
  rcases q with rfl | rfl | rfl
  ·exact .inr eC
  ·exact .inr eL
  ·exact .inr eI) eL (e9.extBut _ _ YU M1) (vs.keep (.but Wh (bD Vo) e9.extBut)) nL q
end
open PySem.Sem (wp)
theorem yq:typeLookup (.type "list") "keys"=pure none:=by rw [typeLookup_type,builtinLookup_eq_fast];kernel_rfl
set_option maxHeartbeats 2000000 in
theorem Ky {prog:Program} {w:World} {A:Around} {E:Value→Shared→Prop} {s:Shared} {a:Addr} {xs:Array Value} {k:Nat} {Q:Option Value→Shared→Prop} (hx:s.heap.get? a=some (PySem.W.listOf xs k)) (hA:A.handled=none)
 (h:∀h' tk,(∀b o,s.heap.get? b=some o→h'.get? b=some o)→Q none { s with heap:=h',toks:=tk }):wpAny (model prog w) A (getAttr? (.ref a) "keys") Q E s:=by
 obtain ⟨hp,g,d,tk,os⟩:=s
 have hT:∀tk',(⟨hp,g,d,tk',os⟩:Shared).TypeIs (.ref a) "list":=fun zz=>⟨_,hx,rfl⟩
 have f1:=sub_AttributeError
 have f3:=PySem.F.slot_list_getattribute.lookup
 have f4:=PySem.F.slot_list_getattribute.bind (.ref a)
 have f5:=am_list_getattr_none
 have Wi:=yq
 unfold getAttr? getAttrBy? getAttrBy
 repeat (any_goals (first | assumption | exact hT _ | ((with_reducible show wpAny _ _ (call (Value.builtin "list.__getattribute__") _ _) _ _ _);refine call_meets PySem.F.slot_list_getattribute (hT _) am_entry_list_getattribute (PySem.F.args_list_getattribute_2 _ _) (meets_getattribute_miss_list a xs k #[] "keys" _ Wi (by decide) (by decide)) ⟨hx,hA,fun h' tk' e PW=>?_⟩) | wp_step))
 obtain ⟨t',u',he⟩:=PW.there
 show wpAny _ _ (getattributeRaised _ _ _ _ _ _ _) _ _ _
 unfold getattributeRaised
 repeat (any_goals (first | assumption | wp_step))
 exact h _ _ PW.keeps
theorem qK:entryFor table "dict.update.loop"=some Builtin.«dict.update.loop»:=entryFor_of_tree (by kernel_rfl)
theorem qL:("dict.update.loop".startsWith "lifetime.")=false:=by decide+kernel
theorem M3 {v:Val} {p:Str×Val} (e:pairOf v=some p):v= .tup [.str p.1,p.2]:=by
 cases v with
 | tup l=>
   cases l with
   | nil=>exact a8 e
   | cons a r=>
     cases r with
     | nil=>exact a8 e
     | cons w r=>
       cases r with
       | cons _ _=>exact a8 e
       | nil=>
         cases a with
         | str k=>obtain rfl:=Option.some.inj e;rfl
         | _=>exact a8 e
 | _=>exact a8 e
theorem HK {acc:List Val}:∀{ps:List (Str×Val)},pairsOf acc=some ps→acc=ps.map fun p=>.tup [.str p.1,p.2]:=by
 induction acc with
 | nil=>rintro ps e;obtain rfl:=Option.some.inj e;rfl
 | cons v r ih=>
   rintro ps e
   have e:(pairOf v).bind (fun p=>(pairsOf r).map (p::·))=some ps:=e
   obtain ⟨p,e1,e⟩:=Option.bind_eq_some_iff.mp e
   obtain ⟨Wj,e2,rfl⟩:=Option.map_eq_some_iff.mp e
   rw [List.map_cons,←ih e2,←M3 e1]
section
variable {c:Cfg} {d n:Nat} {A:Around} {E:Value→Shared→Prop} {s:Shared} {D:Addr→Addr} {mh:MH}
theorem Ct {M:Model} {t:Addr} {c2:Array Value} {Q:List Value→Shared→Prop} (ht:IsTup s.heap t c2) (h:Q c2.toList s):wpAny M A (Builtin.Dict.pairItems (.ref t)) Q E s:=by
 unfold Builtin.Dict.pairItems
 refine wpAny_bind (wpAny_typeOf ht.typeIs ?_)
 obtain ⟨o,ho,hc,n,hd⟩:=ht
 rw [if_pos (by decide)]
 exact wpAny_bind (wpAny_seqItems ho hd (wpAny_pure h))
theorem Fz (hh:A.handled=none) {L I Dd:Addr} (Wk:L≠I) (YW:Dd≠I) (hLD:L≠Dd) {c2:Array Value} {m:Nat} {R:Result→Shared→Prop}:
 ∀(k:Nat) (ps:List (Str×Val)) (i:Nat) (s:Shared) (base:List (Str×Val)) (cW:List (Str×Value)),ps.length=k→s.heap.IsListIter I L i→s.heap.get? L=some (PySem.W.listOf c2 m)→
  cX s.heap (ps.map fun p=>.tup [.str p.1,p.2]) (c2.toList.drop i)→s.heap.DictOf (PySem.strKind c.prog c.w) Dd cW→wQ s.heap base cW→base.length+ps.length<bw→
  (∀h' t wV,(∀b o,b≠I→b≠Dd→s.heap.get? b=some o→h'.get? b=some o)→h'.DictOf (PySem.strKind c.prog c.w) Dd wV→wQ h' (ps.foldl (fun es p=>putK p.1 p.2 es) base) wV→R (.ok (.ret .none)) { s with heap:=h',toks:=t })→
  codeAny (model c.prog c.w) A (.builtin "dict.update.loop" ⟨[.ref Dd,.ref I,rawInt i,.none],[]⟩) R s:=by
 intro k
 induction k with
 | zero=>
   intro ps i s base cW hl hit hL vs hd rk hz kk
   have :ps=[]:=List.length_eq_zero_iff.mp hl
   subst this
   refine codeAny_builtin qK ?_
   have YX:(A.under (.builtin "dict.update.loop" ⟨[.ref Dd,.ref I,rawInt i,.none],[]⟩)).handled=none:=hh
   show wpAny _ _ (pyNext (.ref I) >>= _) _ _ s
   have hx:c2[i]? =none:=by
    have e:c2.toList.drop i=[]:=vs
    have:=List.drop_eq_nil_iff.mp e
    rw [Array.getElem?_eq_none_iff];simpa using this
   refine wpAny_bind (wpAny_pyNext_list_end YX hit ⟨_,hL,rfl,_,rfl⟩ hx fun h' xb=>?_)
   show wpAny _ _ (Builtin.Dict.addKeywords Dd [] >>= _) _ _ _
   refine wpAny_bind (wpAny_pure (wpAny_pure ?_))
   have vk:cR s.heap h':=by
    obtain ⟨o,ho,hc,_⟩:=hit
    exact .but ho (da hc (by decide) (by decide)) xb
   exact kk h' s.toks cW (fun b o h1 zz e=>xb b o h1 e) (hd.extBut xb YW) (rk.keep vk)
 | succ k ih=>
   intro ps i s base cW hl hit hL vs hd rk hz kk
   cases ps with
   | nil=>simp at hl
   | cons p ps=>
     obtain ⟨x,v⟩:=p
     obtain ⟨u,r',e,ru,rr⟩:=vs
     have hx:c2[i]? =some u:=by
      have:=List.getElem?_drop (xs:=c2.toList) (i:=i) (j:=0)
      rw [e] at this
      simpa using this.symm
     have hr:c2.toList.drop (i+1)=r':=by rw [←List.drop_drop,e];rfl
     refine codeAny_builtin qK ?_
     show wpAny _ _ (pyNext (.ref I) >>= _) _ _ s
     refine wpAny_bind (wpAny_pyNext_list_item hit ⟨_,hL,rfl,_,rfl⟩ hx fun h' TR e9=>?_)
     have vk:cR s.heap h':=by
      obtain ⟨o,ho,hc,_⟩:=hit
      exact .but ho (da hc (by decide) (by decide)) e9.extBut
     obtain ⟨t,its',rfl,ht,mD⟩:=ru.keep vk
     obtain ⟨uk,uv,e',⟨tk,YN⟩,rv⟩:=mD.two
     subst YN
     simp only []
     refine wpAny_bind (wpAny_holding ?_)
     refine wpAny_bind (wpAny_tryCatch (Ct (s:={ s with heap:=h' }) ht ?_))
     rw [e']
     dsimp only
     have FA:=hd.extBut e9.extBut YW
     have Wl:=rk.keep vk
     have lk:=uW rk
     simp only [List.length_cons] at hl hz
     refine wpAny_holding (wpAny_dictSet_pairs (s:={ s with heap:=h' }) (strKind_is c.prog c.w x tk) FA (fun Vm MF Qs=>?_) (by rw [lk];exact cx (Nat.lt_of_le_of_lt (Nat.le_add_right _ _) hz)))
     have Wm:cR h' Vm:=by
      obtain ⟨ep,hd3⟩:=FA.dictAt
      obtain ⟨o,ho,hi⟩:=Heap.gE hd3
      exact .but ho hi Qs.extBut
     refine wpAny_pure ⟨Code.quiet_builtin _ qL,?_⟩
     have e1:rawInt ((i:Int)+1)=rawInt ((i+1:Nat):Int):=by congr 1
     rw [e1]
     have len:=Jl x v base
     refine ih ps (i+1) { s with heap:=Vm,toks:=s.toks+1 } (putK x v base) _ (Nat.succ.inj hl) ?_ ?_ ?_ MF (uV (rv.keep Wm) (Wl.keep Wm)) (Nat.lt_of_le_of_lt (Nat.add_le_add_right len _) (Nat.lt_of_le_of_lt (Nat.le_of_eq (Nat.add_right_comm _ _ _)) hz)) fun h3 t3 YY a1 a2 a3=>?_
     ·obtain ⟨o,ho,r⟩:=TR
      exact ⟨o,Qs.extBut _ _ (Ne.symm YW) ho,r⟩
     ·exact Qs.extBut _ _ hLD (e9.extBut _ _ Wk hL)
     ·rw [hr];exact (rr.keep vk).keep Wm
     ·refine kk h3 t3 YY (fun b o h1 h2 e=>a1 b o h1 h2 ?_) a2 a3
      exact Qs.extBut _ _ h2 (e9.extBut _ _ h1 e)
theorem Cu (O:c.Ok) (hh:A.handled=none) {L:Addr} {c2:Array Value} {m:Nat} {acc:List Val} {ps:List (Str×Val)} {T:Value→Shared→Prop} (R:Rel c D mh s.heap) (hL:s.heap.get? L=some (PySem.W.listOf c2 m)) (vs:cX s.heap acc c2.toList)
 (hp:pairsOf acc=some ps) (hl:acc.length<bw) (k:∀s' ep,aV c D mh s D (mh.set s.heap.objs.size (.ax (ps.foldl (fun es p=>putK p.1 p.2 es) []) ep)) s'→mh s.heap.objs.size=none→T (.ref s.heap.objs.size) s'):
 wpAny (model c.prog c.w) A (call (.type "dict") [.ref L]) T E s:=by
 refine callType_codes (Q₁:=fun obj s₁=>obj= .ref s.heap.objs.size∧s₁={ s with heap:=s.heap.push { cls:=.type "dict",data:=.dict #[] } }) PySem.F.kt_called_dict (PySem.F.kt_typeCall_dict_1 _) PySem.F.entry_dict_init (kt_code_dict_new _ ⟨rfl,rfl⟩) ?_
 rintro obj s₁ ⟨rfl,rfl⟩
 have TS:(s.heap.push { cls:=.type "dict",data:=.dict #[] }).DictOf (PySem.strKind c.prog c.w) s.heap.objs.size []:=Heap.DictOf.new s.heap
 have M4:(s.heap.push { cls:=.type "dict",data:=.dict #[] }).get? L=some (PySem.W.listOf c2 m):=Heap.get?_push_of_some _ hL
 have e0:=Heap.ba s.heap (Nat.le_refl _)
 have YZ:=Heap.lt_size hL
 refine ⟨TS.typeIs,PySem.F.args_dict_init_2 _ _,?_⟩
 unfold Builtin.«dict.__init__»
 refine wpAny_bind ?_
 unfold Builtin.Dict.selfAndRest
 refine wpAny_bind (wpAny_notOrdered_dict TS.typeIs ?_)
 show wpAny _ _ (pure (s.heap.objs.size,[Value.ref L])) _ _ _
 refine wpAny_pure ?_
 show wpAny _ _ (Builtin.Dict.updateFrom "dict.__init__" s.heap.objs.size (.ref L) [] .none) _ _ _
 unfold Builtin.Dict.updateFrom
 refine wpAny_bind (wpAny_typeOf (T:="list") ⟨_,M4,rfl⟩ ?_)
 rw [if_pos (by decide)]
 refine wpAny_bind (Ky (s:={ s with heap:=s.heap.push { cls:=.type "dict",data:=.dict #[] } }) M4 hh fun dT Wn kp=>?_)
 rw [if_pos (by rfl)]
 refine wpAny_bind (wpAny_rule ?_)
 have M5:dT.get? L=some (PySem.W.listOf c2 m):=kp _ _ M4
 have FA:dT.DictOf (PySem.strKind c.prog c.w) s.heap.objs.size []:=(by obtain ⟨o,es,ep,ho,r⟩:=TS;exact ⟨o,es,ep,kp _ _ ho,r⟩)
 have TU:∀b o,s.heap.get? b=some o→dT.get? b=some o:=fun b o e=>kp b o (Heap.get?_push_of_some _ e)
 refine wpAny_bind (wpAny_pyIter_list (s:={ s with heap:=dT,toks:=Wn }) ⟨_,M5,rfl,_,rfl⟩ ?_)
 have hD1:s.heap.objs.size<dT.objs.size:=(by obtain ⟨o,es,ep,ho,r⟩:=FA;exact Heap.lt_size ho)
 have eI:=Heap.ba dT (Nat.le_refl _)
 refine wpAny_pure ⟨Code.quiet_builtin _ qL,?_⟩
 have Wo:=HK hp
 have lp:ps.length=acc.length:=by rw [Wo,List.length_map]
 have Sv:∀b o,s.heap.get? b=some o→(dT.push { cls:=.type "list_iterator",data:=.fields #[.ref L,.int 0 0] }).get? b=some o:=fun b o e=>Heap.get?_push_of_some _ (TU b o e)
 refine Fz (c:=c) (A:=A.in1) (I:=dT.objs.size) (Dd:=s.heap.objs.size) hh (Nat.ne_of_lt (Heap.lt_size M5)) (Nat.ne_of_lt hD1) (Nat.ne_of_lt YZ) ps.length ps 0 _ ([]:List (Str×Val)) [] rfl
  ⟨_,Heap.get?_push_size _ rfl,rfl,rfl⟩ (Heap.get?_push_of_some _ M5) ?_ (FA.push _) rfl (by rw [List.length_nil,Nat.zero_add,lp];exact hl) fun Hn Y0 wV a1 a2 a3=>?_
 ·rw [←Wo,List.drop_zero]
  exact vs.keep (.q5 Sv)
 ·have hI0:s.heap.get? dT.objs.size=none:=Heap.ba _ (Nat.le_of_lt hD1)
  have all:∀b o,s.heap.get? b=some o→Hn.get? b=some o:=fun b o e=>a1 b o (fun q=>by rw [q,hI0] at e;exact a8 e) (fun q=>by rw [q,e0] at e;exact a8 e) (Sv b o e)
  have P:aV c D mh s D mh { s with heap:=Hn,toks:=Y0 }:=aV.ext R all
  obtain ⟨ep,Mi⟩:=a2.dictAt
  have P':=aV.takeIn (o':=.ax (ps.foldl (fun es p=>putK p.1 p.2 es) []) ep) P e0 (R.cD e0) (R.fresh e0) (fun zz zz q=>nomatch q) ⟨wV,Mi,a3⟩
  exact ⟨rfl,k _ ep P' (MH.fresh (R.fresh e0))⟩
end
section
variable {c:Cfg} {d n:Nat} {A:Around} {E:Value→Shared→Prop} {s:Shared} {sc csc:Scope} {env:Env} {ρ:Loc} {D:Addr→Addr} {mh:MH}
theorem Cv (O:c.Ok) (IE:aT c d n) (IT:cS c d n) {elt:PySem.Expr} {g:Comprehension} {gs:List Comprehension} {pos:Pos} {Q:VQ} {T:Value→Shared→Prop} (X:fy c d A s sc env ρ D mh)
 (hW:qI (aJ c d n) (dq c d n) sc ρ elt g gs csc mh fun acc gh=>aH gh (.list acc) Q) (k:KV c D mh s Q T):
 wpAny (model c.prog c.w) A (eval (.ListComp elt (g::gs) csc pos) env) T E s:=by
 refine Bp O IE IT X hW fun s₁ aK av s' D' aD acc L c2 m H' aA cO eL hL vs ni q=>?_
 have P:=aV.takeIn (o':=.list acc) cO eL (aA.rel.cD eL) ni (fun zz zz q=>nomatch q) ⟨c2,m,hL,vs⟩
 exact k _ _ (.ref L) _ _ (aA.trans P) rfl (q L (MH.fresh ni))
theorem Cw (O:c.Ok) (IE:aT c d n) (IT:cS c d n) {elt:PySem.Expr} {g:Comprehension} {gs:List Comprehension} {p wY pos:Pos} {Q:VQ} {T:Value→Shared→Prop} (X:fy c d A s sc env ρ D mh)
 (hg:dV sc "dict"=true) (hW:qI (aJ c d n) (dq c d n) sc ρ elt g gs csc mh fun acc gh=>xK gh Q acc) (k:KV c D mh s Q T):
 wpAny (model c.prog c.w) A (eval (.Call (.Name "dict" p) [.ListComp elt (g::gs) csc wY] [] pos) env) T E s:=by
 refine jM (by decide) (sX O X.c3 X.rel hg (O.bi "dict" (by decide)) boot_dict (by decide) ?_)
 refine eR (.inr ⟨_,rfl⟩) rfl (evalArgs_plain ?_)
 show wpAny _ _ (eval (.ListComp elt (g::gs) csc wY) env >>= _) _ _ _
 refine wpAny_bind (Bp O IE IT X hW fun s₁ aK av s' D' aD acc L c2 m H' aA cO eL hL vs ni q=>?_)
 refine wpAny_bind (wpAny_pure (wpAny_bind (wpAny_holding (wpAny_pure (wpAny_pure ?_)))))
 obtain ⟨h1,h2,h3⟩:=q
 exact Cu O X.ok.handled cO.rel hL vs h1 h2 fun bp ep kF hm=>k _ _ (.ref _) _ _ ((aA.trans cO).trans kF) rfl (h3 ep _ hm)
end
def eM (c:Cfg):Prop:=∀(A:Around) (d:Nat) (E:Value→Shared→Prop) (s:Shared) (D:Addr→Addr) (mh:MH) (b:Addr) (l:List Val) (xs:List Int) (Q:VQ) (T:Value→Shared→Prop),wz A d→Rel c D mh s.heap→mh b=some (.list l)→intsOf l=some xs→l.length<60→
 aH mh (.list (bj (qH (dedup xs)))) Q→KV c D mh s Q T→wpAny (model c.prog c.w) A (call (.type "set") [.ref b]) (fun u s₁=>wpAny (model c.prog c.w) A (call (.builtin "sorted") [u]) T E s₁) E s
theorem HL {sc:Scope} {args:List PySem.Expr} {a:PySem.Expr} (h:setArg sc args=some a):∃p pos,args=[.Call (.Name "set" p) [a] [] pos]∧dV sc "set"=true∧notStar a=true:=by
 cases args with
 | nil=>exact dS h
 | cons e r=>
   cases r with
   | cons _ _=>exact dS h
   | nil=>
     cases e with
     | Call f as J7 pos=>
       have h:setIn sc as J7 (nameOf f)=some a:=h
       cases hf:nameOf f with
       | none=>rw [hf] at h;exact a8 h
       | some g=>
         rw [hf] at h
         obtain ⟨p,rfl⟩:=kB hf
         cases as with
         | nil=>exact dS h
         | cons a' r=>
           cases r with
           | cons _ _=>exact dS h
           | nil=>
             have h:(bif J7.isEmpty&&((g == "set")&&(dV sc "set"&&notStar a')) then some a' else none)=some a:=h
             cases hb:(J7.isEmpty&&((g == "set")&&(dV sc "set"&&notStar a'))) with
             | false=>rw [hb] at h;exact a8 h
             | true=>
               rw [hb] at h;obtain rfl:=Option.some.inj h
               obtain ⟨h1,h2⟩:=aC hb
               obtain ⟨h2,h3⟩:=aC h2
               obtain rfl:=List.isEmpty_iff.mp h1
               obtain rfl:=beq_iff_eq.mp h2
               exact ⟨p,pos,rfl,aC h3⟩
     | _=>exact dS h
theorem FC {args:List PySem.Expr} {elt g gs csc} (h:xJ args=some (elt,g,gs,csc)):∃pos,args=[.ListComp elt (g::gs) csc pos]:=by
 cases args with
 | nil=>exact dS h
 | cons e r=>
   cases r with
   | cons _ _=>exact dS h
   | nil=>
     cases e with
     | ListComp elt' gens csc' pos=>
       cases gens with
       | nil=>exact dS h
       | cons=>cases h;exact ⟨pos,rfl⟩
     | _=>exact dS h
theorem Bq {e:PySem.Expr} {x:Str} (h:strOf e=some x):∃k p,e= .Constant (.str x) k p:=by
 cases e with
 | Constant c k p=>
   cases c with
   | str=>obtain rfl:=Option.some.inj h;exact ⟨k,p,rfl⟩
   | _=>exact dS h
 | _=>exact dS h
section
variable {c:Cfg} {d n:Nat} {A:Around} {E:Value→Shared→Prop} {s:Shared} {sc:Scope} {env:Env} {ρ:Loc} {D:Addr→Addr} {mh:MH}
theorem HM (O:c.Ok) (S:eM c) (I:aT c d n) {a:PySem.Expr} {p p' pos pos':Pos} {Q:VQ} {T:Value→Shared→Prop} (X:fy c d A s sc env ρ D mh)
 (hg:dV sc "sorted"=true) (Vn:dV sc "set"=true) (ns:notStar a=true)
 (hW:aJ c d n sc ρ a mh fun v c1=>A9 c1 Q v) (k:KV c D mh s Q T):
 wpAny (model c.prog c.w) A (eval (.Call (.Name "sorted" p) [.Call (.Name "set" p') [a] [] pos'] [] pos) env) T E s:=by
 refine jM (by decide) (sX O X.c3 X.rel hg (O.bi "sorted" (by decide)) boot_sorted (by decide) ?_)
 refine eR (.inl ⟨_,rfl⟩) rfl (evalArgs_plain ?_)
 show wpAny _ _ (eval (.Call (.Name "set" p') [a] [] pos') env >>= _) _ _ _
 refine wpAny_bind (jM (by decide) (sX O X.c3 X.rel Vn (O.bi "set" (by decide)) boot_set (by decide) ?_))
 rw [pW ns]
 refine eR (.inr ⟨_,rfl⟩) rfl (evalArgs_plain ?_)
 show wpAny _ _ (eval a env >>= _) _ _ _
 refine wpAny_bind (I.p X hW fun u s₁ v aK av bE aA bz aU=>?_)
 refine wpAny_bind (wpAny_pure (wpAny_bind (wpAny_holding (wpAny_pure (wpAny_pure ?_)))))
 obtain ⟨el,h1,h2,h3⟩:=aU
 obtain rfl:=bz
 exact wpAny_mono (S A d E s₁ aK av _ _ _ Q T X.ok aA.rel el h1 h2 h3 (k.trans aA)) (fun u bp h=>wpAny_bind (wpAny_pure (wpAny_bind (wpAny_holding (wpAny_pure (wpAny_pure h)))))) fun zz zz x=>x
theorem Cx (O:c.Ok) (S:eM c) (I:aT c d n) (J:cS c d n) {f:Str} {args:List PySem.Expr} {p pos:Pos} {Q:VQ} {T:Value→Shared→Prop} (X:fy c d A s sc env ρ D mh) (o3:args.all notStar=true) (o4:uQ f=true) (o5:dV sc f=true)
 (hW:uT c d sc (aJ c d n sc ρ) (qI (aJ c d n) (dq c d n) sc ρ) f args mh Q) (k:KV c D mh s Q T):wpAny (model c.prog c.w) A (eval (.Call (.Name f p) args [] pos) env) T E s:=by
 unfold uT at hW
 cases h1:f == "sorted" with
 | true=>
   rw [h1] at hW
   obtain rfl:=beq_iff_eq.mp h1
   have hS:Jb (aJ c d n sc ρ) (setArg sc args) mh Q:=hW
   cases h2:setArg sc args with
   | none=>rw [h2] at hS;exact False.elim hS
   | some a=>
     rw [h2] at hS
     obtain ⟨p',pos',rfl,g1,g2⟩:=HL h2
     exact HM O S I X o5 g1 g2 hS k
 | false=>
   rw [h1] at hW
   cases h2:f == "dict" with
   | true=>
     rw [h2] at hW
     obtain rfl:=beq_iff_eq.mp h2
     have hS:Sp (qI (aJ c d n) (dq c d n) sc ρ) (xJ args) mh Q:=hW
     cases h2:xJ args with
     | none=>rw [h2] at hS;exact False.elim hS
     | some a=>
       rw [h2] at hS
       obtain ⟨wY,rfl⟩:=FC (elt:=a.1) (g:=a.2.1) (gs:=a.2.2.1) (csc:=a.2.2.2) h2
       exact Cw O I J X o5 hS k
   | false=>
     rw [h2] at hW
     cases h3:Mw f with
     | true=>rw [h3] at hW;exact Hx O I X h3 o4 o5 o3 hW k
     | false=>rw [h3] at hW;exact Hy O I X o4 o5 hW.1 o3 hW.2 k
theorem Cy (O:c.Ok) (I:aT c d n) {o:PySem.Expr} {m:Str} {args:List PySem.Expr} {apos pos:Pos} {Q:VQ} {T:Value→Shared→Prop} (X:fy c d A s sc env ρ D mh) (o2:args.length<29) (o3:args.all notStar=true) (o4:baseOk o=true) (o5:(apos.endLine == pos.line)=true)
 (hW:uU c d (aJ c d n sc ρ) o m args mh Q) (k:KV c D mh s Q T):wpAny (model c.prog c.w) A (eval (.Call (.Attribute o m apos) args [] pos) env) T E s:=by
 unfold uU at hW
 cases h1:m == "replace" with
 | false=>rw [h1] at hW;exact Cn O I X o4 o3 o2 o5 hW k
 | true=>
   rw [h1] at hW
   obtain rfl:=beq_iff_eq.mp h1
   cases args with
   | nil=>exact False.elim hW
   | cons a r=>
     cases r with
     | nil=>exact False.elim hW
     | cons b r=>
       cases r with
       | cons _ _=>exact False.elim hW
       | nil=>
         have hS:Sq (aJ c d n sc ρ o mh) (strOf a) (strOf b) Q:=hW
         cases ha:strOf a with
         | none=>rw [ha] at hS;exact False.elim hS
         | some x=>
           cases hb:strOf b with
           | none=>rw [ha,hb] at hS;exact False.elim hS
           | some y=>
             rw [ha,hb] at hS
             obtain ⟨k1,p1,rfl⟩:=Bq ha
             obtain ⟨k2,p2,rfl⟩:=Bq hb
             exact wW I X o4 o5 hS k
theorem M6 (O:c.Ok) (S:eM c) (I:aT c d n) (J:cS c d n) {f:PySem.Expr} {args:List PySem.Expr} {J7:List Keyword} {pos:Pos} {Q:VQ} {T:Value→Shared→Prop} (X:fy c d A s sc env ρ D mh)
 (hW:aJ c d (n+1) sc ρ (.Call f args J7 pos) mh Q) (k:KV c D mh s Q T):wpAny (model c.prog c.w) A (eval (.Call f args J7 pos) env) T E s:=by
 obtain ⟨ok,h0⟩:=bT hW
 clear hW
 obtain ⟨o1,yr⟩:=aC ok
 obtain ⟨o2,o3⟩:=aC yr
 obtain rfl:=List.isEmpty_iff.mp o1
 cases f with
 | Name f p=>obtain ⟨Wq,h1⟩:=bT h0;exact Cx O S I J X o3 (aC Wq).1 (aC Wq).2 h1 k
 | Attribute o m apos=>obtain ⟨Wq,h1⟩:=bT h0;exact Cy O I X (wC o2) o3 (aC Wq).1 (aC Wq).2 h1 k
 | _=>exact False.elim h0
theorem Kz (O:c.Ok) (S:eM c) (I:aT c d n) (J:cS c d n):aT c d (n+1):=by
 intro A E s sc env ρ D mh e Q T X hW k
 cases e with
 | Constant=>exact Kj X.rel hW k
 | Name x pos=>
   obtain ⟨ok,hW⟩:=bT hW
   obtain ⟨o1,o2⟩:=aC ok
   exact wpAny_Name (My O X.c3 X.rel hW (Bool.not_eq_true' _▸o2) fun u v r q=>k.same X.rel r q) (Bool.not_eq_true' _▸o1)
 | BoolOp=>rw [arm_eval_BoolOp];exact yd I X hW k
 | BinOp l op r pos=>
   exact wpAny_BinOp (I.p X hW fun u s₁ v aK av bE aA bz aU=>I.p (X.next bE aA) aU fun TG bp Ql cA a6 gG cO oh dX=>Qg O X.ok cO.rel (bz.keep cO.vk) oh dX (k.trans (aA.trans cO)))
 | UnaryOp op x pos=>
   refine wpAny_UnaryOp (I.p X hW fun u s₁ v aK av bE aA bz aU=>?_)
   cases op with
   | Not=>obtain ⟨q⟩:=(show jF _ v from aU);obtain rfl:=bz;exact MP (k _ _ (.bool _) _ _ aA rfl q)
   | USub=>obtain ⟨q⟩:=(show P7 _ v from aU);obtain ⟨t,rfl⟩:=bz;exact PyProof.Rows.neg_int ((k.trans aA).tok aA.rel .ofInt q)
   | _=>exact False.elim aU
 | IfExp t a b pos=>
   refine wpAny_IfExp (J.p X hW fun r s₁ aK av bE aA aU=>?_)
   cases r with
   | true=>exact I _ _ _ _ _ _ _ _ _ _ _ (X.next bE aA) aU (k.trans aA)
   | false=>exact I _ _ _ _ _ _ _ _ _ _ _ (X.next bE aA) aU (k.trans aA)
 | Compare=>exact Fm O I X hW fun b s' D' aD p q=>k _ _ (.bool b) _ _ p rfl q
 | Tuple=>exact tc I X hW k
 | List=>exact uY I X hW k
 | Dict=>exact u1 I X hW k
 | Attribute=>exact z7 O I X hW k
 | Subscript=>exact z8 I X hW k
 | ListComp elt gens csc pos=>
   cases gens with
   | nil=>exact False.elim hW
   | cons=>exact Cv O I J X hW k
 | Call=>exact M6 O S I J X hW k
 | _=>exact False.elim hW
theorem KA (O:c.Ok) (I:aT c d n) (J:cS c d n):cS c d (n+1):=by
 intro A E s sc env ρ D mh e Q T X hW k
 have dflt:(aJ c d n sc ρ e mh fun v c1=>jF (fun b=>Q b c1) v)→
  wpAny (model c.prog c.w) A (do let v ←eval e env;standAt e.pos;holding [v] (truthy v)) T E s:=fun hW=>by
  refine wpAny_bind (I.p X hW fun u s₁ v aK av bE aA bz aU=>wpAny_bind (wpAny_standAt (wpAny_holding ?_)))
  obtain ⟨q⟩:=aU
  obtain rfl:=bz
  exact wpAny_truthy_bool (k _ _ _ _ aA q)
 cases e with
 | UnaryOp op x pos=>
   cases op with
   | Not=>exact wpAny_isTrue_Not (J.p X hW fun b s₁ aK av bE aA aU=>k _ _ _ _ aA aU)
   | _=>exact dflt hW
 | BoolOp=>exact Qk J X hW k
 | Compare=>exact Cj O I X hW k
 | IfExp=>exact False.elim hW
 | _=>exact dflt hW
theorem yt (O:c.Ok) (S:eM c):∀n,aT c d n∧cS c d n
 | 0=>⟨fun zz zz zz zz zz zz zz zz zz zz zz zz h zz=>False.elim h,fun zz zz zz zz zz zz zz zz zz zz zz zz h zz=>False.elim h⟩
 | n+1=>let ⟨a,b⟩:=yt O S n;⟨Kz O S a b,KA O a b⟩
end
section
variable {c:Cfg} {d n:Nat} {A:Around} {E:Value→Shared→Prop} {s:Shared} {sc csc:Scope} {env:Env} {ρ:Loc} {D:Addr→Addr} {mh:MH}
theorem HN (O:c.Ok) (IE:aT c d n) (IT:cS c d n) {elt:PySem.Expr} {g:Comprehension} {gs:List Comprehension} {pos px:Pos} {x:Str} {Q:VQ} {T:Unit→Shared→Prop} (X:fy c d A s sc env ρ D mh) (hv:dz sc x=true)
 (hW:qI (aJ c d n) (dq c d n) sc ρ elt g gs csc mh fun acc gh=>aH gh (.list acc) Q)
 (k:∀v s' D' aD,After c (q6 env) sc env D mh s (ρ.put x v) D' aD s'→Q v aD→T () s'):
 wpAny (model c.prog c.w) A (evalThenUse (.ListComp elt (g::gs) csc pos) env fun v=>assignAll v [assign (.Name x px) env]) T E s:=by
 show wpAny _ _ (comprehension (.ListComp elt (g::gs) csc pos) csc env (firstIterPos (g::gs) pos) (newList []) (firstAsync (g::gs)) (firstIter (g::gs) env) (some fun v=>assignAll v [assign (.Name x px) env]) >>= fun zz=>pure ()) _ _ _
 have V:=X.c3
 refine wpAny_bind (Fy O IE IT X hW fun s₁ aK av C I L bp cA a6 acc c2 m ns gG aA Mk eC eL eI YU M1 vs nL nC hn q=>?_)
 show wpAny _ _ (assign (.Name x px) env (.ref L)) _ _ _
 have jo:=V.sW aA
 have Y1:∀a,q6 env a→¬CX C L I a:=fun a f q=>by
  obtain ⟨o,ho⟩:=jo.alive a f
  rcases q with rfl | rfl | rfl
  ·exact bQ ho eC
  ·exact bQ ho eL
  ·exact bQ ho eI
 have MX:=jo.post Mk Y1
 have P2:=aV.takeIn (o':=.list acc) Mk eL (aA.rel.cD eL) nL (fun zz zz q=>nomatch q) ⟨c2,m,M1,vs⟩
 have Wr:dU c sc env ρ cA (a6.set L (.list acc)) bp.heap:=jo.post P2 Y1
 refine PyProof.Rows.assign_Name (gX u3.full ⟨X.ok,gG,P2.rel,Wr⟩ hv (v:=.ref L) rfl fun iF rj=>?_)
 have nC':¬In cA (a6.set L (.list acc)) C:=fun i=>by
  rcases i with ⟨o,ho⟩ | ⟨b,C',fs,hb,e⟩
  ·by_cases h:C=L
   ·exact YU h.symm
   ·rw [MH.ae _ _ h] at ho;exact nC (.inl ⟨_,ho⟩)
  ·by_cases h:b=L
   ·subst h;rw [MH.set_same] at hb;cases hb
   ·rw [MH.ae _ _ h] at hb;exact nC (.inr ⟨b,C',fs,hb,e⟩)
 have nFC:¬q6 env C:=fun f=>Y1 C f (.inl rfl)
 obtain ⟨oC,es,ep,Wh,Vo,r⟩:=hn
 have M7:iF.heap.get? C=some oC:=rj.post.keep C oC Wh nC' nFC
 refine ⟨ns,⟨oC,es,ep,M7,Vo,r⟩,fun h' e9=>wpAny_pure ?_⟩
 have YV:=aA.rel.cD eC
 have Ws:¬In cA (a6.set L (.list acc)) C:=nC'
 have p3:a9 c (·=C) cA (a6.set L (.list acc)) iF cA (a6.set L (.list acc)) { iF with heap:=h',toks:=iF.toks }:=aV.but rj.post.rel M7 (bD Vo) Ws YV rfl e9.extBut
 have Qn:=rj.c3.post p3 fun a f q=>nFC (q▸f)
 refine k (.ref L) { iF with heap:=h' } cA (a6.set L (.list acc)) ⟨rj.pos,?_,Qn⟩ (q L (MH.fresh nL))
 -- from s₁ on,TV turned is fresh or the XX
 have q12:a9 c (fun a=>CX C L I a∨q6 env a) aK av s₁ cA (a6.set L (.list acc)) bp:=P2.mono fun a q=>.inl q
 have whole:a9 c (fun a=>CX C L I a∨q6 env a) aK av s₁ cA (a6.set L (.list acc)) { iF with heap:=h',toks:=iF.toks }:=by
  refine ⟨?_,p3.rel,fun a o e ni nx=>?_,fun a i=>P2.own a i,(P2.vk.trans rj.post.vk).trans p3.vk⟩
  ·obtain ⟨h1,t1,d1,e1⟩:=P2.st
   obtain ⟨h2,t2,d2,e2⟩:=rj.post.st
   exact ⟨h',iF.toks,d2,by rw [e2,e1]⟩
  ·have e2:=P2.keep a o e ni fun q=>nx (.inl q)
   have ni2:¬In cA (a6.set L (.list acc)) a:=fun i=>(P2.own a i).elim ni fun q=>(by exact bQ e q)
   have e3:=rj.post.keep a o e2 ni2 fun f=>nx (.inr f)
   exact e9.extBut a o (fun q=>nx (.inl (.inl q))) e3
 have TX:a9 c (q6 env) aK av s₁ cA (a6.set L (.list acc)) { iF with heap:=h',toks:=iF.toks }:=whole.hide fun a q=>by
  rcases q with (rfl | rfl | rfl) | f
  ·exact .inr eC
  ·exact .inr eL
  ·exact .inr eI
  ·exact .inl f
 exact (aA.mono fun a q=>q.elim).ey TX jo.alive
theorem filter_all {α β:Type} {f:α→Option β} {l:List α}:(l.filterMap f).length=l.length→l.mapM f=some (l.filterMap f):=by
 induction l with
 | nil=>
   rintro _
   exact rfl
 | cons a l ih=>
   rintro h
   cases e:f a with
   | none=>
     rw [List.filterMap_cons_none e] at h
     have:=List.length_filterMap_le f l
     rw [h] at this
     exact absurd this (Nat.not_succ_le_self _)
   | some b=>
     rw [List.filterMap_cons_some e] at h⊢
     rw [List.mapM_cons,e,ih (Nat.succ.inj h)]
     rfl
theorem HO {f:PySem.Expr→Option Str} (hf:∀e x,f e=some x→nameOf e=some x) {l:List PySem.Expr}:∀{xs:List Str},l.mapM f=some xs→l.mapM nameOf=some xs:=by
 induction l with
 | nil=>rintro xs h;obtain rfl:=Option.some.inj h;rfl
 | cons e l ih=>
   rintro xs h
   obtain ⟨x,V3,e1,e2,rfl⟩:=mapM_cons h
   rw [List.mapM_cons,hf _ _ e1,ih e2]
   rfl
def Sw (ts:List PySem.Expr) (x:Sem (Option (List Str))):Prop:=x=pure none∨∃xs,x=pure (some xs)∧ts.mapM nameOf=some xs
theorem Sw.ite {ts:List PySem.Expr} {b:Bool} {x:Sem (Option (List Str))} (h:b=false→Sw ts x):Sw ts (if b=true then pure none else x):=by
 cases b
 ·exact h rfl
 ·exact .inl rfl
theorem Ab {ts vs:List PySem.Expr} {k k':Nat} {p p':Pos} (h1:(!(vs.all (constantsAlone 8)) || vs.all (foldedForSure 8))=true):Sw ts (swappedStores [.Tuple ts k p] (.Tuple vs k' p') env):=by
 unfold swappedStores
 refine Sw.ite fun zz=>Sw.ite fun zz=>Sw.ite fun hl=>Sw.ite fun hf=>?_
 rw [hf,Bool.or_false,Bool.not_eq_true'] at h1
 rw [h1]
 have fa:=filter_all (bne_eq_false_iff_eq.mp (Bool.or_eq_false_iff.mp hl).1)
 refine .inr ⟨_,rfl,HO (fun e x he=>?_) fa⟩
 cases e with
 | Name y py=>
   dsimp only at he
   split at he
   ·exact he
   ·exact a8 he
 | _=>exact dS he
theorem Ac {t e:PySem.Expr} (h:Cf sc t e=true):swappedStores [t] e env=pure none∨∃ts k p xs,t= .Tuple ts k p∧swappedStores [t] e env=pure (some xs)∧ts.mapM nameOf=some xs∧xs.Nodup:=by
 cases t with
 | Tuple ts k p=>
   cases e with
   | Tuple vs k' p'=>
     obtain ⟨h1,h2⟩:=aC (aC (aC h).2).2
     refine (Ab h1).imp id fun ⟨xs,e1,e2⟩=>⟨ts,k,p,xs,rfl,e1,e2,?_⟩
     have h2:(((ts.mapM nameOf).getD []).Nodup):=wC h2
     rw [e2] at h2
     exact h2
   | _=>exact .inl rfl
 | List=>exact (Bool.false_ne_true h).elim
 | _=>exact .inl rfl
theorem M8 {x y:Str} {v w:Val} (h:x≠y):(ρ.put x v).put y w=(ρ.put y w).put x v:=by
 funext z
 by_cases h1:z=y
 ·exact (if_pos h1).trans ((if_neg fun q=>h (q.symm.trans h1)).trans (if_pos h1)).symm
 ·by_cases h2:z=x
  ·exact (if_neg h1).trans ((if_pos h2).trans (if_pos h2).symm)
  ·exact (if_neg h1).trans ((if_neg h2).trans ((if_neg h2).trans (if_neg h1)).symm)
theorem M9 {xs:List Str}:∀{vs:List Val} {ρ:Loc} {x:Str} {v:Val},x∉xs→(ρ.put x v).gF xs vs=(ρ.gF xs vs).put x v:=by
 induction xs with
 | nil=>
   rintro _ _ _ _ _
   exact rfl
 | cons y xs ih=>
   intro wX
   cases wX with
   | nil=>
     rintro _ _ _ _
     exact rfl
   | cons w vs=>
     rintro ρ x v h
     show ((ρ.put x v).put y w).gF xs vs=((ρ.put y w).gF xs vs).put x v
     rw [M8 fun (q:x=y)=>h (q▸List.mem_cons_self ..),ih fun q=>h (List.mem_cons_of_mem _ q)]
theorem KC {xs:List Str}:∀{vs:List Val} {ρ:Loc} {x:Str} {v:Val},xs.length=vs.length→ρ.gF (xs++[x]) (vs++[v])=(ρ.gF xs vs).put x v:=by
 induction xs with
 | nil=>
   intro wX
   cases wX with
   | nil=>
     rintro _ _ _ _
     exact rfl
   | cons p_ l_=>
     rintro _ _ _ h
     exact nomatch h
 | cons y xs ih=>
   intro wX
   cases wX with
   | nil=>
     rintro _ _ _ h
     exact nomatch h
   | cons w vs=>
     rintro ρ x v h
     exact ih (Nat.succ.inj h)
theorem Na {xs:List Str}:∀{vs:List Val} {ρ:Loc},xs.Nodup→xs.length=vs.length→ρ.gF xs.reverse vs.reverse=ρ.gF xs vs:=by
 induction xs with
 | nil=>
   intro wX
   cases wX with
   | nil=>
     rintro _ _ _
     exact rfl
   | cons p_ l_=>
     rintro _ _ h
     exact nomatch h
 | cons x xs ih=>
   intro wX
   cases wX with
   | nil=>
     rintro _ _ h
     exact nomatch h
   | cons v vs=>
     rintro ρ hn h
     rw [List.nodup_cons] at hn
     rw [List.reverse_cons,List.reverse_cons,KC (by rw [List.length_reverse,List.length_reverse];exact Nat.succ.inj h),ih hn.2 (Nat.succ.inj h)]
     exact (M9 hn.1).symm
theorem KD {X:Addr→Prop} (hX:u3 sc env X) {xs:List Str}:∀{vs:List Val} {us:List Value} {s:Shared} {ρ:Loc} {T:Unit→Shared→Prop},fy c d A s sc env ρ D mh→
 xs.all (dz sc)=true→xs.length=vs.length→cX s.heap vs us→
 (∀s',After c X sc env D mh s (ρ.gF xs vs) D mh s'→T () s')→wpAny (model c.prog c.w) A (assignInOrder (xs.map fun x=>bindName env x) us) T E s:=by
 induction xs with
 | nil=>
   intro wX
   cases wX with
   | nil=>
     rintro us s ρ T Y _ hl r k
     obtain rfl:=r;exact wpAny_pure (k s (.refl Y))
   | cons p_ l_=>
     rintro us s ρ T Y _ hl r k
     exact nomatch hl
 | cons x xs ih=>
   intro wX
   cases wX with
   | nil=>
     rintro us s ρ T Y _ hl r k
     exact nomatch hl
   | cons v vs=>
     rintro us s ρ T Y ok hl r k
     obtain ⟨u,r',rfl,ru,rr⟩:=r
     show wpAny _ _ (assignInOrder ((fun u=>bindName env x u)::xs.map fun x=>bindName env x) (u::r')) _ _ _
     refine wpAny_bind (wpAny_holding (wpAny_bindName (gX hX Y (aC ok).1 ru fun s₁ gY=>?_)))
     exact ih (gY.Kt Y.ok) (aC ok).2 (Nat.succ.inj hl) (rr.keep gY.post.vk) fun bp iG=>k bp (gY.trans hX iG)
theorem Qt {ev:Loc→PySem.Expr→MH→VQ→Prop} {ts:List PySem.Expr}:∀{xs:List Str} {vs:List Val} {ρ:Loc} {Q:Loc→MH→Prop},ts.mapM nameOf=some xs→jK ev sc ts vs ρ mh Q→
 xs.all (dz sc)=true∧xs.length=vs.length∧Q (ρ.gF xs vs) mh:=by
 induction ts with
 | nil=>
   rintro _ wX
   cases wX with
   | nil=>
     rintro ρ Q e h
     obtain rfl:=Option.some.inj e;exact ⟨rfl,rfl,h⟩
   | cons p_ l_=>
     rintro ρ Q _ h
     exact False.elim h
 | cons t ts ih=>
   rintro xs wX
   cases wX with
   | nil=>
     rintro ρ Q _ h
     exact False.elim h
   | cons v vs=>
     rintro ρ Q e h
     obtain ⟨x,V3,e1,e2,rfl⟩:=mapM_cons e
     obtain ⟨p,rfl⟩:=kB e1
     obtain ⟨hv,h⟩:=bT (show fu (dz sc x) (jK ev sc ts vs (ρ.put x v) mh Q) from h)
     obtain ⟨h1,h2,h3⟩:=ih e2 h
     exact ⟨Bool.and_eq_true_iff.mpr ⟨hv,h1⟩,congrArg (·+1) h2,h3⟩
theorem Cz (O:c.Ok) (I:aT c d n) {t e:PySem.Expr} {v:Val} {u:Value} {Q:Loc→MH→Prop} {T:Flow→Shared→Prop} (X:fy c d A s sc env ρ D mh) (os:Cf sc t e=true) (r:VR s.heap v u)
 (hW:i5 (fun cN=>aJ c d n sc cN) sc t v ρ mh Q) (k:∀cN s' D' aD,After c (q6 env) sc env D mh s cN D' aD s'→Q cN aD→T .next s'):
 wpAny (model c.prog c.w) A (swappedStores [t] e env >>= fun sw=>assignStores env u sw ((assignEach [t] env).map (·.2))) T E s:=by
 have star:assignEach [t] env=[(false,assign t env)]:=by
  cases t<;>first | rfl | exact (Bool.false_ne_true os).elim
 rcases Ac (env:=env) os with e0 | ⟨ts,kd,px,xs,rfl,e0,hn,hd⟩
 ·rw [e0,star]
  refine wpAny_bind (wpAny_pure ?_)
  show wpAny _ _ (assign t env u >>= fun zz=>pure Flow.next) _ _ _
  exact wpAny_bind (ym u3.full O I X r hW fun cN bp cA a6 iG dX=>wpAny_pure (k cN bp cA a6 iG dX))
 ·rw [e0]
  refine wpAny_bind (wpAny_pure ?_)
  ·obtain ⟨_,h0⟩:=bT hW
   obtain ⟨vs,rfl,_,h0⟩:=Cc h0
   obtain ⟨h1,h2,h3⟩:=Qt hn h0
   obtain ⟨a,c2,rfl,ht,rs⟩:=r
   show wpAny _ _ (rule "assign.swapped-stores" >>= fun zz=>unpackItems (.ref a) xs.length none >>= fun items=>assignInOrder (xs.reverse.map fun n=>bindName env n) items.reverse >>= fun zz=>pure Flow.next) _ _ _
   refine wpAny_bind (wpAny_rule ?_)
   rw [h2,←rs.size]
   refine wpAny_bind (PyProof.Rows.unpackItems_tuple X.ok.handled ht fun h' x=>wpAny_bind ?_)
   have P:aV c D mh s D mh { s with heap:=h',toks:=s.toks }:=aV.ext X.rel (Jn x)
   refine KD (s:={ s with heap:=h' }) u3.full (X.next X.pos P) (by rw [List.all_reverse];exact h1) (by rw [List.length_reverse,List.length_reverse];exact h2) (rs.keep P.vk).reverse fun iF rj=>wpAny_pure ?_
   rw [Na hd h2] at rj
   exact k _ iF D mh (rj.ext u3.full X P) h3
theorem Qu {t e:PySem.Expr} {line:Nat} (hc:¬∃elt g gs csc wY x px,e= .ListComp elt (g::gs) csc wY∧t= .Name x px) {Q:VQ} (hW:aJ c d (n+1) sc ρ e mh Q):swapsWithSole [t] e line env=pure false:=by
 show swapsWith e (some t) line env=pure false
 cases e with
 | ListComp elt gens csc wY=>
   cases gens with
   | nil=>exact False.elim hW
   | cons g gs=>
     cases t with
     | Name x px=>exact absurd ⟨elt,g,gs,csc,wY,x,px,rfl,rfl⟩ hc
     | _=>rfl
 | SetComp _ _ _ _=>exact False.elim hW
 | DictComp _ _ _ _ _=>exact False.elim hW
 | _=>rfl
theorem yu (O:c.Ok) (I:aT c d (n+1)) (IE:aT c d n) (IT:cS c d n) {t e:PySem.Expr} {pos:Pos} {Q:Loc→MH→Prop} {T:Flow→Shared→Prop} (X:fy c d A s sc env ρ D mh) (os:Cf sc t e=true)
 (hW:aJ c d (n+1) sc ρ e mh fun v c1=>i5 (fun cN=>aJ c d (n+1) sc cN) sc t v ρ c1 Q) (k:∀cN s' D' aD,After c (q6 env) sc env D mh s cN D' aD s'→Q cN aD→T .next s'):
 wpAny (model c.prog c.w) A (exec (.Assign [t] e pos) env) T E s:=by
 rw [PyProof.Rows.exec_Assign]
 refine wpAny_bind (wpAny_standAt ?_)
 have normal:wpAny (model c.prog c.w) A (do
  let v ←eval e env
  assignStores env v (←swappedStores [t] e env) ((assignEach [t] env).map (·.2))) T E s:=
  wpAny_bind (I.p X hW fun u s₁ v aK av bE aA bz aU=>Cz O I (X.next bE aA) os bz aU fun cN bp cA a6 iG dX=>k cN bp cA a6 ((After.of X.c3 bE aA).trans u3.full iG) dX)
 by_cases hc:∃elt g gs csc wY x px,e= .ListComp elt (g::gs) csc wY∧t= .Name x px
 ·obtain ⟨elt,g,gs,csc,wY,x,px,rfl,rfl⟩:=hc
  have e1:swapsWithSole [.Name x px] (.ListComp elt (g::gs) csc wY) pos.line env=pure (env.blockKind == .function&&env.kindOf x == some .local&&px.line == (PySem.Expr.ListComp elt (g::gs) csc wY).pos.line
   && !(csc.names.any fun (n,k)=>n == x&&(k == .local || k == .cell))):=rfl
  rw [e1]
  refine wpAny_bind (wpAny_pure ?_)
  split
  ·have os:dz sc x=true:=os
   have hW:qI (aJ c d n) (dq c d n) sc ρ elt g gs csc mh fun acc gh=>aH gh (.list acc) fun v c1=>fu (dz sc x) (Q (ρ.put x v) c1):=hW
   rw [os] at hW
   exact wpAny_bind (HN O IE IT X os hW fun v s' D' aD a q=>wpAny_pure (k _ s' D' aD a q))
  ·exact normal
 ·rw [Qu hc hW]
  refine wpAny_bind (wpAny_pure ?_)
  rw [if_neg Bool.false_ne_true]
  exact normal
end
structure KS (c:Cfg) (sc:Scope) (env:Env) (D:Addr→Addr) (mh:MH) (s:Shared) (Q:SQ) (T:Flow→Shared→Prop):Prop where
 next:∀cN s' D' aD,After c (q6 env) sc env D mh s cN D' aD s'→Q none cN aD→T .next s'
 ret:∀u v cN s' D' aD,After c (q6 env) sc env D mh s cN D' aD s'→VR s'.heap v u→Q (some v) cN aD→T (.ret u) s'
def p4 (c:Cfg) (d n:Nat):Prop:=∀(A:Around) (E:Value→Shared→Prop) (s:Shared) (sc:Scope) (env:Env) (ρ:Loc) (D:Addr→Addr) (mh:MH) (st:Stmt) (Q:SQ) (T:Flow→Shared→Prop),
 fy c d A s sc env ρ D mh→gy c d n sc st ρ mh Q→KS c sc env D mh s Q T→wpAny (model c.prog c.w) A (exec st env) T E s
section
variable {c:Cfg} {d n:Nat} {A:Around} {E:Value→Shared→Prop} {s:Shared} {sc:Scope} {env:Env} {ρ:Loc} {D:Addr→Addr} {mh:MH}
theorem KS.trans {s₁:Shared} {aK av yj} {Q:SQ} {T:Flow→Shared→Prop} (k:KS c sc env D mh s Q T) (a:After c (q6 env) sc env D mh s yj aK av s₁):KS c sc env aK av s₁ Q T:=
 ⟨fun cN s' D' aD b q=>k.next _ _ _ _ (a.trans u3.full b) q,fun u v cN s' D' aD b r q=>k.ret _ _ _ _ _ _ (a.trans u3.full b) r q⟩
theorem gR (Y:p4 c d n) {l:List Stmt}:∀{s:Shared} {ρ:Loc} {D:Addr→Addr} {mh:MH} {Q:SQ} {T:Flow→Shared→Prop},fy c d A s sc env ρ D mh→
 eA (gy c d n sc) l ρ mh Q→KS c sc env D mh s Q T→wpAny (model c.prog c.w) A (execs l env) T E s:=by
 induction l with
 | nil=>
   rintro s ρ D mh Q T X hW k
   exact wpAny_execs_nil (k.next _ _ _ _ (.refl X) hW)
 | cons st l ih=>
   rintro s ρ D mh Q T X hW k
   exact wpAny_execs_cons (Y A E s sc env ρ D mh st _ _ X hW ⟨fun cN s' D' aD a q=>ih (a.Kt X.ok) q (k.trans a),fun u v cN s' D' aD a r q=>k.ret u v cN s' D' aD a r q⟩)
theorem Nb {ok:MH→Prop} {turn:Val→St→MH→aE→Prop} {l:List Val} {ρ:St} {mh:MH} {Q:aE} (h:E8 ok turn l ρ mh Q):ok mh:=by cases l<;>exact h.1
theorem Qv (O:c.Ok) (I:aT c d n) (Y:p4 c d n) {t e:PySem.Expr} {body:List Stmt} {pos:Pos} {Q:SQ} {T:Flow→Shared→Prop} (X:fy c d A s sc env ρ D mh) (op:jG e=true)
 (hW:aJ c d n sc ρ e mh fun src c1=>dc (fun x vs aD Q'=>i5 (fun cN=>aJ c d n sc cN) sc t x (L (slots sc) vs) aD fun cN jn=>eA (gy c d n sc) body cN jn fun f cN jn=>Q' f (nY sc cN) jn) src (nY sc ρ) c1 fun f vs gh=>Q f (L (slots sc) vs) gh)
 (k:KS c sc env D mh s Q T):wpAny (model c.prog c.w) A (exec (.For t e body [] pos) env) T E s:=by
 have HA:=X.ok
 refine wpAny_For (I.p X hW fun u s₁ src aK av bE aA bz aU=>?_) (q9 op)
 obtain ⟨full,st,aU⟩:=aU
 have iE:=X.next bE aA
 refine u2 O aA.rel bz (Nb aU) fun uH hit=>?_
 have eI:=Heap.ba s₁.heap (Nat.le_refl _)
 have P:aV c aK av s₁ aK av { s₁ with heap:=s₁.heap.push uH,toks:=s₁.toks }:=aV.push aA.rel
 have gY:After c (q6 env) sc env D mh s ρ aK av s₁:=.of X.c3 bE aA
 let XI:Addr→Prop:=fun a=>q6 env a∨a=s₁.heap.objs.size
 generalize Wt:(fun (x:Val) (vs:St) (aD:MH) (Q':aE)=>i5 (fun cN=>aJ c d n sc cN) sc t x (L (slots sc) vs) aD fun cN jn=>eA (gy c d n sc) body cN jn fun f cN jn=>Q' f (nY sc cN) jn)=turn at aU
 have fin:∀{s':Shared} {cN D' aD},After c XI sc env aK av s₁ cN D' aD s'→After c (q6 env) sc env D mh s cN D' aD s':=fun b=>
  gY.trans u3.full ⟨b.pos,b.post.hide fun a q=>q.elim .inl fun q=>.inr (q▸eI),b.c3⟩
 refine codeAny_forLoop_any (fun m s'=>∃rest vs D' aD i,rest.length=m∧full.drop i=rest∧After c XI sc env aK av s₁ (L (slots sc) vs) D' aD s'∧gi c env D' aD s'.heap u src st s₁.heap.objs.size i∧
  E8 (fun m=>Walk m src full st) turn rest vs aD fun f vs gh=>Q f (L (slots sc) vs) gh) (fun m jl hI=>?_) full.length
  ⟨full,nY sc ρ,aK,av,0,rfl,rfl,⟨bE,P.mono fun a q=>q.elim,(iE.c3.sW P).free fun zz zz=>J6⟩,⟨yn.fresh aA.rel iE.c3 eI,bz.keep P.vk,hit⟩,aU⟩
 obtain ⟨rest,vs,D',aD,i,rfl,hdr,KG,qM,yp⟩:=hI
 have Wu:=KG.c3
 have al:∀a,XI a→∃o,jl.heap.get? a=some o:=fun a q=>q.elim (Wu.alive a) fun q=>q▸qM.alive
 obtain ⟨oI,PB,iI⟩:=qM.it.alive
 have stepI:∀h' t',0<t'→Heap.ExtBut s₁.heap.objs.size jl.heap h'→After c XI sc env aK av s₁ (L (slots sc) vs) D' aD { jl with heap:=h',toks:=t' }∧a9 c (·=s₁.heap.objs.size) D' aD jl D' aD { jl with heap:=h',toks:=t' }:=fun h' t' ht xb=>
  have p:a9 c (·=s₁.heap.objs.size) D' aD jl D' aD { jl with heap:=h',toks:=t' }:=aV.but KG.post.rel PB iI qM.iH.Su qM.iH.base rfl xb
  ⟨⟨ht,KG.post.ey (p.mono fun a q=>.inr q) al,Wu.post p fun a f q=>qM.iH.fr (q▸f)⟩,p⟩
 refine wpAny_with_toks (n:=jl.toks) (Nat.le_refl _) (Fs HA.handled KG.post.rel qM.val (Nb yp) qM.it ⟨fun x u' h' t' hx rx yi xb le=>?_,fun h' hx xb le=>?_⟩)
 ·obtain ⟨Nc,cO⟩:=stepI h' t' (Nat.lt_of_lt_of_le KG.pos le) xb
  have Nd:gi c env D' aD h' u src st s₁.heap.objs.size (i+1):=⟨qM.iH.post cO qM.alive,qM.val.keep cO.vk,yi⟩
  obtain ⟨xs,rfl,Y3,uX⟩:=Bn hdr hx
  have yp:=yp.2
  subst Wt
  dsimp only
  refine Bl (s:={ jl with heap:=h',toks:=t' }) yi ?_
  refine ym (s:={ jl with heap:=h',toks:=t' }) u3.full O I (Nc.Kt HA) rx yp fun ρ₃ iF Fn s9 rj z9=>?_
  have al2:∀a,XI a→∃o,h'.get? a=some o:=fun a q=>q.elim (Nc.c3.alive a) fun q=>q▸gi.alive Nd
  have Nf:gi c env Fn s9 iF.heap u src st s₁.heap.objs.size (i+1):=gi.post (s:={ jl with heap:=h',toks:=t' }) Nd rj.post Nd.iH.fr
  have XY:∀a,XI a→∃o,iF.heap.get? a=some o:=fun a q=>q.elim (rj.c3.alive a) fun q=>q▸Nf.alive
  have on:∀{Ck wG yg oi},After c (q6 env) sc env Fn s9 iF wG yg oi Ck→After c XI sc env aK av s₁ wG yg oi Ck:=fun wZ=>
   ⟨wZ.pos,(Nc.post.ey (rj.post.mono fun a q=>.inl q) al2).ey (wZ.post.mono fun a q=>.inl q) XY,wZ.c3⟩
  exact gR Y (rj.Kt HA) z9 ⟨fun wG Ck yg oi wZ yh=>⟨xs.length,uX,xs,nY sc wG,yg,oi,i+1,rfl,Y3,let b:=on wZ;⟨b.pos,b.post,b.c3.free fun zz zz=>J6⟩,Nf.post wZ.post Nf.iH.fr,yh⟩,fun uu v wG Ck yg oi wZ MQ yh=>k.ret uu v _ Ck yg oi (let b:=fin (on wZ);⟨b.pos,b.post,b.c3.free fun zz zz=>J6⟩) MQ yh⟩
 ·obtain ⟨Nc,cO⟩:=stepI h' jl.toks (Nat.lt_of_lt_of_le KG.pos le) xb
  obtain rfl:=Bo hdr hx
  exact wpAny_execs_nil (k.next _ { jl with heap:=h' } D' aD (fin Nc) yp.2)
theorem KH (J:cS c d n) (Y:p4 c d n) {t:PySem.Expr} {body:List Stmt} {pos:Pos} {Q:SQ} {T:Flow→Shared→Prop} (X:fy c d A s sc env ρ D mh)
 (hW:∃k,uR (fun vs aD Q'=>dq c d n sc (L (slots sc) vs) t aD Q') (fun vs aD Q'=>eA (gy c d n sc) body (L (slots sc) vs) aD fun f cN jn=>Q' f (nY sc cN) jn) k (nY sc ρ) mh fun f vs gh=>Q f (L (slots sc) vs) gh)
 (k:KS c sc env D mh s Q T):wpAny (model c.prog c.w) A (exec (.While t body [] pos) env) T E s:=by
 obtain ⟨m,hW⟩:=hW
 refine wpAny_While (codeAny_whileLoop (fun m s'=>∃vs D' aD,After c (q6 env) sc env D mh s (L (slots sc) vs) D' aD s'∧uR (fun vs aD Q'=>dq c d n sc (L (slots sc) vs) t aD Q') (fun vs aD Q'=>eA (gy c d n sc) body (L (slots sc) vs) aD fun f cN jn=>Q' f (nY sc cN) jn) m vs aD fun f vs gh=>Q f (L (slots sc) vs) gh) (fun m jl hI=>?_) m
  ⟨nY sc ρ,D,mh,.refl ⟨X.ok,X.pos,X.rel,X.c3.free fun zz zz=>J6⟩,hW⟩)
 obtain ⟨vs,D',aD,a,hW⟩:=hI
 cases m with
 | zero=>exact hW.elim
 | succ m=>
   refine J.p (a.Kt X.ok) hW fun b s₁ aK av bE aA aU=>?_
   have gY:After c (q6 env) sc env D mh s (L (slots sc) vs) aK av s₁:=a.trans u3.full (.of a.c3 bE aA)
   cases b with
   | true=>exact gR Y (gY.Kt X.ok) aU ⟨fun wG Ck yg oi wZ yh=>⟨m,Nat.lt_succ_self m,nY sc wG,yg,oi,let b:=gY.trans u3.full wZ;⟨b.pos,b.post,b.c3.free fun zz zz=>J6⟩,yh⟩,
    fun uu v wG Ck yg oi wZ MQ yh=>k.ret _ _ _ _ _ _ (let b:=gY.trans u3.full wZ;⟨b.pos,b.post,b.c3.free fun zz zz=>J6⟩) MQ yh⟩
   | false=>exact wpAny_execs_nil (k.next _ _ _ _ gY aU)
theorem KI (O:c.Ok) (S:eM c) (Y:p4 c d n):p4 c d (n+1):=by
 intro A E s sc env ρ D mh st Q T X hW k
 obtain ⟨I,J⟩:=yt (d:=d) O S n
 cases st with
 | Expr e pos=>
   obtain ⟨ok,hW⟩:=bT hW
   have hi:interactive env=false:=by unfold interactive;rw [X.c3.kind];rfl
   refine wpAny_Expr (I.p X hW fun u s₁ v aK av bE aA bz aU=>?_) hi (by cases e<;>first | rfl | exact (Bool.false_ne_true ok).elim)
   obtain ⟨pv,aU⟩:=bT aU
   have fin:=k.next _ _ _ _ (.of X.c3 bE aA) aU
   cases v with
   | none=>obtain rfl:=bz;exact fin
   | bool b=>obtain rfl:=bz;exact fin
   | int i=>obtain ⟨t,rfl⟩:=bz;exact fin
   | str x=>obtain ⟨t,rfl⟩:=bz;exact fin
   | _=>exact (Bool.false_ne_true pv).elim
 | Return o pos=>
   cases o with
   | none=>exact False.elim hW
   | some e=>exact wpAny_Return_some (I.p X hW fun u s₁ v aK av bE aA bz aU=>k.ret _ _ _ _ _ _ (.of X.c3 bE aA) bz aU)
 | Assign ts e pos=>
   cases ts with
   | nil=>exact False.elim hW
   | cons t r=>
     cases r with
     | cons _ _=>exact False.elim hW
     | nil=>
       obtain ⟨os,hW⟩:=bT hW
       cases n with
       | zero=>exact False.elim hW
       | succ m=>
         obtain ⟨IE,IT⟩:=yt (d:=d) O S m
         exact yu O I IE IT X os hW fun cN s' D' aD a q=>k.next _ _ _ _ a q
 | If t a b pos=>
   refine wpAny_If (J.p X hW fun r s₁ aK av bE aA aU=>?_)
   have gY:After c (q6 env) sc env D mh s ρ aK av s₁:=.of X.c3 bE aA
   cases r with
   | true=>exact gR Y (gY.Kt X.ok) aU (k.trans gY)
   | false=>exact gR Y (gY.Kt X.ok) aU (k.trans gY)
 | For t e body orelse pos=>
   obtain ⟨ok,h0⟩:=bT hW
   clear hW
   obtain rfl:=List.isEmpty_iff.mp (aC ok).1
   exact Qv O I Y X (aC ok).2 h0 k
 | While t body orelse pos=>
   obtain ⟨ok,h0⟩:=bT hW
   clear hW
   obtain rfl:=List.isEmpty_iff.mp ok
   exact KH J Y X h0 k
 | _=>exact False.elim hW
theorem yv (O:c.Ok) (S:eM c):∀n,p4 c d n
 | 0=>fun zz zz zz zz zz zz zz zz zz zz zz zz h zz=>False.elim h
 | n+1=>KI O S (yv O S n)
end
structure Jr (fd:FuncData) (names:List Str):Prop where
 pos:fd.params.posonlyargs=[]
 args:fd.params.args.map (·.arg)=names
 var:fd.params.vararg=none
 kwo:fd.params.kwonlyargs=[]
 kw:fd.params.kwarg=none
 dflt:fd.defaults= .none
theorem yw:∀{names:List Str} {us:List Value},names.length=us.length→∀x∈names,((names.zip us).lookup x).isNone=false
 | [],_,_,x,h=>by cases h
 | n::names,[],hl,_,_=>by simp at hl
 | n::names,u::us,hl,x,h=>by
   rw [List.zip_cons_cons,List.lookup_cons]
   cases e:x == n with
   | true=>rfl
   | false=>
     rcases List.mem_cons.mp h with rfl | h
     ·simp at e
     ·exact yw (by simpa using hl) x h
theorem Ng {α β:Type} {f g:α→Option β} {l:List α}:(∀x∈l,f x=g x)→l.filterMap f=l.filterMap g:=by
 induction l with
 | nil=>
   rintro _
   exact rfl
 | cons a l ih=>
   rintro h
   have h1:=h a (List.mem_cons_self ..)
   have h2:=ih fun x hx=>h x (List.mem_cons_of_mem _ hx)
   simp only [List.filterMap_cons,h1,h2]
theorem KJ:∀{names:List Str} {us:List Value},names.length=us.length→names.Nodup→names.filterMap (fun n=>((names.zip us).lookup n).map (n,·))=names.zip us:=by
 intro names
 induction names with
 | nil=>intros;rfl
 | cons n names ih=>
   intro us hl hn
   cases us with
   | nil=>simp at hl
   | cons u us=>
     rw [List.nodup_cons] at hn
     have e:(((n,u)::names.zip us).lookup n).map (fun y=>(n,y))=some (n,u):=by simp
     have e2:names.filterMap (fun m=>(((n,u)::names.zip us).lookup m).map (m,·))=names.filterMap (fun m=>((names.zip us).lookup m).map (m,·)):=by
      refine Ng fun m hm=>?_
      have :(m == n)=false:=by
       rw [beq_eq_false_iff_ne];rintro rfl;exact hn.1 hm
      rw [List.lookup_cons,this]
     rw [List.zip_cons_cons,List.filterMap_cons_some (f:=fun m=>(((n,u)::names.zip us).lookup m).map (m,·)) e,e2,ih (by simpa using hl) hn.2]
theorem HP {fd:FuncData} {names:List Str} (F:Jr fd names) (hn:names.Nodup) {us:List Value} (hl:names.length=us.length):bindArgs fd ⟨us,[]⟩=pure (names.zip us):=by
 have e0:seqItems? fd.defaults=pure none:=by rw [F.dflt];rfl
 have e1:(decide (us.length > names.length)&&(none:Option Arg).isNone)=false:=by
  rw [decide_eq_false (hl▸Nat.lt_irrefl _)];rfl
 have e2:(names.filter fun n=>((names.zip us).lookup n).isNone)=[]:=by
  rw [List.filter_eq_nil_iff];intro x hx;rw [yw hl x hx];exact Bool.false_ne_true
 unfold bindArgs
 simp only [F.pos,F.args,F.var,F.kwo,F.kw,e0,List.map_nil,List.nil_append,List.forIn_nil,pure_bind,e1,Bool.false_eq_true,if_false,Option.getD_none,List.drop_nil,List.length_nil,Nat.sub_zero,List.take_length,e2,List.isEmpty_nil,Bool.not_true,
  List.drop_length,List.zip_nil_left,List.append_nil,KJ hl hn]
noncomputable def CA (K:Frag) (a:Addr):Option FuncData:=match K.lookup a with
 | some o=>(match o.data with
  | .func fd=>some fd
  | _=>none)
 | none=>none
theorem HQ {K:Frag} {a:Addr} {fd:FuncData} (h:CA K a=some fd):∃o,K.lookup a=some o∧o.data= .func fd:=by
 unfold CA at h
 cases e:K.lookup a with
 | none=>rw [e] at h;exact a8 h
 | some o=>
   rw [e] at h
   refine ⟨o,rfl,?_⟩
   dsimp only at h
   cases hd:o.data with
   | func f=>rw [hd] at h;obtain rfl:=Option.some.inj h;rfl
   | _=>rw [hd] at h;exact a8 h
noncomputable def jq (fd:FuncData):List Str:=fd.params.args.map (·.arg)
noncomputable def bodyOf (fd:FuncData):List Stmt:=match fd.body with
 | .stmts b=>b
 | _=>[]
noncomputable def Js:FuncBody→Bool
 | .stmts _=>true
 | _=>false
noncomputable def HR (K:Frag) (fd:FuncData):Bool:=
 fd.params.posonlyargs.isEmpty&&fd.params.vararg.isNone&&fd.params.kwonlyargs.isEmpty&&fd.params.kwarg.isNone&&(fd.defaults == .none)&&fd.closure.isEmpty&&(fd.globals == mainGlobals)&&(fd.builtins == builtinsNs)&&
 (fd.scope.kind == .function)&& !fd.scope.isCoroutine&& !fd.scope.isGenerator&&codeIn K fd.code fd.qualname&&decide ((jq fd).Nodup)&&
 (jq fd).all (fun x=>fd.scope.names.lookup x == some .local || (fd.scope.names.lookup x == some .cell))&&decide (((cellsFrom 0 fd.scope.names []).map (·.1)).Nodup)&&fd.scope.names.all (fun x=>x.2 != .free)&&Js fd.body
theorem Br {names:List (Str×NameKind)}:∀{n:Nat} {acc:List (Str×Addr)} {x:Str},(x,NameKind.cell)∈names∨x∈acc.map (·.1)→x∈(cellsFrom n names acc).map (·.1):=by
 induction names with
 | nil=>
   rintro _ _ _ h
   exact h.elim (fun h=>nomatch h) id
 | cons p_ r ih=>
   obtain ⟨y,k⟩:=p_
   rintro n acc x h
   unfold cellsFrom
   split
   ·rename_i hk
    rcases h with h | h
    ·rcases List.mem_cons.mp h with e | h
     ·cases e;exact ih (.inr (by simp))
     ·exact ih (.inl h)
    ·exact ih (.inr (by rw [List.map_cons];exact List.mem_cons_of_mem _ h))
   ·rename_i hk
    rcases h with h | h
    ·rcases List.mem_cons.mp h with e | h
     ·cases e;exact absurd rfl hk
     ·exact ih (.inl h)
    ·exact ih (.inr h)
theorem lookup_isSome {α:Type}:∀{l:List (Str×α)} {x:Str},x∈l.map (·.1)→(l.lookup x).isSome=true
 | (y,a)::l,x,h=>by
   rw [List.lookup_cons]
   cases e:x == y with
   | true=>rfl
   | false=>
     rcases List.mem_cons.mp h with rfl | h
     ·simp at e
     ·exact lookup_isSome h
section
variable {c:Cfg} {d n:Nat} {A:Around} {E:Value→Shared→Prop} {s:Shared} {D:Addr→Addr} {mh:MH}
theorem Nh {h:Heap} {kindOf:Str→Option NameKind} {names:List Str}:∀{args:List Val} {us:List Value} {ρ:Loc} {m cm:Str→Option Value},names.length=us.length→cX h args us→
 (∀x v,kindOf x=some .local→ρ x=some v→∃u,m x=some u∧VR h v u)→(∀x v,kindOf x≠some .local→ρ x=some v→∃u,cm x=some u∧VR h v u)→
 (∀x v,kindOf x=some .local→ρ.gF names args x=some v→∃u,bindL kindOf (names.zip us) m x=some u∧VR h v u)∧(∀x v,kindOf x≠some .local→ρ.gF names args x=some v→∃u,bindC kindOf (names.zip us) cm x=some u∧VR h v u):=by
 induction names with
 | nil=>
   rintro args us ρ m cm hl r h1 h2
   have :us=[]:=List.length_eq_zero_iff.mp hl.symm
   subst this
   have:=r.length
   have :args=[]:=List.length_eq_zero_iff.mp this.symm
   subst this
   exact ⟨h1,h2⟩
 | cons y names ih=>
   intro wX
   cases wX with
   | nil=>
     rintro us _ _ _ hl r _ _
     obtain rfl:=r;simp at hl
   | cons w args=>
     rintro us ρ m cm hl ⟨u,r',e,ru,rr⟩ h1 h2
     subst e
     rw [List.zip_cons_cons]
     unfold bindL bindC
     refine ih (by simpa using hl) rr (fun x v hk hx=>?_) fun x v hk hx=>?_
     ·unfold Loc.put at hx
      by_cases MN:x=y
      ·subst MN
       obtain rfl:=both (if_pos rfl) hx
       rw [if_pos hk,if_pos rfl];exact ⟨u,rfl,ru⟩
      ·rw [if_neg MN] at hx
       split
       ·dsimp only;rw [if_neg MN];exact h1 x v hk hx
       ·exact h1 x v hk hx
     ·unfold Loc.put at hx
      by_cases MN:x=y
      ·subst MN
       obtain rfl:=both (if_pos rfl) hx
       rw [if_neg hk,if_pos rfl];exact ⟨u,rfl,ru⟩
      ·rw [if_neg MN] at hx
       split
       ·exact h2 x v hk hx
       ·dsimp only;rw [if_neg MN];exact h2 x v hk hx
def om (c:Cfg) (d:Nat) (a:Addr) (args:List Val) (mh:MH) (Q:VQ):Prop:=
 ∀(A:Around) (s:Shared) (D:Addr→Addr) (us:List Value) (R:Result→Shared→Prop),wz A d→0<s.toks→Rel c D mh s.heap→cX s.heap args us→
  (∀u s' v D' aD,aV c D mh s D' aD s'→VR s'.heap v u→Q v aD→R (.ok (.ret u)) s')→codeAny (model c.prog c.w) A (.call (.ref a) ⟨us,[]⟩) R s
theorem om.yx {a:Addr} {args:List Val} {Q:VQ} (h:om c d a args mh Q):I0 c d a args mh Q:=fun A s D us R E HA H Re rv k=>
 wpAny_call (h A s D us _ HA H Re rv fun u s' v D' aD p r q=>k u s' v D' aD p r q)
theorem KL (O:c.Ok) (S:eM c) {a:Addr} {fd:FuncData} {args:List Val} {Q:VQ} (hf:CA c.K a=some fd) (hg:HR c.K fd=true) (hl:(jq fd).length=args.length)
 (hW:eA (gy c d n fd.scope) (bodyOf fd) (Loc.empty.gF (jq fd) args) mh fun f zz aD=>Q (f.getD .none) aD):om c (d+1) a args mh Q:=by
 intro A s D us R HA H Re rv k
 simp only [HR,Bool.and_eq_true,beq_iff_eq,decide_eq_true_eq,List.isEmpty_iff,Option.isNone_iff_eq_none,Bool.not_eq_true'] at hg
 obtain ⟨⟨⟨⟨⟨⟨⟨⟨⟨⟨⟨⟨⟨⟨⟨⟨g1,g2⟩,g3⟩,g4⟩,g5⟩,g6⟩,g7⟩,g8⟩,g9⟩,g10⟩,g11⟩,g12⟩,g13⟩,g14⟩,g15⟩,g16⟩,g17⟩:=hg
 have F:Jr fd (jq fd):=⟨g1,rfl,g2,g3,g4,g5⟩
 obtain ⟨o,ho,hod⟩:=HQ hf
 have X':=O.X.keeps Re.old
 have hs:s.heap.get? a=some o:=X' _ _ ho
 have Wv:fd.body= .stmts (bodyOf fd):=by
  unfold bodyOf
  cases h:fd.body with
  | stmts b=>rfl
  | _=>rw [h] at g17;simp [Js] at g17
 have lus:(jq fd).length=us.length:=by rw [hl];exact rv.length.symm
 refine codeAny_call_function HA.d0 hs hod g10 g11 Wv (codeRec_of X' g12) (wpAny_of_eq (HP F g13 lus) ?_)
 rw [g6]
 have Ww:((cellsFrom (s.heap.objs.size+1) fd.scope.names []).map (·.1)).Nodup:=by
  rw [cellsFrom_names fd.scope.names (s.heap.objs.size+1) 0 [] [] rfl];exact g15
 have pk:∀x∈(jq fd).zip us,fd.scope.names.lookup x.1=some .local∨(fd.scope.names.lookup x.1=some .cell∧((cellsFrom (s.heap.objs.size+1) fd.scope.names []).lookup x.1).isSome=true):=fun x hx=>by
  have hm:x.1∈jq fd:=(List.of_mem_zip hx).1
  rw [List.all_eq_true] at g14
  have:=g14 _ hm
  simp only [Bool.or_eq_true,beq_iff_eq] at this
  rcases this with e | e
  ·exact .inl e
  ·exact .inr ⟨e,lookup_isSome (Br (.inl (mem_of_lookup e)))⟩
 refine pX H (wpAny_newFunctionEnv_cells g9 pk fun env he s' x H'=>⟨(O.nolimit.keeps Re.old).keeps x.toInCall.keep,codeAny_func ?_⟩)
 subst he
 obtain ⟨dT,Wn,es⟩:=x.toInCall.same
 have kp:=x.toInCall.keep
 have P:aV c D mh s D mh s':=by subst es;exact aV.ext Re kp
 have eL:=Heap.ba s.heap (Nat.le_refl _)
 have frA:∀b,q6 (newEnv fd.scope s.heap.objs.size fd.globals (cellsFrom (s.heap.objs.size+1) fd.scope.names []) (fd.qualname++".<locals>.") (some a) fd.code none fd.builtins) b→s.heap.get? b=none∧∃ob,s'.heap.get? b=some ob∧¬ET ob:=fun b f=>by
  rcases f with e | ⟨y,hy⟩
  ·have e:b=s.heap.objs.size:=e
   subst e
   obtain ⟨ob,Fp,ep,To,hd,_⟩:=x.toInCall.ns
   exact ⟨eL,ob,To,bD hd⟩
  ·refine ⟨Heap.ba _ (Nat.le_of_lt (x.above y b hy)),?_⟩
   obtain ⟨ob,To,hd⟩:=x.cell y b (lookup_of_mem_nodup Ww hy)
   exact ⟨ob,To,sR hd⟩
 have inv:=Nh (h:=s'.heap) (kindOf:=fun y=>fd.scope.names.lookup y) (ρ:=Loc.empty) (m:=fun zz=>none) (cm:=fun zz=>none) lus (rv.keep P.vk) (fun zz zz zz q=>nomatch q) (fun zz zz zz q=>nomatch q)
 have V:dU c fd.scope (newEnv fd.scope s.heap.objs.size fd.globals (cellsFrom (s.heap.objs.size+1) fd.scope.names []) (fd.qualname++".<locals>.") (some a) fd.code none fd.builtins) (Loc.empty.gF (jq fd) args) D mh s'.heap:=by
  refine ⟨g9,g7,g8,fun y=>.inl rfl,fun b f=>?_,⟨_,x.toInCall.ns,fun y v hk hv=>inv.1 y v hk hv⟩,fun y hk=>?_,x.apart⟩
  ·obtain ⟨h1,h2⟩:=frA b f
   exact ⟨Re.fresh h1,Re.cD h1,h2⟩
  ·have hk:fd.scope.names.lookup y=some .cell∨fd.scope.names.lookup y=some .free:=hk
   rcases hk with hk | hk
   ·obtain ⟨b,hb⟩:=Option.isSome_iff_exists.mp (lookup_isSome (Br (n:=s.heap.objs.size+1) (acc:=[]) (.inl (mem_of_lookup hk))))
    exact ⟨b,_,hb,x.cell y b hb,fun v hv=>inv.2 y v (by rw [hk];decide) hv⟩
   ·rw [List.all_eq_true] at g16
    have:=g16 _ (mem_of_lookup hk)
    simp at this
 have Y4:wz (A.deeper (newEnv fd.scope s.heap.objs.size fd.globals (cellsFrom (s.heap.objs.size+1) fd.scope.names []) (fd.qualname++".<locals>.") (some a) fd.code none fd.builtins)) d:=by
  refine ⟨HA.handled,?_,?_,?_⟩
  ·exact sS HA.depth (Nat.le_of_ble_eq_true rfl)
  ·exact sS HA.units (Nat.le_of_ble_eq_true rfl)
  ·obtain ⟨e0,outer,h1,_⟩:=HA.frames
   refine ⟨_,e0::outer,Around.frames_deeper h1,g11,g10,g8,g7⟩
 have done:∀{cN Qf D' aD},After c (q6 (newEnv fd.scope s.heap.objs.size fd.globals (cellsFrom (s.heap.objs.size+1) fd.scope.names []) (fd.qualname++".<locals>.") (some a) fd.code none fd.builtins)) fd.scope (newEnv fd.scope s.heap.objs.size fd.globals (cellsFrom (s.heap.objs.size+1) fd.scope.names []) (fd.qualname++".<locals>.") (some a) fd.code none fd.builtins) D mh s' cN D' aD Qf→
  aV c D mh s D' aD Qf:=fun {cN Qf D' aD} b=>
  ((P.mono fun zz q=>q.elim).ey b.post V.alive).hide fun y f=>.inr (frA y f).1
 exact gR (yv O S n) ⟨Y4,H',P.rel,V⟩ hW ⟨fun cN Qf D' aD b q=>k .none Qf .none D' aD (done b) rfl q,fun u v cN Qf D' aD b r q=>k u Qf v D' aD (done b) r q⟩
noncomputable def xN (c:Cfg) (C:Str) (fI:Addr):Bool:=makesIn c.K (c.ca C)&&(findIn c.K (.ref (c.ca C)) "__init__" == some (some (.ref fI)))&&(typeIn c.K (.ref fI) == some (.type "function"))
theorem KN (O:c.Ok) {C:Str} {fI:Addr} {args:List Val} {Q:VQ} (hg:xN c C fI=true) (hW:∀a,mh a=none→om c d fI (.ref a::args) (mh.set a (.inst C [])) fun r aD=>r= .none∧Q (.ref a) aD):
 om c (d+1) (c.ca C) args mh Q:=by
 intro A s D us R HA H Re rv k
 simp only [xN,Bool.and_eq_true,beq_iff_eq] at hg
 obtain ⟨⟨g1,g2⟩,g3⟩:=hg
 have X':=O.X.keeps Re.old
 obtain ⟨hh,g,dr,t,os⟩:=s
 have e1:=Heap.ba hh (Nat.le_succ hh.objs.size)
 have P:aV c D mh ⟨hh,g,dr,t,os⟩ _ _ { heap:=(hh.push (dictOf [] 0)).push (instObj (c.ca C) hh.objs.size),gens:=g,drawn:=dr,toks:=t,os:=os }:=aV.make (C:=C) (t':=t) Re
 have Y4:wz (A.under (.builtin "type.__call__" ⟨.ref (c.ca C)::us,[]⟩)) d:=by
  refine ⟨HA.handled,?_,?_,?_⟩
  ·exact sS HA.depth (Nat.le_of_ble_eq_true rfl)
  ·exact sS HA.units (Nat.le_of_ble_eq_true rfl)
  ·obtain ⟨e0,outer,h1,h2⟩:=HA.frames
   exact ⟨e0,outer,by show pushEnvs [] A.frames=_;rw [h1];rfl,h2⟩
 refine make_core (makes_of X' g1) (looks_findIn X' g2) (fun self=>bind_fn X' self g3) (.inl rfl) ?_
 refine hW (hh.objs.size+1) (MH.fresh (Re.fresh e1)) _ { heap:=(hh.push (dictOf [] 0)).push (instObj (c.ca C) hh.objs.size),gens:=g,drawn:=dr,toks:=t,os:=os } _ (.ref (hh.objs.size+1)::us) _ Y4 H P.rel (.cons rfl (rv.keep P.vk)) fun u s' v D' aD p r q=>?_
 obtain ⟨rfl,q⟩:=q
 obtain rfl:=r
 exact ⟨rfl,k (.ref (hh.objs.size+1)) s' (.ref (hh.objs.size+1)) D' aD (P.trans p) rfl q⟩
end
noncomputable def dY (l:Addr) (ns:List Int):MH:=fun a=>if a=l then some (.ro (bj ns)) else none
theorem Qw {c:Cfg} (O:c.Ok) (S:eM c) {d n:Nat} {E:Value→Shared→Prop} {s:Shared} {sc:Scope} {body:List Stmt} {name:Str} {a l:Addr} {cd:Value} {vs:List Value} {ns:List Int} {m:Str→Option Value} {T:Flow→Shared→Prop}
 (hd:d≤60) (H:0<s.toks) (hL:c.h₀.IsList l vs.toArray) (hI:IntsAre vs ns) (F:Fr c.h₀ c.h₀.objs.size s.heap m) (hm:m "script"=some (.ref l)) (hk:sc.kind= .function) (hg:sc.isGenerator=false) (hco:sc.isCoroutine=false)
 (hn:sc.names.all (fun x=>x.2 != .free&&x.2 != .cell)=true)
 (hW:eA (gy c d n sc) body (Loc.empty.put "script" (.ref l)) (dY l ns) fun f zz zz=>f.getD .none= .bool true)
 (k:∀h' t' dr,(∀b o,c.h₀.get? b=some o→h'.get? b=some o)→T (.ret (.bool true)) { s with heap:=h',toks:=t',drawn:=dr }):
 wpAny (model c.prog c.w) (callerA.deeper (envOf name sc c.h₀.objs.size a cd)) (execs body (envOf name sc c.h₀.objs.size a cd)) T E s:=by
 have uX:l≠c.h₀.objs.size:=by obtain ⟨o,ho,_⟩:=hL;exact Nat.ne_of_lt (Heap.lt_size ho)
 have eL:=Heap.ba c.h₀ (Nat.le_refl _)
 have R:Rel c (fun x=>x) (dY l ns) s.heap:=by
  refine ⟨fun b o e=>?_,fun b C fs e=>?_,fun b o e how=>?_,fun b o e=>F.keep b o e⟩
  ·unfold dY at e
   split at e
   ·rename_i q;subst q;obtain rfl:=Option.some.inj e
    obtain ⟨o,ho,r⟩:=hL
    exact ⟨vs.toArray,⟨o,F.keep _ _ ho,r⟩,yb (by simpa using hI)⟩
   ·exact a8 e
  ·unfold dY at e;split at e<;>cases e
  ·unfold dY at e
   split at e
   ·obtain rfl:=Option.some.inj e;exact iZ how
   ·exact a8 e
 have kinds:∀x,(envOf name sc c.h₀.objs.size a cd).kindOf x=sc.names.lookup x:=fun x=>rfl
 have Ni:∀x,sc.names.lookup x≠some .cell∧sc.names.lookup x≠some .free:=fun x=>by
  rw [List.all_eq_true] at hn
  refine ⟨fun e=>?_,fun e=>?_⟩<;>(have:=hn _ (mem_of_lookup e);simp at this)
 have V:dU c sc (envOf name sc c.h₀.objs.size a cd) (Loc.empty.put "script" (.ref l)) (fun x=>x) (dY l ns) s.heap:=by
  refine ⟨hk,rfl,rfl,fun x=>.inl rfl,fun b f=>?_,⟨m,F.ns,fun x v hx hv=>?_⟩,fun x hx=>?_,.nil⟩
  ·rcases f with e | ⟨y,hy⟩
   ·have e:b=c.h₀.objs.size:=e
    subst e
    obtain ⟨o,es,ep,ho,hd,_⟩:=F.ns
    refine ⟨?_,eL,o,ho,bD hd⟩
    rintro (⟨o',e'⟩ | ⟨b',C,fs,e',_⟩)
    ·unfold dY at e';rw [if_neg (Ne.symm uX)] at e';exact a8 e'
    ·unfold dY at e';split at e'<;>cases e'
   ·cases hy
  ·unfold Loc.put at hv
   split at hv
   ·rename_i q;subst q;obtain rfl:=Option.some.inj hv
    exact ⟨.ref l,hm,rfl⟩
   ·exact a8 hv
  ·exfalso
   rcases hx with q | q
   ·exact (Ni x).1 q
   ·exact (Ni x).2 q
 have HA:wz (callerA.deeper (envOf name sc c.h₀.objs.size a cd)) d:=by
  refine ⟨rfl,?_,?_,⟨_,[],rfl,hg,hco,rfl,rfl⟩⟩
  ·show 1+claimMargin+1+4 * d+100<recursionLimit
   exact Nat.lt_of_le_of_lt (Nat.add_le_add_right (Nat.add_le_add_left (Nat.mul_le_mul_left 4 hd) _) _) (Nat.le_of_ble_eq_true rfl)
  ·show 4+3+16 * d+100<cLine
   exact Nat.lt_of_le_of_lt (Nat.add_le_add_right (Nat.add_le_add_left (Nat.mul_le_mul_left 16 hd) _) _) (Nat.le_of_ble_eq_true rfl)
 refine gR (yv O S n) ⟨HA,H,R,V⟩ hW ⟨fun cN s' D' aD b q=>(nomatch q),fun u v cN s' D' aD b r q=>?_⟩
 obtain rfl:v= .bool true:=q
 obtain rfl:=r
 obtain ⟨h',t',dr,e⟩:=b.post.st
 have:=b.post.rel.old
 subst e
 exact k h' t' dr this
section
set_option tactic.hygienic true
open SetTable
def i6 (xs:Array Nat):Prop:=xs.toList.Pairwise (·<·)
theorem getD_at {xs:Array Nat} {i:Nat} (h:i<xs.size) (a:Nat):xs.getD i a=xs[i]:=by rw [Array.getD,dif_pos h];rfl
theorem i6.lt {xs:Array Nat} (hr:i6 xs) {i j:Nat} (h:i<j) (hj:j<xs.size):xs.getD i 0<xs.getD j 0:=by
 rw [getD_at (Nat.lt_trans h hj),getD_at hj]
 exact List.pairwise_iff_getElem.mp hr i j _ _ h
theorem i6.le {xs:Array Nat} (hr:i6 xs) {i j:Nat} (h:i≤j) (hj:j<xs.size):xs.getD i 0≤xs.getD j 0:=
 (Nat.lt_or_eq_of_le h).elim (fun q=>Nat.le_of_lt (hr.lt q hj)) fun q=>q▸Nat.le_refl _
theorem TY {lo hi:Nat} (h:lo<hi):lo≤(lo+hi) / 2∧(lo+hi) / 2<hi:=by
 constructor
 ·rw [Nat.le_div_iff_mul_le Nat.two_pos,Nat.mul_two];exact Nat.add_le_add_left (Nat.le_of_lt h) _
 ·rw [Nat.div_lt_iff_lt_mul Nat.two_pos,Nat.mul_two];exact Nat.add_lt_add_right h _
structure kI (xs:Array Nat) (j b:Nat):Prop where
 le:b≤xs.size
 lt:∀i,i<b→xs.getD i 0<j
 ge:∀i,b≤i→i<xs.size→j≤xs.getD i 0
theorem Nj {xs:Array Nat} {j:Nat} (hr:i6 xs) {fuel:Nat}:∀{lo hi:Nat},hi≤lo+fuel→lo≤hi→hi≤xs.size→(∀i,i<lo→xs.getD i 0<j)→(∀i,hi≤i→i<xs.size→j≤xs.getD i 0)→kI xs j (below.go xs j fuel lo hi):=by
 induction fuel with
 | zero=>intro lo hi hf hl hh h1 h2;obtain rfl:=Nat.le_antisymm hl hf;exact ⟨hh,h1,h2⟩
 | succ fuel ih=>
   intro lo hi hf hl hh h1 h2
   show kI xs j (if lo<hi then (if xs.getD ((lo+hi) / 2) j<j then below.go xs j fuel ((lo+hi) / 2+1) hi else below.go xs j fuel lo ((lo+hi) / 2)) else lo)
   by_cases uX:lo<hi
   ·rw [if_pos uX]
    obtain ⟨m1,m2⟩:=TY uX
    generalize (lo+hi) / 2=mid at m1 m2⊢
    have ms:=Nat.lt_of_lt_of_le m2 hh
    by_cases hx:xs.getD mid j<j
    ·rw [if_pos hx]
     rw [getD_at ms,←getD_at ms 0] at hx
     exact ih (Nat.le_trans hf (Nat.le_trans (Nat.succ_le_succ (Nat.add_le_add_right m1 fuel)) (Nat.le_of_eq (Nat.add_right_comm mid fuel 1)))) m2 hh (fun i q=>Nat.lt_of_le_of_lt (hr.le (Nat.le_of_lt_succ q) ms) hx) h2
    ·rw [if_neg hx]
     rw [getD_at ms,←getD_at ms 0] at hx
     exact ih (Nat.le_of_lt_succ (Nat.lt_of_lt_of_le m2 hf)) m1 (Nat.le_of_lt ms) h1 fun i q hs=>Nat.le_trans (Nat.le_of_not_lt hx) (hr.le q hs)
   ·rw [if_neg uX];obtain rfl:=Nat.le_antisymm hl (Nat.le_of_not_lt uX);exact ⟨hh,h1,h2⟩
theorem kJ {xs:Array Nat} {j:Nat} (hr:i6 xs):kI xs j (below xs j):=
 Nj hr (Nat.le_of_eq (Nat.zero_add _).symm) (Nat.zero_le _) (Nat.le_refl _) (fun i h=>absurd h (Nat.not_lt_zero _)) fun i h1 h2=>absurd h2 (Nat.not_lt.mpr h1)
theorem kI.at {xs:Array Nat} {j b i:Nat} (B:kI xs j b) (hr:i6 xs) (hi:i<xs.size) (e:xs.getD i 0=j):b=i:=
 (Nat.lt_trichotomy b i).elim (fun h=>absurd (B.ge b (Nat.le_refl _) (Nat.lt_trans h hi)) (Nat.not_le.mpr (e▸hr.lt h hi))) fun h=>h.elim id fun h=>absurd (B.lt i h) (e▸Nat.lt_irrefl _)
theorem kI.after {xs:Array Nat} {b i:Nat} (B:kI xs (xs.getD i 0+1) b) (hr:i6 xs) (hi:i<xs.size):b=i+1:=
 (Nat.lt_trichotomy b (i+1)).elim (fun h=>absurd (Nat.le_trans (B.ge b (Nat.le_refl _) (Nat.lt_of_le_of_lt (Nat.le_of_lt_succ h) hi)) (hr.le (Nat.le_of_lt_succ h) hi)) (Nat.not_succ_le_self _))
  fun h=>h.elim id fun h=>absurd (Nat.le_of_lt_succ (B.lt (i+1) h)) (Nat.not_le.mpr (hr.lt (Nat.lt_succ_self i) (Nat.lt_of_lt_of_le h B.le)))
structure fD (led:Bool) (t:SetTable):Prop where
 FD:i6 t.place
 Nk:t.dummies=#[]
 led:t.led=led
theorem CB {xs:Array Nat} {j:Nat} (hr:i6 xs) (hn:∀i,i<xs.size→xs.getD i 0≠j):i6 (insertAt xs (below xs j) j):=by
 have B:=kJ (j:=j) hr
 have e:∀x,x∈xs.toList.take (below xs j)→x<j:=fun x hx=>by
  obtain ⟨i,hi,rfl⟩:=List.mem_iff_getElem.mp hx
  rw [List.length_take] at hi
  have:=B.lt i (Nat.lt_of_lt_of_le hi (Nat.min_le_left _ _))
  rw [getD_at (Nat.lt_of_lt_of_le hi (Nat.min_le_right _ _))] at this
  rw [List.getElem_take];exact this
 have e':∀x,x∈xs.toList.drop (below xs j)→j<x:=fun x hx=>by
  obtain ⟨i,hi,rfl⟩:=List.mem_iff_getElem.mp hx
  rw [List.length_drop] at hi
  have hs:below xs j+i<xs.size:=Nat.add_lt_of_lt_sub' hi
  have:=Nat.lt_of_le_of_ne (B.ge _ (Nat.le_add_right _ i) hs) (hn _ hs).symm
  rw [getD_at hs] at this
  rw [List.getElem_drop];exact this
 unfold i6
 rw [SetTable.toList_insertAt]
 refine List.pairwise_append.mpr ⟨hr.sublist (List.take_sublist ..),List.pairwise_cons.mpr ⟨e',hr.sublist (List.drop_sublist ..)⟩,fun a ha b hb=>?_⟩
 rcases List.mem_cons.mp hb with rfl | hb
 ·exact e a ha
 ·exact Nat.lt_trans (e a ha) (e' b hb)
theorem has_none {j:Nat}:SetTable.has #[] j=false:=rfl
theorem KO {b:Bool} {t:SetTable} (g:fD b t) (j:Nat):(∃i,t.slot j= .live i)∨(t.slot j= .empty∧∀i,i<t.place.size→t.place.getD i 0≠j):=by
 unfold SetTable.slot
 dsimp only
 cases h:(t.place[below t.place j]? == some j) with
 | true=>exact .inl ⟨_,if_pos rfl⟩
 | false=>
   rw [g.Nk,has_none]
   refine .inr ⟨(if_neg Bool.false_ne_true).trans (if_neg Bool.false_ne_true),fun i hi e=>?_⟩
   rw [(kJ g.FD).at g.FD hi e,Array.getElem?_eq_getElem hi,←getD_at hi 0,e,beq_self_eq_true] at h
   exact iZ h.symm
theorem HS {b:Bool} {t:SetTable} (g:fD b t) {h:Int} {fuel:Nat}:∀{p:SetTable.Probe} {r:Met},p.dummy=none→SetTable.probe.go t (fun zz=>h+1) h fuel p=some r→∃j,r= .empty j none∧∀i,i<t.place.size→t.place.getD i 0≠j:=by
 induction fuel with
 | zero=>intro p r hd e;exact a8 e
 | succ fuel ih=>
   intro p r hd e
   have e:(match t.slot p.j with
    | .empty=>some (Met.empty p.j p.dummy)
    | .dummy=>SetTable.probe.go t (fun zz=>h+1) h fuel (t.advance { p with dummy:=some p.j })
    | .live i=>if h+1 == h then some (Met.candidate p.j i (t.advance p)) else SetTable.probe.go t (fun zz=>h+1) h fuel (t.advance p))=some r:=e
   rcases KO g p.j with ⟨i,q⟩ | ⟨q,k⟩
   ·rw [q] at e
    dsimp only at e
    rw [if_neg (by rw [beq_iff_eq];exact Int.ne_of_gt (Int.lt_succ h))] at e
    refine ih ?_ e
    unfold SetTable.advance
    by_cases hm:p.more > 0
    ·rw [if_pos hm];exact hd
    ·rw [if_neg hm];exact hd
   ·rw [q] at e
    dsimp only at e
    rw [hd] at e
    exact ⟨_,(Option.some.inj e).symm,k⟩
theorem gH {b:Bool} {t:SetTable} (h:t.led=b) (n:Nat):fD b (t.standIn n):=by
 refine ⟨?_,rfl,h⟩
 show (Array.range n).toList.Pairwise (·<·)
 rw [Array.toList_range]
 exact List.pairwise_lt_range
theorem CC {b:Bool} {t:SetTable} (g:fD b t) (n:Nat):fD b (t.orStandIn n):=by
 unfold SetTable.orStandIn
 cases t.fits n with
 | true=>exact g
 | false=>exact gH g.led _
theorem FE {b:Bool} {t:SetTable} (g:fD b t) (es:Array (Int×Value)) (h:Int) (x:Value):fD b (layNew t es h x).2.1:=by
 unfold layNew SetTable.freeSlot
 cases e:t.probe (fun zz=>h+1) h (t.probeStart h) with
 | none=>exact gH g.led _
 | some r=>
   obtain ⟨j,rfl,k⟩:=HS g rfl e
   have e2:(if SetTable.has t.dummies j=true then eraseAt t.dummies (below t.dummies j) else t.dummies)=#[]:=by rw [g.Nk,has_none];rfl
   have gp:fD b (t.put j).1:=⟨CB g.FD k,e2,g.led⟩
   exact CC gp _
theorem Qx {f:Nat→Option (Nat×Nat)} (hf:∀j p,f j=some p→p.1=j) {l:List Nat}:((l.filterMap f).map (·.1)).Sublist l:=by
 induction l with
 | nil=>exact .slnil
 | cons a l ih=>
   cases e:f a with
   | none=>rw [List.filterMap_cons_none e];exact .cons _ ih
   | some p=>rw [List.filterMap_cons_some e,List.map_cons,hf a p e];exact .cons_cons _ ih
theorem KQ {b:Bool} {mask finger moves:Nat} {pl:Bool} {hs:Array Int} {r:SetTable×Array Nat} (e:SetTable.laid mask finger moves b pl hs=some r):fD b r.1:=by
 unfold SetTable.laid at e
 rw [Option.bind_eq_bind] at e
 obtain ⟨owner,e1,e2⟩:=Option.bind_eq_some_iff.mp e
 obtain rfl:=Option.some.inj e2
 refine ⟨List.Pairwise.sublist (Qx fun j p hp=>?_) (List.pairwise_lt_range (n:=mask+1)),rfl,rfl⟩
 obtain ⟨q,hq,rfl⟩:=Option.map_eq_some_iff.mp hp
 rfl
theorem HT {b:Bool} {t:SetTable} (g:fD b t) (es:Array (Int×Value)) (wanted:Nat):fD b (relayAll t es wanted).2.1:=by
 unfold relayAll
 cases e:t.relaid (es.map (·.1)) wanted with
 | none=>exact gH g.led _
 | some r=>
   dsimp only
   by_cases h:(coversAll r.2 es.size&&r.1.fits (r.2.filterMap (es[·]?)).size)=true
   ·rw [if_pos h]
    obtain rfl:=g.led
    exact KQ e
   ·rw [if_neg h];exact gH g.led _
end
section
set_option tactic.hygienic true
noncomputable def toI:Value→Int
 | .int n _=>n
 | _=>0
section
variable {c:Cfg} {A:Around} {E:Value→Shared→Prop} {s:Shared}
noncomputable abbrev iK (c:Cfg):=PySem.intKind c.prog c.w
def rm (c:Cfg) (h:Heap) (a:Addr) (L:List Int) (led:Bool):Prop:=
 ∃o es ep t,h.get? a=some o∧o.ExactSet∧o.data= .set es ep t∧ElemsOf (iK c) es.toList∧(es.toList.map fun e=>toI e.2).Perm L∧es.size<scanBound∧t.fits es.size=true∧fD led t
theorem Nl {k:Int} {v:Value} (h:(iK c).is k v=true):∃t,v= .int k t:=by
 cases v with
 | int y t=>
   have :y=k:=by simpa [PySem.intKind,Value.isInt] using h
   subst this;exact ⟨t,rfl⟩
 | _=>simp [PySem.intKind,Value.isInt] at h
theorem Nm {k:Int} {v:Value} (h:(iK c).is k v=true):toI v=k:=by obtain ⟨t,rfl⟩:=Nl h;rfl
theorem FF {es:Array (Int×Value)} {L:List Int} {k:Int} (FG:ElemsOf (iK c) es.toList) (hp:(es.toList.map fun e=>toI e.2).Perm L):
 (es.toList.findIdx? fun e=>(iK c).is k e.2)=none↔k∉L:=by
 rw [List.findIdx?_eq_none_iff,←hp.mem_iff]
 constructor
 ·intro h hm
  obtain ⟨e,he,e1⟩:=List.mem_map.mp hm
  obtain ⟨⟨k',xM,_⟩,_⟩:=FG e he
  have:=Nm xM
  rw [e1] at this;subst this
  have:=h e he
  rw [xM] at this;cases this
 ·intro h e he
  cases q:(iK c).is k e.2 with
  | false=>rfl
  | true=>exact absurd (List.mem_map.mpr ⟨e,he,Nm q⟩) h
theorem Nn {h:Heap} {a:Addr} {o:Obj} {es:Array (Int×Value)} {ep:Nat} {t:SetTable} {led:Bool} {L:List Int} (ho:h.get? a=some o) (hex:o.ExactSet) (hd:o.data= .set es ep t)
 {Fp:Array (Int×Value)} {t':SetTable} (FG:ElemsOf (iK c) Fp.toList) (hp:(Fp.toList.map fun e=>toI e.2).Perm L) (hb:Fp.size<scanBound) (hf:t'.fits Fp.size=true) (hg:fD led t'):
 (h.update a (Obj.putSet Fp t')).get? a=some { o with data:=.set Fp (ep+1) t' }∧rm c (h.update a (Obj.putSet Fp t')) a L led:=by
 have Vn:(h.update a (Obj.putSet Fp t')).get? a=some { o with data:=.set Fp (ep+1) t' }:=by
  have:=Heap.get?_update_self (Obj.putSet Fp t') ho (by rw [putSet_of Fp t' hd];rfl)
  rw [putSet_of Fp t' hd] at this;exact this
 exact ⟨Vn,_,Fp,ep+1,t',Vn,hex,rfl,FG,hp,hb,hf,hg⟩
theorem Sx {g:Bool→Sem Unit} (hg:∀(b:Bool) (s₁:Shared) (Q':Unit→Shared→Prop),Q' () s₁→wpAny (model c.prog c.w) A (g b) Q' E s₁)
 {a:Addr} {o:Obj} {es:Array (Int×Value)} {ep:Nat} {t:SetTable} (ho:s.heap.get? a=some o) (hex:o.ExactSet) (hd:o.data= .set es ep t)
 {u5:Array (Int×Value)} {t2:SetTable} {L:List Int} {led:Bool} (Np:ElemsOf (iK c) u5.toList) (Qy:(u5.toList.map fun e=>toI e.2).Perm L)
 (Hk:u5.size<scanBound) (Y5:t2.fits u5.size=true) (Y6:fD led t2) {FH:Bool} {R:Option Bool→Shared→Prop}
 (h:∀h',Heap.SameBut a s.heap h'→rm c h' a L led→R (some true) { s with heap:=h' }):
 wpAny (model c.prog c.w) A (do
  storeSet a u5 t2
  if (!FH&&t2.tooFull)=true then do
      g (relayAll t2 u5 (SetTable.grown u5.size)).2.2
      storeSet a (relayAll t2 u5 (SetTable.grown u5.size)).1 (relayAll t2 u5 (SetTable.grown u5.size)).2.1
      pure (some true)
   else pure (some true)) R E s:=by
 refine wpAny_bind (wpAny_storeSet_of ho hd ?_ (fits_of_scanBound Hk))
 obtain ⟨TZ,Y7⟩:=Nn (c:=c) ho hex hd Np Qy Hk Y5 Y6
 have Wx:=Heap.SameBut.update s.heap a (Obj.putSet u5 t2)
 split
 ·have hp:=relayAll_perm t2 u5 (SetTable.grown u5.size)
  have Mj:=relayAll_fits t2 u5 (SetTable.grown u5.size)
  have Y8:=HT Y6 u5 (SetTable.grown u5.size)
  generalize hRl:relayAll t2 u5 (SetTable.grown u5.size)=Rl at hp Mj Y8⊢
  obtain ⟨PD,t3,gave2⟩:=Rl
  dsimp only at hp Mj Y8⊢
  have Y9:ElemsOf (iK c) PD.toList:=Np.perm hp
  have xZ:PD.size=u5.size:=by rw [←Array.length_toList,hp.length_eq,Array.length_toList]
  have rq:PD.size<scanBound:=by rw [xZ];exact Hk
  refine wpAny_bind (hg _ _ _ ?_)
  refine wpAny_bind (wpAny_storeSet_of TZ rfl ?_ (fits_of_scanBound rq))
  obtain ⟨_,Za⟩:=Nn (c:=c) TZ hex rfl Y9 ((hp.map _).trans Qy) rq Mj Y8
  exact wpAny_pure (h _ (Wx.trans (Heap.SameBut.update _ a _)) Za)
 ·exact wpAny_pure (h _ Wx Y7)
theorem FI {led:Bool} {t:SetTable} (g:fD led t):fD led { t with plain:=false }:=⟨g.FD,g.Nk,g.led⟩
theorem Zb {a:Addr} {L:List Int} {led:Bool} {x:Int} {u:Tok} {Q:Bool→Shared→Prop} (hS:rm c s.heap a L led) (Wy:L.length+1<scanBound)
 (h:∀b h',Heap.SameBut a s.heap h'→rm c h' a (if x∈L then L else L++[x]) led→Q b { s with heap:=h' }):
 wpAny (model c.prog c.w) A (setAddHashed a (.int x u) ((iK c).hash x)) Q E s:=by
 have Wz:=intKind_is c.prog c.w x u
 have Zc:(Value.int x u).scannable=true:=rfl
 obtain ⟨o,es,ep,t,ho,hex,hd,FG,hp,hb,hf,hg⟩:=hS
 have hn:es.size=L.length:=by rw [←hp.length_eq,List.length_map,Array.length_toList]
 have Hk:es.size+1<scanBound:=by rw [hn];exact Wy
 unfold setAddHashed setAddHashedIn
 refine wpAny_holding (wpAny_bind (wpAny_setState_of ho hd hf ?_))
 dsimp only
 rw [byScan_of Zc hb FG]
 simp only [↓reduceIte]
 unfold setAddByScan
 refine wpAny_bind ?_
 refine wpAny_bind (wpAny_rule ?_)
 refine wpAny_bind (wpAny_setScan_of Wz ho hd hf FG ?_)
 cases hr:List.findIdx? (fun e=>(iK c).is x e.2) es.toList with
 | some j=>
   dsimp only
   have hm:x∈L:=by
    apply Classical.byContradiction
    intro q
    exact bQ hr ((FF FG hp).mpr q)
   refine wpAny_pure (wpAny_pure ?_)
   have e:s={ s with heap:=s.heap }:=by cases s;rfl
   rw [e]
   exact h _ s.heap (Heap.SameBut.refl a s.heap) (by rw [if_pos hm];exact ⟨o,es,ep,t,ho,hex,hd,FG,hp,hb,hf,hg⟩)
 | none=>
   dsimp only
   have hm:x∉L:=(FF FG hp).mp hr
   have hgw:∀(b:Bool) {s₁:Shared} {Q':Unit→Shared→Prop},Q' () s₁→wpAny (model c.prog c.w) A (match b with | true=>rule "set.scan.the-table-gave-way" | false=>pure ()) Q' E s₁:=
    fun b s₁ Q' hq=>by cases b<;>first | exact wpAny_pure hq | exact wpAny_rule hq
   have Bs:=layNew_perm t es ((iK c).hash x) (.int x u)
   have FJ:=layNew_fits t es ((iK c).hash x) (.int x u)
   have FK:=FE hg es ((iK c).hash x) (.int x u)
   generalize hL:layNew t es ((iK c).hash x) (.int x u)=LL at Bs FJ FK⊢
   obtain ⟨u5,t1,FH,gave⟩:=LL
   dsimp only at Bs FJ FK⊢
   rw [Array.toList_push] at Bs
   have Np:ElemsOf (iK c) u5.toList:=(FG.push Wz Zc).perm Bs
   have Qy:(u5.toList.map fun e=>toI e.2).Perm (L++[x]):=by
    refine (Bs.map _).trans ?_
    rw [List.map_append]
    exact hp.append_right _
   have WA:u5.size<scanBound:=by rw [←Array.length_toList,Bs.length_eq,List.length_append,Array.length_toList];simpa using Hk
   refine wpAny_bind (hgw _ ?_)
   have WB:∀h',Heap.SameBut a s.heap h'→rm c h' a (L++[x]) led→Q true { s with heap:=h' }:=by
    intro h' Qz WC;exact h true h' Qz (by rw [if_neg hm];exact WC)
   split
   ·refine wpAny_bind ?_
    rw [hashByValue_scannable 8 Zc]
    refine wpAny_pure ?_
    refine Sx (c:=c) (led:=led) ?_ ho hex hd Np Qy WA ?_ ?_ ?_
    ·intro b s₁ Q' hq;cases b<;>first | exact wpAny_pure hq | exact wpAny_rule hq
    ·split
     ·exact FJ
     ·exact SetTable.fits_plain_off FJ
    ·split
     ·exact FK
     ·exact FI FK
    ·intro h' Qz WC;dsimp only;exact wpAny_pure (WB h' Qz WC)
   ·refine wpAny_bind (wpAny_pure ?_)
    simp only [↓reduceIte]
    refine Sx (c:=c) ?_ ho hex hd Np Qy WA FJ FK ?_
    ·intro b s₁ Q' hq;cases b<;>first | exact wpAny_pure hq | exact wpAny_rule hq
    ·intro h' Qz WC;dsimp only;exact wpAny_pure (WB h' Qz WC)
end
end
section
set_option tactic.hygienic true
section
variable {c:Cfg} {A:Around} {E:Value→Shared→Prop} {s:Shared}
noncomputable def setStep (L:List Int) (x:Int):List Int:=if x∈L then L else L++[x]
theorem wH (L:List Int) (x:Int):(setStep L x).length≤L.length+1:=by unfold setStep;split<;>simp
theorem rm.at' {h h':Heap} {a:Addr} {L led} (x:rm c h a L led) (k:∀o,h.get? a=some o→h'.get? a=some o):rm c h' a L led:=
 (by obtain ⟨o,es,ep,t,ho,r⟩:=x;exact ⟨o,es,ep,t,k o ho,r⟩)
theorem Nq (hh:A.handled=none) {l I S:Addr} (hlI:l≠I) (T4:S≠I) (WD:l≠S) {c2:Array Value} {m:Nat} {led:Bool} {R:Result→Shared→Prop}:
 ∀(k:Nat) (xs:List Int) (i:Nat) (s:Shared) (L:List Int),xs.length=k→s.heap.IsListIter I l i→s.heap.get? l=some (PySem.W.listOf c2 m)→IntsAre (c2.toList.drop i) xs→rm c s.heap S L led→L.length+xs.length+1<scanBound→
  (∀h' t,(∀b o,b≠I→b≠S→s.heap.get? b=some o→h'.get? b=some o)→rm c h' S (xs.foldl setStep L) led→R (.ok (.ret .none)) { s with heap:=h',toks:=t })→
  codeAny (model c.prog c.w) A (.builtin "set.update.loop" ⟨[.ref S,.ref I],[]⟩) R s:=by
 intro k
 induction k with
 | zero=>
   intro xs i s L hl hit hL hi hS hb kk
   have :xs=[]:=List.length_eq_zero_iff.mp hl
   subst this
   refine codeAny_builtin PyProof.Rows.F.entry_set_update_loop ?_
   have YX:(A.under (.builtin "set.update.loop" ⟨[.ref S,.ref I],[]⟩)).handled=none:=hh
   show wpAny _ _ (pyNext (.ref I) >>= _) _ _ s
   have hx:c2[i]? =none:=by
    have e:=hi.length
    simp only [List.length_drop,Array.length_toList,List.length_nil] at e
    rw [Array.getElem?_eq_none_iff];omega
   refine wpAny_bind (wpAny_pyNext_list_end YX hit ⟨_,hL,rfl,_,rfl⟩ hx fun h' xb=>?_)
   exact wpAny_pure (kk h' s.toks (fun b o h1 zz e=>xb b o h1 e) (hS.at' fun o e=>xb _ _ T4 e))
 | succ k ih=>
   intro xs i s L hl hit hL hi hS hb kk
   cases xs with
   | nil=>simp at hl
   | cons x xs=>
     obtain ⟨u,r',t0,e,e2,T5⟩:∃u r' t0,c2.toList.drop i=u::r'∧u= .int x t0∧IntsAre r' xs:=by
      generalize c2.toList.drop i=l0 at hi
      cases hi with
      | cons n t r=>exact ⟨_,_,_,rfl,rfl,r⟩
     subst e2
     have hx:c2[i]? =some (.int x t0):=by
      have:=List.getElem?_drop (xs:=c2.toList) (i:=i) (j:=0)
      rw [e] at this
      simpa using this.symm
     have hr:c2.toList.drop (i+1)=r':=by rw [←List.drop_drop,e];rfl
     refine codeAny_builtin PyProof.Rows.F.entry_set_update_loop ?_
     show wpAny _ _ (pyNext (.ref I) >>= _) _ _ s
     refine wpAny_bind (wpAny_pyNext_list_item hit ⟨_,hL,rfl,_,rfl⟩ hx fun h' TR e9=>?_)
     show wpAny _ _ (holding [Value.int x t0] (setAdd S (.int x t0)) >>= _) _ _ _
     refine wpAny_bind (wpAny_holding ?_)
     unfold setAdd
     refine wpAny_holding ?_
     refine wpAny_bind ((iK c).pyHash (k:=x) (intKind_is _ _ _ _) ?_)
     simp only [List.length_cons] at hl hb
     have Y7:rm c h' S L led:=hS.at' fun o e=>e9.extBut _ _ T4 e
     refine Zb (s:={ s with heap:=h',toks:=s.toks+1 }) Y7 (by omega) fun b Vm Qz Za=>?_
     refine wpAny_pure ⟨plainId_quiet PyProof.Rows.F.plain_set_update_loop _,?_⟩
     have ln:=wH L x
     refine ih xs (i+1) { s with heap:=Vm,toks:=s.toks+1 } (setStep L x) (by omega) ?_ ?_ (by rw [hr];exact T5) Za (by omega) fun h3 t3 a1 a2=>?_
     ·obtain ⟨o,ho,r⟩:=TR
      exact ⟨o,Qz.extBut _ _ (Ne.symm T4) ho,r⟩
     ·exact Qz.extBut _ _ WD (e9.extBut _ _ hlI hL)
     ·exact kk h3 t3 (fun b o h1 h2 e=>a1 b o h1 h2 (Qz.extBut _ _ h2 (e9.extBut _ _ h1 e))) a2
noncomputable def Nr (led:Bool):Obj:={ cls:=.type "set",dict:=none,data:=.set #[] 0 (.fresh 0 0 led) }
theorem QA (a:Value) {Q₁:Value→Shared→Prop}
 (h:Q₁ (.ref s.heap.objs.size) { s with heap:=s.heap.push (Nr (!c.w.params.followText "set-order")) }):
 codeAny (model c.prog c.w) A (.call (.builtin "set.__new__") ⟨[.type "set",a],[]⟩) (wants Q₁ E) s:=by
 refine codeAny_of_tree ?_
 show wpAny _ A.in1 (do checkBuiltinCall "set.__new__" ⟨[.type "set",a],[]⟩;again (.builtin "set.__new__" ⟨[.type "set",a],[]⟩)) _ _ s
 refine wpAny_bind (wpAny_of_eq (PySem.F.newCall_set_1 a) (wpAny_pure ⟨plainId_quiet PySem.F.plain_set_new _,codeAny_builtin PySem.F.entry_set_new ?_⟩))
 rw [Around.under_plainId PySem.F.plain_set_new _]
 unfold Builtin.«set.__new__» Builtin.Frozenset.newClass
 have Zd:=sub_set_self
 obtain ⟨hp,g,d,tk,os⟩:=s
 dsimp only
 wp_walk
 refine wpAny_askSetting (wpAny_pure ?_)
 dsimp only
 simp only [newObj]
 refine wpAny_bind (wpAny_alloc (wpAny_pure ?_))
 exact wpAny_pure h
end
end
section
set_option tactic.hygienic true
section
variable {c:Cfg} {A:Around} {E:Value→Shared→Prop} {s:Shared}
theorem T7 {h:Heap} {a:Addr} {led:Bool} (ho:h.get? a=some (Nr led)):rm c h a [] led:=
 ⟨_,#[],0,_,ho,⟨rfl,rfl,rfl⟩,rfl,fun zz h=>absurd h List.not_mem_nil,.nil,by decide,rfl,⟨.nil,rfl,rfl⟩⟩
theorem KR {l S:Addr} {items:Array Value} {m:Nat} {xs:List Int} {led:Bool} {R:Value→Shared→Prop} (hh:A.handled=none) (hS:s.heap.get? S=some (Nr led)) (hl:s.heap.get? l=some (PySem.W.listOf items m)) (WD:l≠S)
 (hi:IntsAre items.toList xs) (hb:xs.length+1<scanBound)
 (h:∀(h':Heap) (tk:Nat),rm c h' S (xs.foldl setStep []) led→(∀b o,b≠S→s.heap.get? b=some o→h'.get? b=some o)→R .none { s with heap:=h',toks:=tk }):
 wpAny (model c.prog c.w) A (Builtin.«set.__init__» ⟨[.ref S,.ref l],[]⟩) (fun f bp=>∃v,f= .done (.ret v)∧R v bp) E s:=by
 have hT:s.TypeIs (.ref S) "set":=⟨_,hS,rfl⟩
 have hsls:=PySem.F.sub_list_set
 have hslf:=PySem.F.sub_list_frozenset
 have Wg:(Value.type "list" == Value.type "dict")=false:=by decide
 have PE:s.heap.IsList l items:=⟨_,hl,rfl,m,rfl⟩
 unfold Builtin.«set.__init__» noKeywords Builtin.Frozenset.updateFrom
 generalize hPI:pyIter=PI
 wp_walk
 subst hPI
 refine wpAny_pyIter_list PE ?_
 refine wpAny_bind (wpAny_runValue ?_)
 have eI:=Heap.ba s.heap (Nat.le_refl _)
 have ne:∀{b o},s.heap.get? b=some o→b≠s.heap.objs.size:=fun e q=>bQ e (q▸eI)
 refine Nq (c:=c) (A:=_) (by simp [hh]) (ne hl) (ne hS) WD xs.length xs 0 _ [] rfl ⟨_,Heap.get?_push_size _ rfl,rfl,rfl⟩ (Heap.get?_push_of_some _ hl) hi
  ((T7 hS).at' fun o e=>Heap.get?_push_of_some _ e) (by rw [List.length_nil,Nat.zero_add];exact hb) fun h' t' kp hZ=>?_
 show wpAny _ _ _ _ _ _
 refine wpAny_pure ?_
 show wpAny _ _ (ret Value.none) _ _ _
 exact wpAny_pure ⟨_,rfl,h h' t' hZ fun b o hb e=>kp b o (ne e) hb (Heap.get?_push_of_some _ e)⟩
set_option maxHeartbeats 3200000 in
theorem KU {l:Addr} {items:Array Value} {m:Nat} {xs:List Int} {Q:Value→Shared→Prop}
 (hh:A.handled=none) (hl:s.heap.get? l=some (PySem.W.listOf items m)) (hi:IntsAre items.toList xs) (hb:xs.length+1<scanBound)
 (h:∀(h':Heap) (tk:Nat),rm c h' s.heap.objs.size (xs.foldl setStep []) (!c.w.params.followText "set-order")→
  (∀b o,b<s.heap.objs.size→s.heap.get? b=some o→h'.get? b=some o)→Q (.ref s.heap.objs.size) { s with heap:=h',toks:=tk }):
 wpAny (model c.prog c.w) A (call (.type "set") [.ref l]) Q E s:=by
 obtain ⟨cl,tl,hmro⟩:=PySem.F.called_set.mro
 have hmade:=PySem.F.called_set.made
 have Zd:=PySem.F.called_set.sub
 have hn:=fun A=>@QA c A E s (.ref l) (fun obj s₁=>obj= .ref s.heap.objs.size∧s₁={ s with heap:=s.heap.push (Nr (!c.w.params.followText "set-order")) }) ⟨rfl,rfl⟩
 generalize (!c.w.params.followText "set-order")=led at h hn
 refine wpAny_call (codeAny_of_tree ?_)
 show wpAny _ _ (callAny (.type "set") _) _ _ _
 refine wpAny_pure ⟨Code.quiet_builtin _ (by decide+kernel),codeAny_builtin PySem.F.entry_type_call ?_⟩
 rw [Around.under_plain (weight_type_call_type "set" [.ref l] []) rfl]
 have h1:=PySem.F.called_set.notType
 have h2:=PySem.F.called_set.canCreate
 have hct:=PySem.F.typeCall_set_1 (.ref l)
 repeat (any_goals (first | assumption | wp_step))
 refine codeAny_mono (hn _) fun r s₁ hr=>?_
 cases r with
 | error e=>exact hr
 | ok fl=>
   cases fl with
   | ret obj=>
     obtain ⟨rfl,es⟩:=hr
     have hS:s₁.heap.get? s.heap.objs.size=some (Nr led):=es▸Heap.get?_push_size _ rfl
     have hk:∀b o,s.heap.get? b=some o→s₁.heap.get? b=some o:=fun b o e=>es▸Heap.get?_push_of_some _ e
     have h:∀(h':Heap) (tk:Nat),rm c h' s.heap.objs.size (xs.foldl setStep []) led→(∀b o,b≠s.heap.objs.size→s₁.heap.get? b=some o→h'.get? b=some o)→Q (.ref s.heap.objs.size) { s₁ with heap:=h',toks:=tk }:=
      fun h' tk a k=>es▸h h' tk a fun b o q e=>k b o (Nat.ne_of_lt q) (hk b o e)
     have hT:s₁.TypeIs (.ref s.heap.objs.size) "set":=⟨_,hS,rfl⟩
     have hl:=hk _ _ hl
     have WD:l≠s.heap.objs.size:=Nat.ne_of_lt (Heap.lt_size (by assumption))
     clear es hk hn
     generalize s.heap.objs.size=S at *
     have hli:=PySem.F.called_set.init.lookup
     have hbi:=PySem.F.called_set.init.bind (.ref S)
     repeat (any_goals (first | assumption | wp_step))
     refine codeAny_mono (codeAny_call_builtin (R:=wants (fun r bp=>r= .none∧Q (.ref S) bp) E) PySem.F.called_set.init.plain PySem.F.entry_set_init (check_set_init_1 hT (wpAny_mono (KR (c:=c) (E:=E) (R:=fun r bp=>r= .none∧Q (.ref S) bp) hh hS hl WD hi hb fun h' tk a k=>⟨rfl,h h' tk a k⟩) (fun f bp x=>by obtain ⟨v,rfl,q⟩:=x;exact q) fun zz zz x=>x))) fun oh bp Nt=>?_
     cases oh with
     | error e=>exact Nt
     | ok WE=>
       cases WE with
       | ret r=>
         obtain ⟨rfl,hq⟩:=Nt
         repeat (any_goals (first | assumption | wp_step))
       | _=>exact Nt.elim
   | _=>exact hr.elim
end
end
section
set_option tactic.hygienic true
theorem rz:Manifest.owners.lookup (String.ofList ['r','o','t','a','r','e','t','i','_','t','e','s'].reverse)=some Manifest.sig_set_iterator:=by kernel_rfl
theorem hJ:Slot "set_iterator" "__next__" "set_iterator.__next__":=
 .of (owner:="set_iterator") (n:="__next__") (by rw [typeLookup_type,builtinLookup_eq_fast];kernel_rfl) (by decide+kernel) (by decide+kernel) (by decide+kernel)
  (by first | exact .inl (by decide+kernel) | exact .inr (by decide+kernel)) (by rw [isSubtype_type];kernel_rfl)
theorem w5:entryFor table "set_iterator.__next__"=some Builtin.«set_iterator.__next__»:=entryFor_of_tree (by kernel_rfl)
theorem yy (a:Value):argsOk "set_iterator.__next__" ⟨[a],[]⟩:=by
 unfold argsOk;rw [signature?_of (id:="set_iterator.__next__") (n:=['_','_','t','x','e','n','_','_']) (o:=['r','o','t','a','r','e','t','i','_','t','e','s']) (by kernel_rfl) rz];kernel_rfl
theorem yz:entryFor table "set.__iter__"=some Builtin.«frozenset.__iter__»:=
 entryFor_alias (id':="frozenset.__iter__") (by kernel_rfl) (by first | rfl | decide+kernel) (by decide+kernel) (by kernel_rfl)
section
variable {M:Model} {A:Around} {E:Value→Shared→Prop} {s:Shared}
theorem CD {src:Source} {n:Nat} {Q:Nat→Shared→Prop} (hn:n≠0) (h:∀i dr,i<n→Q i { s with drawn:=dr }):wpAny M A (choose src n) Q E s:=fun Γ p hΓ=>by
 unfold choose
 rw [Sem.wp_choose]
 exact ⟨hn,h _ _ (Nat.mod_lt _ (Nat.pos_of_ne_zero hn))⟩
theorem yA {α:Type} {l:List α}:∀{i:Nat} (h:i<l.length),(l[i]::l.eraseIdx i).Perm l:=by
 induction l with
 | nil=>intro i h;exact absurd h (Nat.not_lt_zero _)
 | cons x l ih=>
   intro i h
   cases i with
   | zero=>exact .refl _
   | succ i=>exact (List.Perm.swap x _ _).trans ((ih (Nat.lt_of_succ_lt_succ h)).cons x)
theorem xa {α:Type} {n:Nat}:∀{xs:List α} {s:Shared} {Q:List α→Shared→Prop},xs.length=n→(∀ys dr,ys.Perm xs→Q ys { s with drawn:=dr })→wpAny M A (drawOrder n xs) Q E s:=by
 induction n with
 | zero=>
   intro xs s Q hl h
   obtain rfl:=List.length_eq_zero_iff.mp hl
   exact wpAny_pure (h [] s.drawn .nil)
 | succ n ih=>
   intro xs s Q hl h
   cases xs with
   | nil=>cases hl
   | cons x xs=>
     show wpAny _ _ (choose _ (x::xs).length >>= _) _ _ _
     refine wpAny_bind (CD (Nat.succ_ne_zero _) fun i dr hi=>?_)
     rw [List.getElem?_eq_getElem hi]
     refine wpAny_bind (ih ((List.length_eraseIdx_of_lt hi).trans (congrArg (· - 1) hl)) fun ys dr' hp=>wpAny_pure (h _ dr' ((hp.cons _).trans (yA hi))))
end
end
section
set_option tactic.hygienic true
section
variable {c:Cfg} {A:Around} {E:Value→Shared→Prop} {s:Shared}
theorem dF {M:Model} {α:Type} {b:Bool} {t e:Sem α} {Q:α→Shared→Prop} (h:b=false) (k:wpAny M A e Q E s):wpAny M A (if b=true then t else e) Q E s:=by rw [h];exact k
theorem kK {M:Model} {α:Type} {b:Bool} {t e:Sem α} {Q:α→Shared→Prop} (h:b=true) (k:wpAny M A t Q E s):wpAny M A (if b=true then t else e) Q E s:=by rw [h];exact k
structure i7 (h:Heap) (S:Addr) (es:Array (Int×Value)) (ep:Nat) (t:SetTable):Prop where
 at_:∃o,h.get? S=some o∧o.ExactSet∧o.data= .set es ep t
 fits:t.fits es.size=true
theorem i7.at' {h h':Heap} {S es ep t} (x:i7 h S es ep t) (k:∀o,h.get? S=some o→h'.get? S=some o):i7 h' S es ep t:=⟨(by obtain ⟨o,ho,r⟩:=x.at_;exact ⟨o,k o ho,r⟩),x.fits⟩
inductive Mode where
 | text
 | plain
 | drawn (T:Addr) (perm:List Nat)
noncomputable def slotAt (t:SetTable):Nat→Nat
 | 0=>0
 | i+1=>t.place.getD i 0+1
noncomputable def orderOf (c:Cfg) (S:Addr) (es:Array (Int×Value)) (ep:Nat):Mode→List Value
 | .text=>(pickOrder (c.w.params.setOrder S ep) es).toList.map (·.2)
 | .plain=>es.toList.map (·.2)
 | .drawn _ perm=>perm.filterMap fun j=>es[j]?.map (·.2)
noncomputable def firstOf (t:SetTable) (i:Nat):Mode→Value
 | .text=>rawInt 0
 | .plain=>rawInt (slotAt t i)
 | .drawn T _=>.ref T
def jr (c:Cfg) (h:Heap) (es:Array (Int×Value)) (t:SetTable):Mode→Prop
 | .text=>c.w.params.followText "set-order"=true
 | .plain=>c.w.params.followText "set-order"=false∧(!t.plain&&decide (es.size > 1))=false∧t.led=true∧i6 t.place
 | .drawn T perm=>(∃xs,IsTup h T xs∧xs.toList=perm.map fun (j:Nat)=>rawInt j)∧perm.Perm (List.range es.size)
def yB (c:Cfg) (h:Heap) (S:Addr) (es:Array (Int×Value)) (ep:Nat) (t:SetTable) (m:Mode) (I:Addr) (i:Nat):Prop:=
 ∃o,h.get? I=some o∧o.cls= .type "set_iterator"∧o.data= .fields #[firstOf t i m,rawInt i,.ref S,rawInt es.size,rawInt ep]
theorem KW {α:Type} {next:Nat→Nat} {fuel:Nat}:∀{k:Nat} {l:List α} {out:Array α},l.length=fuel→(pickOrder.go next fuel k l out).toList.Perm (out.toList++l):=by
 induction fuel with
 | zero=>
   intro k l out h
   obtain rfl:=List.length_eq_zero_iff.mp h
   rw [List.append_nil];exact .refl _
 | succ fuel ih=>
   intro k l out h
   have uX:next k % l.length<l.length:=Nat.mod_lt _ (h▸Nat.succ_pos _)
   have e:∀o,l[next k % l.length]? =o→pickOrder.go next (fuel+1) k l out=(match o with
    | some x=>pickOrder.go next fuel (k+1) (l.eraseIdx (next k % l.length)) (out.push x)
    | none=>out):=fun o h=>h▸rfl
   rw [e _ (List.getElem?_eq_getElem uX)]
   refine (ih ((List.length_eraseIdx_of_lt uX).trans (congrArg (· - 1) h))).trans ?_
   rw [Array.toList_push,List.append_assoc]
   exact (yA uX).append_left _
theorem yC {α:Type} {next:Nat→Nat} (es:Array α):(pickOrder next es).toList.Perm es.toList:=KW (out:=#[]) rfl
theorem rA {S:Addr} {es:Array (Int×Value)} {ep:Nat} {t:SetTable} {h:Heap} {m:Mode} (hm:jr c h es t m):(orderOf c S es ep m).Perm (es.toList.map (·.2)):=by
 cases m with
 | text=>exact (yC es).map _
 | plain=>exact .refl _
 | drawn T perm=>
   have:=hm.2.filterMap fun j=>es[j]?.map (·.2)
   refine this.trans ?_
   have e:(List.range es.size).filterMap (fun j=>es[j]?.map (·.2))=es.toList.map (·.2):=by
    rw [←filterMap_getElem?_range es,List.map_filterMap]
   rw [e]
theorem jO {S:Addr} {es ep t} {Q:(Array (Int×Value)×Nat×SetTable)→Shared→Prop} {M:Model} (x:i7 s.heap S es ep t) (h:Q (es,ep,t) s):wpAny (model c.prog c.w) A (setState S) Q E s:=by
 obtain ⟨o,ho,_,hd⟩:=x.at_
 exact wpAny_setState_of ho hd x.fits h
theorem CF {Q:Bool→Shared→Prop} (h:Q (c.w.params.followText "set-order") s):wpAny (model c.prog c.w) A setsByText Q E s:=by
 unfold setsByText
 exact wpAny_bind (wpAny_askSetting (wpAny_pure h))
theorem yD {S:Addr} {es ep t} {Q:Array (Int×Value)→Shared→Prop} (x:i7 s.heap S es ep t) (h:Q es s):wpAny (model c.prog c.w) A (setEntries S) Q E s:=by
 unfold setEntries
 exact wpAny_bind (jO (M:=model c.prog c.w) x (wpAny_pure h))
end
end
section
set_option tactic.hygienic true
section
variable {c:Cfg} {A:Around} {E:Value→Shared→Prop} {s:Shared}
theorem HU {t:SetTable} (hr:i6 t.place) {i:Nat} (hi:i≤t.place.size):SetTable.below t.place (slotAt t i)=i:=by
 cases i with
 | zero=>exact (Nat.eq_zero_or_pos _).elim id fun h=>absurd ((kJ (j:=0) hr).lt 0 h) (Nat.not_lt_zero _)
 | succ k=>exact (kJ hr).after hr hi
theorem HV {S:Addr} {es ep t} {m:Mode} {i:Nat} {first:Int} {Q:Option (Value×Nat)→Shared→Prop} (x:i7 s.heap S es ep t) (hm:jr c s.heap es t m) (hf:firstOf t i m=rawInt first) (hi:i≤es.size)
 (h:∀r,(∀v,(orderOf c S es ep m)[i]? =some v→∃n:Nat,r=some (v,n)∧firstOf t (i+1) m=rawInt n)→((orderOf c S es ep m)[i]? =none→r=none)→Q r s):wpAny (model c.prog c.w) A (setNext S first.toNat i ep) Q E s:=by
 unfold setNext
 refine wpAny_bind (jO (M:=model c.prog c.w) x (wpAny_bind (CF ?_)))
 cases m with
 | text=>
   have hm:c.w.params.followText "set-order"=true:=hm
   have T8:first=0:=by
    have :rawInt 0=rawInt first:=hf
    unfold rawInt at this;injection this with e;exact e.symm
   subst T8
   refine kK hm (dF (by simp) ?_)
   unfold setWalk
   refine wpAny_bind (wpAny_bind (jO (M:=model c.prog c.w) x (wpAny_bind (CF (kK hm (wpAny_bind (wpAny_askSetting (wpAny_pure ?_))))))))
   refine wpAny_pure (h _ (fun v hv=>?_) fun hv=>?_)
   ·unfold orderOf at hv
    rw [List.getElem?_map,Array.getElem?_toList] at hv
    obtain ⟨e,he,rfl⟩:=Option.map_eq_some_iff.mp hv
    exact ⟨0,by show ((pickOrder (c.w.params.setOrder S ep) es)[i]?).map _=_;rw [he];rfl,rfl⟩
   ·unfold orderOf at hv
    rw [List.getElem?_map,Array.getElem?_toList] at hv
    have he:=Option.map_eq_none_iff.mp hv
    show ((pickOrder (c.w.params.setOrder S ep) es)[i]?).map _=_
    rw [he];rfl
 | plain=>
   obtain ⟨h1,h2,h3,h4⟩:=hm
   have T8:first=(slotAt t i:Nat):=by
    have :rawInt (slotAt t i)=rawInt first:=hf
    unfold rawInt at this;injection this with e;exact e.symm
   subst T8
   refine dF h1 (dF (show _=false from h2) (wpAny_bind (dF (show _=false from (by rw [h3];rfl)) (wpAny_pure ?_))))
   have xZ:t.place.size=es.size:=by
    have:=x.fits
    simp only [SetTable.fits,Bool.and_eq_true,beq_iff_eq] at this
    exact this.1
   have e1:((slotAt t i:Nat):Int).toNat=slotAt t i:=Int.toNat_natCast _
   dsimp only
   rw [e1,HU h4 (by rw [xZ];exact hi)]
   refine wpAny_pure (h _ (fun v hv=>?_) fun hv=>?_)
   ·unfold orderOf at hv
    rw [List.getElem?_map,Array.getElem?_toList] at hv
    obtain ⟨e,he,rfl⟩:=Option.map_eq_some_iff.mp hv
    have uX:i<es.size:=(Array.getElem?_eq_some_iff.mp he).1
    have hp:t.place[i]? =some (t.place.getD i 0):=by
     rw [Array.getElem?_eq_getElem (xZ▸uX),getD_at (xZ▸uX)]
    rw [he,hp]
    exact ⟨_,rfl,rfl⟩
   ·unfold orderOf at hv
    rw [List.getElem?_map,Array.getElem?_toList] at hv
    have he:=Option.map_eq_none_iff.mp hv
    rw [he]
 | drawn T perm=>exact absurd hf (by unfold firstOf rawInt;simp)
end
end
section
set_option tactic.hygienic true
section
variable {c:Cfg} {A:Around} {E:Value→Shared→Prop} {s:Shared}
theorem Jt {T:Fin→Shared→Prop} {Q:Option Value→Shared→Prop} (hh:A.handled=none) (k:∀h',(∀b o,s.heap.get? b=some o→h'.get? b=some o)→Q none { s with heap:=h' }):
 wpAny (model c.prog c.w) A.in1 (newExc (.type "StopIteration") [] >>= fun e=>(raiseNew e:Sem Fin)) T
  (fun e s'=>wpAny (model c.prog c.w) A (isInstance e (.type "StopIteration") >>= fun b=>if b=true then pure (none:Option Value) else throw e) Q E s') s:=by
 refine wpAny_bind ?_
 unfold newExc newTuple
 refine wpAny_bind (wpAny_newObj_type ?_ (by size_fits))
 refine wpAny_bind (m:=firstArgMember _ _) (wpAny_of_eq (a:=Value.none) (by first | rfl | (simp only [firstArgMember];rfl)) ?_)
 refine wpAny_newObj_type ?_ (by size_fits)
 unfold raiseNew
 refine wpAny_bind (wpAny_handled ?_)
 rw [show A.in1.handled=none from hh]
 refine wpAny_bind (wpAny_pure (wpAny_throw ?_))
 exact wpAny_bind (wpAny_isInstance (T:="StopIteration") (b:=true) ⟨_,Heap.get?_push_size _ rfl,rfl⟩ isSubtype_stop (wpAny_pure (k _ fun b o e=>Heap.get?_push_of_some _ (Heap.get?_push_of_some _ e))))
theorem WG {es:Array (Int×Value)} {l:List Nat}:(∀j∈l,j<es.size)→∀{j:Nat},(l.filterMap fun (j:Nat)=>(es[j]?).map fun p=>p.2)[j]? =(l[j]?).bind fun (j:Nat)=>(es[j]?).map fun p=>p.2:=by
 induction l with
 | nil=>intro _ j;rfl
 | cons a l ih=>
   intro hl j
   have e1:(es[a]?).map (fun p=>p.2)=some (es[a]'(hl a (List.mem_cons_self ..))).2:=by rw [Array.getElem?_eq_getElem (hl a (List.mem_cons_self ..))];rfl
   rw [List.filterMap_cons_some (f:=fun (j:Nat)=>(es[j]?).map fun p=>p.2) e1]
   cases j with
   | zero=>exact e1.symm
   | succ j=>exact ih fun j hj=>hl j (List.mem_cons_of_mem _ hj)
theorem yE {M:Model} {α:Type} {I:Addr} {o:Obj} {vs:Array Value} {x y:Value} {k:Sem α} {Q:α→Shared→Prop} (ho:s.heap.get? I=some o) (hd:o.data= .fields vs) (h0:0<vs.size) {i:Nat} (h1:i<vs.size)
 (h:∀h',Heap.ExtBut I s.heap h'→(∃o',h'.get? I=some o'∧o'.cls=o.cls∧o'.data= .fields ((vs.setIfInBounds 0 x).setIfInBounds i y))→wpAny M A k Q E { s with heap:=h' }):
 wpAny M A (setField (.ref I) 0 x >>= fun zz=>setField (.ref I) i y >>= fun zz=>k) Q E s:=by
 have TZ:=Heap.get?_update_self (Obj.mapFields (·.setIfInBounds 0 x)) ho (Obj.isFreed_of_fields (Obj.data_mapFields hd _))
 have Ze:=Obj.data_mapFields hd (·.setIfInBounds 0 x)
 refine wpAny_bind (wpAny_setField ho hd h0 ?_)
 refine wpAny_bind (wpAny_setField TZ Ze (by rw [Array.size_setIfInBounds];exact h1) ?_)
 refine h _ ((Heap.SameBut.update ..).trans (Heap.SameBut.update ..)).extBut ⟨_,Heap.get?_update_self _ TZ (Obj.isFreed_of_fields (Obj.data_mapFields Ze _)),(Obj.cls_mapFields ..).trans (Obj.cls_mapFields ..),Obj.data_mapFields Ze _⟩
structure xO (c:Cfg) (S:Addr) (es:Array (Int×Value)) (ep:Nat) (t:SetTable) (m:Mode) (I:Addr) (i:Nat) (s:Shared) (Q:Option Value→Shared→Prop):Prop where
 item:∀v h',(orderOf c S es ep m)[i]? =some v→yB c h' S es ep t m I (i+1)→Heap.ExtBut I s.heap h'→Q (some v) { s with heap:=h' }
 done:∀h',(orderOf c S es ep m)[i]? =none→Heap.ExtBut I s.heap h'→Q none { s with heap:=h' }
def xP (c:Cfg) (A:Around) (E:Value→Shared→Prop) (Q:Option Value→Shared→Prop):Value→Shared→Prop:=
 fun e s'=>wpAny (model c.prog c.w) A (isInstance e (.type "StopIteration") >>= fun b=>if b=true then pure (none:Option Value) else throw e) Q E s'
theorem yF (hh:A.handled=none) {S I:Addr} {es ep t} {m:Mode} {i f:Nat} {Q:Option Value→Shared→Prop} (x:i7 s.heap S es ep t) (hm:jr c s.heap es t m) (it:yB c s.heap S es ep t m I i) (hi:i≤es.size) (hf:firstOf t i m=rawInt f)
 (k:xO c S es ep t m I i s Q):wpAny (model c.prog c.w) A.in1 (setNext S ((f:Int)).toNat ((i:Int)).toNat ((ep:Int)).toNat >>= fun r=>match r with
  | some (x,next)=>setField (.ref I) 0 (rawInt next) >>= fun zz=>setField (.ref I) 1 (rawInt ((i:Int)+1)) >>= fun zz=>ret x
  | none=>setField (.ref I) 2 .none >>= fun zz=>newExc (.type "StopIteration") [] >>= fun e=>raiseNew e)
  (fun fin s'=>∃v,fin= .done (.ret v)∧wpAny (model c.prog c.w) A (pure (some v)) Q E s') (xP c A E Q) s:=by
 obtain ⟨o,ho,hc,hd⟩:=it
 rw [Int.toNat_natCast i,Int.toNat_natCast ep]
 refine wpAny_bind (HV (first:=(f:Int)) x hm hf hi fun r h1 h2=>?_)
 cases hv:(orderOf c S es ep m)[i]? with
 | some v=>
   obtain ⟨n,rfl,hn⟩:=h1 v hv
   refine yE ho hd (Nat.le_of_ble_eq_true rfl) (Nat.le_of_ble_eq_true rfl) fun h' xb Cg=>?_
   obtain ⟨o',e1,e2,e3⟩:=Cg
   exact wpAny_pure ⟨_,rfl,wpAny_pure (k.item v h' hv ⟨o',e1,e2.trans hc,e3.trans (hn▸rfl)⟩ xb)⟩
 | none=>
   obtain rfl:=h2 hv
   exact wpAny_bind (wpAny_setField ho hd (Nat.le_of_ble_eq_true rfl) (Jt hh fun h' kp=>k.done h' hv fun b o hb e=>kp b o ((Heap.SameBut.update ..).extBut b o hb e)))
theorem FL {S:Addr} {es:Array (Int×Value)} {ep:Nat} {T:Addr} {perm:List Nat} {i:Nat} (hp:perm.Perm (List.range es.size)):(∀j∈perm,j<es.size)∧(orderOf c S es ep (.drawn T perm))[i]? =(perm[i]?).bind fun (j:Nat)=>(es[j]?).map fun p=>p.2:=
 have QB:∀j∈perm,j<es.size:=fun j hj=>List.mem_range.mp (hp.mem_iff.mp hj)
 ⟨QB,WG QB⟩
theorem HW {S I T:Addr} {es ep t} {perm:List Nat} {i j:Nat} {Q:Option Value→Shared→Prop} (x:i7 s.heap S es ep t) (hp:perm.Perm (List.range es.size)) (it:yB c s.heap S es ep t (.drawn T perm) I i) (hq:perm[i]? =some j) (k:xO c S es ep t (.drawn T perm) I i s Q):
 wpAny (model c.prog c.w) A.in1 (setNextDrawn S ((j:Int)).toNat ((ep:Int)).toNat >>= fun v=>setField (.ref I) 1 (rawInt ((i:Int)+1)) >>= fun zz=>ret v) (fun fin s'=>∃v,fin= .done (.ret v)∧wpAny (model c.prog c.w) A (pure (some v)) Q E s') (xP c A E Q) s:=by
 obtain ⟨o,ho,hc,hd⟩:=it
 obtain ⟨QB,FO⟩:=FL (c:=c) (S:=S) (ep:=ep) (T:=T) (i:=i) hp
 have hj:=QB j (List.mem_of_getElem? hq)
 rw [hq] at FO
 have hv:(orderOf c S es ep (.drawn T perm))[i]? =some (es[j].2):=FO.trans (by show (es[j]?).map (fun p=>p.2)=_;rw [Array.getElem?_eq_getElem hj];rfl)
 rw [Int.toNat_natCast j,Int.toNat_natCast ep]
 unfold setNextDrawn
 refine wpAny_bind (wpAny_bind (jO (M:=model c.prog c.w) x (dF (bne_self_eq_false _) ?_)))
 rw [Array.getElem?_eq_getElem hj]
 have TZ:=Heap.get?_update_self (Obj.mapFields (·.setIfInBounds 1 (rawInt ((i:Int)+1)))) ho (Obj.isFreed_of_fields (Obj.data_mapFields hd _))
 exact wpAny_pure (wpAny_bind (wpAny_setField ho hd (Nat.le_of_ble_eq_true rfl) (wpAny_pure ⟨_,rfl,wpAny_pure (k.item _ _ hv ⟨_,TZ,(Obj.cls_mapFields ..).trans hc,(Obj.data_mapFields hd _).trans rfl⟩ (Heap.SameBut.update ..).extBut)⟩)))
theorem HX (hh:A.handled=none) {S I T:Addr} {es ep t} {perm:List Nat} {i:Nat} {T':Fin→Shared→Prop} {Q:Option Value→Shared→Prop} (hp:perm.Perm (List.range es.size)) (it:yB c s.heap S es ep t (.drawn T perm) I i) (hq:perm[i]? =none) (k:xO c S es ep t (.drawn T perm) I i s Q):
 wpAny (model c.prog c.w) A.in1 (setField (.ref I) 0 (rawInt 0) >>= fun zz=>setField (.ref I) 2 .none >>= fun zz=>newExc (.type "StopIteration") [] >>= fun e=>(raiseNew e:Sem Fin)) T' (xP c A E Q) s:=by
 obtain ⟨o,ho,hc,hd⟩:=it
 have FO:=(FL (c:=c) (S:=S) (ep:=ep) (T:=T) (i:=i) hp).2
 rw [hq] at FO
 exact yE ho hd (Nat.le_of_ble_eq_true rfl) (Nat.le_of_ble_eq_true rfl) fun h' xb zz=>Jt hh fun h2 kp=>k.done h2 FO fun b o hb e=>kp b o (xb b o hb e)
theorem Bt (hh:A.handled=none) {S I:Addr} {es ep t} {m:Mode} {i:Nat} {Q:Option Value→Shared→Prop} (x:i7 s.heap S es ep t) (hm:jr c s.heap es t m) (it:yB c s.heap S es ep t m I i) (hi:i≤es.size)
 (k:xO c S es ep t m I i s Q):wpAny (model c.prog c.w) A (pyNext (.ref I)) Q E s:=by
 obtain ⟨o,ho,hc,hd⟩:=id it
 have hT:s.TypeIs (.ref I) "set_iterator":=⟨o,ho,hc⟩
 unfold pyNext
 refine wpAny_bind (wpAny_attempt (wpAny_callSpecial?_slot (name:=Str.ofString "__next__") hT hJ (wpAny_call_entry hJ hT w5 ?_ (yy _))))
 show wpAny _ _ (fieldsOf (.ref I) >>= _) _ (xP c A E Q) s
 refine wpAny_bind (wpAny_fieldsOf ho hd ?_)
 show wpAny _ _ (setEntries S >>= _) _ _ s
 refine wpAny_bind (yD x ?_)
 refine dF (by simp) ?_
 cases m with
 | text=>exact yF (f:=0) hh x hm it hi rfl k
 | plain=>exact yF hh x hm it hi rfl k
 | drawn T perm=>
   obtain ⟨⟨xs,⟨oT,hoT,hcT,nT,hdT⟩,hxs⟩,hp⟩:=hm
   show wpAny _ _ (seqItems? (.ref T) >>= _) _ _ s
   refine wpAny_bind (wpAny_seqItems hoT hdT ?_)
   dsimp only
   rw [Int.toNat_natCast i,show xs[i]? =(perm[i]?).map fun (j:Nat)=>rawInt j by rw [←Array.getElem?_toList,hxs,List.getElem?_map]]
   cases hq:perm[i]? with
   | some j=>exact HW x hp it hq k
   | none=>exact HX hh hp it hq k
end
end
section
set_option tactic.hygienic true
section
variable {c:Cfg} {A:Around} {E:Value→Shared→Prop} {s:Shared}
theorem HY {S:Addr} {es ep t} {Q:Value→Shared→Prop} (x:i7 s.heap S es ep t) (hg:fD (!c.w.params.followText "set-order") t) (xZ:es.size<4096)
 (h:∀m h' dr I,jr c h' es t m→yB c h' S es ep t m I 0→(∀b o,s.heap.get? b=some o→h'.get? b=some o)→s.heap.get? I=none→s.heap.objs.size≤I→Q (.ref I) { s with heap:=h',drawn:=dr }):
 wpAny (model c.prog c.w) A (pyIter (.ref S)) Q E s:=by
 obtain ⟨o,ho,hex,hd⟩:=x.at_
 have hT:s.TypeIs (.ref S) "set":=⟨o,ho,hex.1⟩
 refine wpAny_pyIter_slot hT PySem.F.slot_set_iter (wpAny_call_entry PySem.F.slot_set_iter hT yz ?_ (PySem.F.args_set_iter_1 _))
 unfold Builtin.«frozenset.__iter__»
 show wpAny _ _ (Builtin.Frozenset.sizeOf S >>= _) _ _ s
 unfold Builtin.Frozenset.sizeOf
 refine wpAny_bind (wpAny_bind (yD x (wpAny_pure ?_)))
 refine wpAny_bind ?_
 unfold setDrawn
 refine wpAny_bind (jO (M:=model c.prog c.w) x (wpAny_bind (CF (wpAny_pure ?_))))
 have fin:∀(m:Mode) (h':Heap) (dr:Drawn),jr c h' es t m→(∀b o,s.heap.get? b=some o→h'.get? b=some o)→s.heap.objs.size≤h'.objs.size→
  wpAny (model c.prog c.w) A.in1 (setEpoch S >>= fun e=>newFields "set_iterator" [firstOf t 0 m,rawInt 0,.ref S,rawInt es.size,rawInt e] >>= fun v=>ret v)
   (fun fin s'=>∃v,fin= .done (.ret v)∧∃T' r,s'.TypeIs v T'∧typeLookup (.type T') "__next__"=pure (some r)∧Q v s') (fun e s'=>E e s') { s with heap:=h',drawn:=dr }:=fun m h' dr hm kp hle=>by
  have x':i7 h' S es ep t:=x.at' (kp _)
  unfold setEpoch
  refine wpAny_bind (wpAny_bind (jO (s:={ s with heap:=h',drawn:=dr }) (M:=model c.prog c.w) x' (wpAny_pure ?_)))
  refine wpAny_bind (wpAny_newObj_type (wpAny_pure ⟨_,rfl,"set_iterator",_,⟨_,Heap.get?_push_size _ rfl,rfl⟩,hJ.lookup,?_⟩))
  refine h m (h'.push _) dr h'.objs.size ?_ ⟨_,Heap.get?_push_size _ rfl,rfl,rfl⟩ (fun b o e=>Heap.get?_push_of_some _ (kp b o e)) (Heap.ba _ hle) hle
  cases m with
  | text=>exact hm
  | plain=>exact hm
  | drawn T perm=>exact ⟨(by obtain ⟨xs,ht,e⟩:=hm.1;exact ⟨xs,ht.push _,e⟩),hm.2⟩
 cases hb:(!c.w.params.followText "set-order"&&(!t.plain&&decide (es.size > 1))) with
 | true=>
   refine kK (show _=true from hb) ?_
   refine wpAny_bind (xa (n:=es.size) (xs:=List.range es.size) List.length_range fun ys dr hp=>?_)
   have ly:ys.length=es.size:=hp.length_eq.trans List.length_range
   refine wpAny_bind (wpAny_newObj_type ?_ ?_)
   rotate_left
   ·show (ys.map fun (i:Nat)=>rawInt i).toArray.size≤sizeLine
    rw [List.size_toArray,List.length_map,ly,sizeLine_eq];exact Nat.le_of_lt (Nat.lt_trans xZ (Nat.le_of_ble_eq_true rfl))
   refine fin (.drawn s.heap.objs.size ys) _ dr ⟨⟨_,⟨_,Heap.get?_push_size _ rfl,rfl,_,rfl⟩,by simp⟩,hp⟩ (fun b o e=>Heap.get?_push_of_some _ e) (by rw [Heap.size_push];exact Nat.le_succ _)
 | false=>
   refine dF (show _=false from hb) (wpAny_bind (wpAny_pure ?_))
   cases ht:c.w.params.followText "set-order" with
   | true=>exact fin .text s.heap s.drawn ht (fun b o e=>e) (Nat.le_refl _)
   | false=>
     rw [ht] at hb hg
     exact fin .plain s.heap s.drawn ⟨ht,by simpa using hb,hg.led,hg.FD⟩ (fun b o e=>e) (Nat.le_refl _)
end
end
section
set_option tactic.hygienic true
section
variable {c:Cfg} {A:Around} {E:Value→Shared→Prop} {s:Shared}
theorem jr.vk {h h':Heap} {es t} {m:Mode} (k:cR h h') (x:jr c h es t m):jr c h' es t m:=by
 cases m with
 | text=>exact x
 | plain=>exact x
 | drawn T perm=>exact ⟨(by obtain ⟨xs,⟨o,ho,hc,n,hd⟩,e⟩:=x.1;exact ⟨xs,⟨o,k _ _ ho (.inl ⟨hc,_,_,hd⟩),hc,n,hd⟩,e⟩),x.2⟩
theorem KY (hh:A.handled=none) {S I L:Addr} {es ep t} {m:Mode} (T4:S≠I) (WH:S≠L) (Wk:L≠I) (xZ:es.size<4096) {R:Result→Shared→Prop} {k:Nat}:
 ∀{i:Nat} {s:Shared} {acc:Array Value} {n:Nat},es.size=i+k→i7 s.heap S es ep t→jr c s.heap es t m→yB c s.heap S es ep t m I i→s.heap.get? L=some (PySem.W.listOf acc n)→acc.toList=(orderOf c S es ep m).take i→
  (∀h' eY n',(∀b o,b≠I→b≠L→s.heap.get? b=some o→h'.get? b=some o)→h'.get? L=some (PySem.W.listOf eY n')→eY.toList=orderOf c S es ep m→R (.ok (.ret (.ref L))) { s with heap:=h' })→
  codeAny (model c.prog c.w) A (.builtin "list.extend.loop" ⟨[.ref L,.ref I,.ref L],[]⟩) R s:=by
 induction k with
 | zero=>
   intro i s acc n hk x hm it hL ha kk
   have lo:(orderOf c S es ep m).length=es.size:=by rw [(rA hm).length_eq,List.length_map,Array.length_toList]
   refine codeAny_builtin PySem.F.entry_extend_loop ?_
   rw [Around.under_plainId PySem.F.plain_extend_loop _]
   show wpAny _ A.in1 (pyNext (.ref I) >>= _) _ _ s
   refine wpAny_bind (Bt (A:=A.in1) hh x hm it (Nat.le_of_eq hk.symm) ⟨fun v h' hv zz zz=>?_,fun h' hv xb=>?_⟩)
   ·exact absurd (List.getElem?_eq_some_iff.mp hv).1 (by rw [lo,hk];exact Nat.lt_irrefl _)
   ·exact wpAny_pure (kk h' acc n (fun b o h1 zz e=>xb b o h1 e) (xb _ _ Wk hL) (ha.trans (List.take_of_length_le (Nat.le_of_eq (lo.trans hk)))))
 | succ k ih=>
   intro i s acc n hk x hm it hL ha kk
   have uX:i<es.size:=hk▸Nat.lt_add_of_pos_right (Nat.succ_pos k)
   have lo:(orderOf c S es ep m).length=es.size:=by rw [(rA hm).length_eq,List.length_map,Array.length_toList]
   refine codeAny_builtin PySem.F.entry_extend_loop ?_
   rw [Around.under_plainId PySem.F.plain_extend_loop _]
   show wpAny _ A.in1 (pyNext (.ref I) >>= _) _ _ s
   obtain ⟨oI,PB,hcI,_⟩:=id it
   refine wpAny_bind (Bt (A:=A.in1) hh x hm it (Nat.le_of_lt uX) ⟨fun v h' hv yi xb=>?_,fun h' hv xb=>?_⟩)
   ·have vk:cR s.heap h':=.but PB (da hcI (by decide) (by decide)) xb
    have M4:=xb _ _ Wk hL
    show wpAny _ A.in1 (updateSeq L (·.push v) >>= _) _ _ _
    have la:acc.size=i:=by rw [←Array.length_toList,ha,List.length_take,lo];exact Nat.min_eq_left (Nat.le_of_lt uX)
    have lz:acc.size≤sizeLine:=by rw [la,sizeLine_eq];exact Nat.le_of_lt (Nat.lt_trans uX (Nat.lt_trans xZ (Nat.le_of_ble_eq_true rfl)))
    refine wpAny_bind (wpAny_updateSeq (s:={ s with heap:=h' }) M4 rfl (wpAny_pure ⟨plainId_quiet PySem.F.plain_extend_loop _,?_⟩) lz (by show (acc.push v).size≤sizeLine+1;rw [Array.size_push];exact Nat.succ_le_succ lz))
    obtain ⟨n',Zf⟩:=q8 (ys:=acc.push v) (·.push v) M4 rfl
    have XZ:Heap.ExtBut L h' (h'.update L (Obj.mapSeq (·.push v))):=(Heap.SameBut.update ..).extBut
    have Wm:cR h' (h'.update L (Obj.mapSeq (·.push v))):=.but M4 (da rfl (by decide) (by decide)) XZ
    generalize h'.update L (Obj.mapSeq (·.push v))=h2 at *
    refine ih (s:={ s with heap:=h2 }) (hk.trans (Nat.succ_add i k).symm) ((x.at' fun o e=>xb _ _ T4 e).at' fun o e=>XZ _ _ WH e) ((hm.vk vk).vk Wm) ?_ Zf ?_ fun h3 eY n3 a1 a2 a3=>kk h3 eY n3 (fun b o h1 h2 e=>a1 b o h1 h2 (XZ b o h2 (xb b o h1 e))) a2 a3
    ·obtain ⟨o,ho,r⟩:=yi
     exact ⟨o,XZ _ _ (Ne.symm Wk) ho,r⟩
    ·rw [Array.toList_push,ha,List.take_add_one,hv];rfl
   ·exact absurd (List.getElem?_eq_none_iff.mp hv) (by rw [lo];exact Nat.not_le.mpr uX)
theorem QC:typeLookup (.type "set") "__len__"=pure (some (.builtin "set.__len__")):=by rw [typeLookup_type,builtinLookup_eq_fast];kernel_rfl
theorem Nu (hh:A.handled=none) {S:Addr} {es ep t} {Q:List Value→Shared→Prop} (x:i7 s.heap S es ep t) (hg:fD (!c.w.params.followText "set-order") t) (xZ:es.size<4096)
 (h:∀vs h' dr,vs.Perm (es.toList.map (·.2))→(∀b o,s.heap.get? b=some o→h'.get? b=some o)→Q vs { s with heap:=h',drawn:=dr }):wpAny (model c.prog c.w) A (collect (.ref S)) Q E s:=by
 obtain ⟨o,ho,hex,hd⟩:=x.at_
 have Zg:=Heap.lt_size ho
 have hT:∀h',h'.get? S=some o→({ s with heap:=h' }:Shared).TypeIs (.ref S) "set":=fun h' e=>⟨o,e,hex.1⟩
 unfold collect
 refine wpAny_bind (wpAny_runValue (codeAny_builtin PySem.F.entry_proto_collect ?_))
 rw [Around.under_plainId PySem.F.plain_proto_collect _]
 show wpAny _ A.in1 (newList [] >>= fun l=>again (.builtin "list.__iadd__" ⟨[l,.ref S],[]⟩)) _ _ s
 refine wpAny_bind (wpAny_newObj_type ?_)
 refine wpAny_pure ⟨plainId_quiet PySem.F.plain_list_iadd _,codeAny_builtin PySem.F.entry_list_iadd ?_⟩
 rw [Around.under_plainId PySem.F.plain_list_iadd _]
 show wpAny _ A.in1 (Builtin.List.listExtendWith (.ref s.heap.objs.size) (.ref S) (.ref s.heap.objs.size)) _ _ _
 unfold Builtin.List.listExtendWith
 generalize hH:s.heap.push { cls:=.type "list",data:=.seq ([]:List Value).toArray }=H
 have hHs:H.objs.size=s.heap.objs.size+1:=by rw [←hH,Heap.size_push]
 have old:∀b o,s.heap.get? b=some o→H.get? b=some o:=fun b o e=>hH▸Heap.get?_push_of_some _ e
 have hL:H.get? s.heap.objs.size=some (PySem.W.listOf #[] 0):=hH▸Heap.get?_push_size _ rfl
 have eL:=Heap.ba s.heap (Nat.le_refl _)
 have WH:S≠s.heap.objs.size:=Nat.ne_of_lt Zg
 refine wpAny_bind (wpAny_typeOf (hT H (old _ _ ho)) ?_)
 have h1:Builtin.List.listSameRef (.ref s.heap.objs.size) (.ref S)=false:=by simp [Builtin.List.listSameRef,Ne.symm WH]
 have h2:(Value.type "set" == Value.type "list")=false:=by decide
 have h3:(Value.type "set" == Value.type "tuple")=false:=by decide
 simp only [h1,h2,h3,Bool.or_false,Bool.false_eq_true,if_false]
 refine wpAny_bind (HY (s:={ s with heap:=H }) (x.at' (old _)) hg xZ fun m h' dr I hm it kp eI hle=>?_)
 refine wpAny_bind (wpAny_holding ?_)
 unfold Builtin.List.listLengthHint
 have Cg:=kp _ _ (old _ _ ho)
 refine wpAny_bind (wpAny_specialOf (T:="set") ⟨o,Cg,hex.1⟩ QC ?_)
 wp_delta
 refine wpAny_bind (wpAny_isInstance (T:="set") (b:=true) ⟨o,Cg,hex.1⟩ (by rw [isSubtype_type];kernel_rfl) ?_)
 show wpAny _ A.in1 (typeOf (Value.ref S) >>= _) _ _ _
 refine wpAny_bind (wpAny_typeOf (T:="set") ⟨o,Cg,hex.1⟩ ?_)
 refine wpAny_pure ?_
 rw [if_pos (by decide)]
 have M4:h'.get? s.heap.objs.size=some (PySem.W.listOf #[] 0):=kp _ _ hL
 obtain ⟨n1,Zh⟩:=q8 (ys:=#[Value.none]) (·.push .none) M4 rfl
 obtain ⟨n2,Zf⟩:=q8 (ys:=#[]) (·.pop) Zh rfl
 have MV:s.heap.objs.size≠I:=by
  rintro rfl
  exact bQ hL eI
 have T4:S≠I:=by
  rintro rfl
  exact bQ (show H.get? S=some o from old _ _ ho) eI
 have xb:Heap.ExtBut s.heap.objs.size h' ((h'.update s.heap.objs.size (Obj.mapSeq (·.push .none))).update s.heap.objs.size (Obj.mapSeq (·.pop))):=((Heap.SameBut.update ..).trans (Heap.SameBut.update ..)).extBut
 have vk:cR h' ((h'.update s.heap.objs.size (Obj.mapSeq (·.push .none))).update s.heap.objs.size (Obj.mapSeq (·.pop))):=.but M4 (da rfl (by decide) (by decide)) xb
 refine wpAny_bind (wpAny_rule (wpAny_bind ?_))
 unfold Builtin.List.listTouch
 refine wpAny_bind (listUpdate_at (s:={ s with heap:=h',drawn:=dr }) M4 rfl ?_ (by simp) (by simp [sizeLine_eq]))
 refine listUpdate_at Zh rfl ?_ (by simp [sizeLine_eq]) (by simp)
 refine wpAny_pure ⟨plainId_quiet PySem.F.plain_extend_loop _,?_⟩
 refine KY (c:=c) (A:=A) hh T4 WH MV xZ (s:={ s with heap:=(h'.update s.heap.objs.size (Obj.mapSeq (·.push .none))).update s.heap.objs.size (Obj.mapSeq (·.pop)),drawn:=dr }) (Nat.zero_add _).symm
  (((x.at' (old _)).at' (kp _)).at' fun o e=>xb _ _ WH e) (hm.vk vk) ?_ Zf rfl fun h3 acc n3 a1 a2 a3=>?_
 ·obtain ⟨oI,PB,r⟩:=it
  exact ⟨oI,xb _ _ (Ne.symm MV) PB,r⟩
 ·show wpAny _ A (load s.heap.objs.size >>= _) _ _ _
  refine wpAny_bind (wpAny_load a2 (wpAny_pure ?_))
  have:=h acc.toList h3 dr (by rw [a3];exact rA hm) fun b o' e=>a1 b o' (fun q=>by subst q;exact bQ (old _ _ e) eI) (fun q=>by subst q;exact bQ e eL) (xb _ _ (fun q=>by subst q;exact bQ e eL) (kp _ _ (old _ _ e)))
  exact this
end
end
section
set_option tactic.hygienic true
theorem HZ {xs:List Int}:∀{L:List Int},L.Nodup→(xs.foldl setStep L).Nodup:=by
 induction xs with
 | nil=>exact id
 | cons x xs ih=>
   intro L h
   refine ih ?_
   unfold setStep
   by_cases hx:x∈L
   ·rw [if_pos hx];exact h
   ·rw [if_neg hx]
    exact List.nodup_append.mpr ⟨h,List.pairwise_singleton _ _,fun a ha b hb q=>hx (List.mem_singleton.mp hb▸q▸ha)⟩
theorem KZ {L:List Int} {x z:Int}:z∈setStep L x↔z∈L∨z=x:=by
 unfold setStep
 by_cases hx:x∈L
 ·rw [if_pos hx];exact ⟨.inl,fun h=>h.elim id fun q=>q▸hx⟩
 ·rw [if_neg hx,List.mem_append,List.mem_singleton]
theorem Nv {xs:List Int} {z:Int}:∀{L:List Int},z∈xs.foldl setStep L↔z∈L∨z∈xs:=by
 induction xs with
 | nil=>exact ⟨.inl,fun h=>h.elim id fun q=>absurd q List.not_mem_nil⟩
 | cons x xs ih=>intro L;rw [List.foldl_cons,ih,KZ,List.mem_cons,or_assoc]
theorem yG {x:Int} {xs:List Int}:dedup (x::xs)=if x∈xs then dedup xs else x::dedup xs:=rfl
theorem Bu {xs:List Int} {z:Int}:z∈dedup xs↔z∈xs:=by
 induction xs with
 | nil=>exact .rfl
 | cons x xs ih=>
   rw [yG,List.mem_cons]
   by_cases hx:x∈xs
   ·rw [if_pos hx,ih];exact ⟨.inr,fun h=>h.elim (fun q=>q▸hx) id⟩
   ·rw [if_neg hx,List.mem_cons,ih]
theorem FP {xs:List Int}:(dedup xs).Nodup:=by
 induction xs with
 | nil=>exact .nil
 | cons x xs ih=>
   rw [yG]
   by_cases hx:x∈xs
   ·rw [if_pos hx];exact ih
   ·rw [if_neg hx];exact List.nodup_cons.mpr ⟨fun q=>hx (Bu.mp q),ih⟩
theorem K2 (xs:List Int):(xs.foldl setStep []).Perm (dedup xs):=
 (List.perm_ext_iff_of_nodup (HZ .nil) FP).mpr fun z=>Nv.trans (⟨fun h=>h.elim (fun q=>absurd q List.not_mem_nil) id,.inr⟩:_↔_) |>.trans Bu.symm
theorem Nw {xs:List Int}:∀{L:List Int},(xs.foldl setStep L).length≤L.length+xs.length:=by
 induction xs with
 | nil=>exact Nat.le_refl _
 | cons x xs ih=>intro L;exact Nat.le_trans ih (Nat.le_trans (Nat.add_le_add_right (wH L x) _) (Nat.le_of_eq (Nat.succ_add_eq_add_succ _ _)))
theorem QD {vs:List Value}:(∀v∈vs,∃n t,v= .int n t)→IntsAre vs (vs.map toI):=by
 induction vs with
 | nil=>
   rintro _
   exact .nil
 | cons v vs ih=>
   rintro h
   obtain ⟨n,t,rfl⟩:=h v (List.mem_cons_self ..)
   exact .cons n t (ih fun v hv=>h v (List.mem_cons_of_mem _ hv))
theorem Ju (c:Cfg):eM c:=by
 intro A d E s D mh b l xs Q T HA R el hx hl q k
 obtain ⟨c2,m,hL,vs⟩:=gW R el
 have hI:=fZ vs hx
 have lx:xs.length<60:=by rw [←hI.length,vs.length];exact hl
 refine KU (c:=c) HA.handled hL hI (Nat.lt_of_lt_of_le (Nat.succ_lt_succ lx) (Nat.le_of_ble_eq_true rfl)) fun h' tk hZ kp=>?_
 have old:∀b o,s.heap.get? b=some o→h'.get? b=some o:=fun b o e=>kp b o (Heap.lt_size e) e
 obtain ⟨o,es,ep,t,ho,hex,hd,FG,hp,hb,hf,hg⟩:=hZ
 have xZ:es.size<60:=by
  rw [←Array.length_toList,←List.length_map (f:=fun e:Int×Value=>toI e.2),hp.length_eq]
  exact Nat.lt_of_le_of_lt (Nat.le_trans Nw (Nat.le_of_eq (Nat.zero_add _))) lx
 refine Calls.call_function_entry kind_sorted plain_sorted entry_sorted (args_sorted1 _) ?_
 unfold Builtin.«sorted»
 refine wpAny_bind (wpAny_of_eq (a:=()) (by rfl) ?_)
 have x:i7 ({ s with heap:=h',toks:=tk }:Shared).heap s.heap.objs.size es ep t:=⟨⟨o,ho,hex,hd⟩,hf⟩
 refine wpAny_bind (Nu (s:={ s with heap:=h',toks:=tk }) (c:=c) (A:=A.in1) HA.handled x hg (Nat.lt_trans xZ (Nat.le_of_ble_eq_true rfl)) fun ws h2 dr hw kp2=>?_)
 have hws:∀v∈ws,∃n t,v= .int n t:=fun v hv=>by
  have:=hw.mem_iff.mp hv
  obtain ⟨e,he,rfl⟩:=List.mem_map.mp this
  obtain ⟨⟨k',xM,_⟩,_⟩:=FG e he
  obtain ⟨t',e'⟩:=Nl (c:=c) xM
  exact ⟨k',t',e'⟩
 have hIw:=QD hws
 have lw:ws.length=es.size:=by rw [hw.length_eq,List.length_map,Array.length_toList]
 have pz:(ws.map toI).Perm (dedup xs):=by
  refine ((hw.map toI).trans ?_).trans (hp.trans (K2 xs))
  rw [List.map_map];exact .refl _
 refine wpAny_bind (wpAny_newObj_type ?_ (by show ws.toArray.size≤sizeLine;rw [List.size_toArray,lw,sizeLine_eq];exact Nat.le_of_lt (Nat.lt_trans xZ (Nat.le_of_ble_eq_true rfl))))
 have V2:(h2.push (seqObj "list" ws.toArray 0)).get? h2.objs.size=some (seqObj "list" ws.toArray 0):=Heap.get?_push_size _ rfl
 refine wpAny_bind (wpAny_holding (wpAny_call_entry PyProof.Rows.slot_list_sort ⟨_,V2,rfl⟩ PyProof.Rows.entry_list_sort (list_sort_tree (vs:=ws) V2 hIw (by rw [lw];exact Nat.lt_trans xZ (Nat.le_of_ble_eq_true rfl)) fun out ns' a1 a2 a3=>⟨_,rfl,?_⟩) (PyProof.Rows.args_list_sort _)))
 refine wpAny_pure ⟨_,rfl,?_⟩
 have hn:=yc (a2.trans pz) a3
 subst hn
 have h1:((h2.push (seqObj "list" ws.toArray 0)).update h2.objs.size (Obj.mapSeq fun zz=>(#[]:Array Value))).get? h2.objs.size=some (PySem.W.listOf #[] _):=get?_update_seq V2 fun zz=>#[]
 have h3:=Heap.get?_push_of_some (seqObj "tuple" ws.toArray 0) h1
 have h4:=Heap.get?_push_of_some (seqObj "list" #[] 0) h3
 obtain ⟨n5,h5⟩:=q8 (fun zz=>out) h4 rfl
 have e2:=Heap.ba h2 (Nat.le_refl _)
 have Zi:∀b o,s.heap.get? b=some o→(sortedHeap (h2.push (seqObj "list" ws.toArray 0)) h2.objs.size ws out).get? b=some o:=fun b o e=>by
  have e':=kp2 b o (old b o e)
  have Wg:b≠h2.objs.size:=fun q=>by subst q;rw [e2] at e';exact a8 e'
  refine (Heap.SameBut.update ..).extBut b o Wg ?_
  exact Heap.get?_push_of_some _ (Heap.get?_push_of_some _ ((Heap.SameBut.update ..).extBut b o Wg (Heap.get?_push_of_some _ e')))
 have e0:s.heap.get? h2.objs.size=none:=by
  cases q:s.heap.get? h2.objs.size with
  | none=>rfl
  | some o'=>have:=kp2 _ _ (old _ _ q);exact bQ this e2
 have P:aV c D mh s D mh { s with heap:=sortedHeap (h2.push (seqObj "list" ws.toArray 0)) h2.objs.size ws out,toks:=tk,drawn:=dr }:=
  ⟨⟨_,_,_,rfl⟩,R.ext Zi,fun a o e zz zz=>Zi a o e,fun zz i=>.inl i,.q5 Zi⟩
 have P':=aV.takeIn (o':=.list (bj (qH (dedup xs)))) P e0 (R.cD e0) (R.fresh e0) (fun zz zz q=>nomatch q) ⟨out,n5,h5,yb a1⟩
 exact k _ _ (.ref h2.objs.size) D _ P' rfl (q _ (MH.fresh (R.fresh e0)))
end
noncomputable def af (i:Nat):Stmt:=PySem.Challenge.pw_on0199_01.main.body.getD i default
noncomputable def a7 (i j:Nat):Stmt:=match af i with
 | .ClassDef _ _ _ b _ _ _ _ _ _ _=>b.getD j default
 | s=>s
noncomputable def ai (s:Stmt):List Stmt:=match s with
 | .FunctionDef _ _ b _ _ _ _ _ _ _=>b
 | _=>[]
noncomputable def aa (s:Stmt):Scope:=match s with
 | .FunctionDef _ _ _ _ _ _ sc _ _ _=>sc
 | _=>default
noncomputable def FQ (s:Stmt):List Str:=match s with
 | .FunctionDef _ as _ _ _ _ _ _ _ _=>as.args.map (·.arg)
 | _=>[]
def bf (c:Cfg) (d:Nat) (S:Stmt) (args:List Val) (mh:MH) (Q:VQ):Prop:=eA (gy c d 60 (aa S)) (ai S) (Loc.empty.gF (FQ S) args) mh fun f zz aD=>Q (f.getD .none) aD
noncomputable def Nx (c:Cfg) (a:Addr):Option (Bool×List Stmt×Scope×List Str):=(CA c.K a).map fun fd=>(HR c.K fd,bodyOf fd,fd.scope,jq fd)
noncomputable def Ny (S:Stmt):Option (Bool×List Stmt×Scope×List Str):=some (true,ai S,aa S,FQ S)
def Bv (c:Cfg) (a:Addr) (S:Stmt):Prop:=Nx c a=Ny S
structure T9 (c:Cfg) (f:Str) (S:Stmt):Prop where
 ok:aX c f=true
 has:Bv c (c.ca f) S
structure CG (c:Cfg) (C m:Str) (S:Stmt):Prop where
 ok:B8 c C m=true
 has:Bv c (eF c C m) S
structure Jv (c:Cfg) (C:Str):Prop where
 ok:aX c C=true
 good:xN c C (eF c C "__init__")=true
theorem wz.mono {A:Around} {d d':Nat} (h:d≤d') (x:wz A d'):wz A d:=
 ⟨x.handled,Nat.lt_of_le_of_lt (Nat.add_le_add_right (Nat.add_le_add_left (Nat.mul_le_mul_left 4 h) _) _) x.depth,Nat.lt_of_le_of_lt (Nat.add_le_add_right (Nat.add_le_add_left (Nat.mul_le_mul_left 16 h) _) _) x.units,x.frames⟩
theorem om.mono {c:Cfg} {d d':Nat} (h:d≤d') {a:Addr} {args:List Val} {mh:MH} {Q:VQ} (x:om c d a args mh Q):om c d' a args mh Q:=fun A s D us R HA=>x A s D us R (HA.mono h)
noncomputable def fP (n:Str) (S:Stmt):Str×Stmt:=(n,S)
noncomputable def mP (C m:Str) (S:Stmt):(Str×Str)×Stmt:=((C,m),S)
noncomputable def ft:List (Str×Stmt):=[fP "is_space" (af 7),fP "is_small_letter" (af 8),fP "is_name_start" (af 9),fP "is_name_char" (af 10),fP "is_nmtoken" (af 11),fP "is_name" (af 12),fP "space_split" (af 13),fP "collapsed" (af 14),fP "is_blank" (af 15),fP "normalised" (af 19),fP "words_of" (af 20),fP "is_word" (af 21),fP "fits" (af 22),fP "add_all" (af 25),fP "walk_elements" (af 28),fP "id_of" (af 29),fP "id_table" (af 30),fP "references" (af 31),fP "broken_references" (af 32),fP "outermost" (af 35),fP "check" (af 36),fP "_law_pool" (af 48),fP "_law_take" (af 49),fP "_law_one" (af 50),fP "_law_particle" (af 51),fP "_law_model" (af 52),fP "_law_behind" (af 53),fP "_law_rules" (af 54),fP "_law_words" (af 55),fP "_law_fits" (af 56),fP "_law_document" (af 57),fP "_law_walk" (af 58),fP "_law_content_wrong" (af 59),fP "_law_due" (af 60)]
noncomputable def mt:List ((Str×Str)×Stmt):=[mP "AttributeRule" "__init__" (a7 18 0),mP "Automaton" "__init__" (a7 26 0),mP "Automaton" "read" (a7 26 1),mP "Automaton" "read_row" (a7 26 2),mP "Automaton" "read_choice" (a7 26 3),mP "Automaton" "marked" (a7 26 4),mP "Automaton" "join" (a7 26 5),mP "Automaton" "name_at" (a7 26 6),mP "Automaton" "behind" (a7 26 7),mP "Automaton" "step" (a7 26 9),mP "Automaton" "is_end" (a7 26 10),mP "Automaton" "accepts" (a7 26 12),mP "Checker" "__init__" (a7 34 0),mP "Checker" "automaton" (a7 34 1),mP "Checker" "element" (a7 34 2),mP "Checker" "content" (a7 34 3),mP "Checker" "attributes" (a7 34 4),mP "Checker" "attribute" (a7 34 5),mP "Dtd" "__init__" (a7 42 0),mP "Dtd" "declare_element" (a7 42 1),mP "Dtd" "declare_attribute" (a7 42 2),mP "Dtd" "model" (a7 42 4),mP "Dtd" "rules" (a7 42 5),mP "Dtd" "rule" (a7 42 6),mP "Dtd" "names_of_kind" (a7 42 7),mP "Dtd" "id_name" (a7 42 8),mP "NodeRow" "__init__" (a7 45 0),mP "Tree" "__init__" (a7 46 0),mP "Tree" "new_row" (a7 46 1),mP "Tree" "row" (a7 46 2),mP "Tree" "new_root" (a7 46 3),mP "Tree" "add_child" (a7 46 4),mP "Tree" "add_element" (a7 46 5),mP "Tree" "add_text" (a7 46 6),mP "Tree" "add_comment" (a7 46 7),mP "Tree" "element_row" (a7 46 9),mP "Tree" "set_attribute" (a7 46 10),mP "Tree" "kind" (a7 46 13),mP "Tree" "name" (a7 46 14),mP "Tree" "value" (a7 46 17),mP "Tree" "children" (a7 46 19),mP "Tree" "attributes" (a7 46 20)]
noncomputable def ct:List Str:=["AttributeRule","Automaton","Checker","Dtd","NodeRow","Tree"]
noncomputable def gt:List (Str×Val):=[("SPACES",.str " \t\n\r"),("LIST_KINDS",.tup [.str "IDREFS",.str "ENTITIES",.str "NMTOKENS"]),("START",.int 0),("PARENTS",.tup [.str "root",.str "element"]),("FIRST_BEYOND",.int 128)]
noncomputable def PF {α:Type} [Inhabited α] (l:List α) (i:Nat):α:=l.getD i (l.getD 0 default)
structure cp (c:Cfg):Prop where
 O:c.Ok
 S:eM c
 f (i:Nat):T9 c (PF ft i).1 (PF ft i).2
 m (i:Nat):CG c (PF mt i).1.1 (PF mt i).1.2 (PF mt i).2
 k (i:Nat):Jv c (PF ct i)
 g (i:Nat):p9 c.K (PF gt i).1=some (PF gt i).2
theorem xQ {α:Type} [Inhabited α] {P:α→Prop} {l:List α} (hl:0<l.length) (h:∀p∈l,P p) (i:Nat):P (PF l i):=by
 unfold PF
 have z:P (l.getD 0 default):=by cases l with | nil=>cases hl | cons a r=>exact h a (List.mem_cons_self ..)
 rw [List.getD_eq_getElem?_getD]
 cases e:l[i]? with
 | none=>exact z
 | some a=>exact h a (List.mem_of_getElem? e)
theorem Cfg.Ok.of {c:Cfg} (X:c.K.In c.h₀) (g:c.h₀.Ns mainGlobals c.mg) (b:c.h₀.Ns builtinsNs c.mb) (boot:∀x:Str,x≠"__name__"→c.mb x=bootBuiltins x) (nl:c.h₀.NoLimit) (se:c.h₀.NoSeer) (tr:c.prog.given.tree=none)
 (hb:eZ.map (nsIn c.K mainGlobals)=eZ.map fun zz=>some none) (hf:Ho.all (fun p=>p.2.all (xH c.K (c.ca p.1)))=true):c.Ok:=
 ⟨X,g,b,boot,nl,se,tr,List.map_inj_left.mp hb,fun C x h=>by
  unfold fW at h
  cases e:Ho.lookup C with
  | none=>rw [e] at h;exact iZ h
  | some l=>rw [e] at h;exact List.all_eq_true.mp (List.all_eq_true.mp hf _ (mem_of_lookup e)) x (List.contains_iff_mem.mp h)⟩
theorem cp.of {c:Cfg} (O:c.Ok) (S:eM c) (h1:ft.all (fun p=>aX c p.1)=true) (h2:ft.map (fun p=>Nx c (c.ca p.1))=ft.map fun p=>Ny p.2)
 (h3:mt.all (fun p=>B8 c p.1.1 p.1.2)=true) (h4:mt.map (fun p=>Nx c (eF c p.1.1 p.1.2))=mt.map fun p=>Ny p.2)
 (h5:ct.all (fun C=>aX c C&&xN c C (eF c C "__init__"))=true) (h6:gt.map (fun p=>p9 c.K p.1)=gt.map fun p=>some p.2):cp c:=
 ⟨O,S,xQ (l:=ft) (P:=fun p=>T9 c p.1 p.2) (by decide) fun p hp=>T9.mk (f:=p.1) (S:=p.2) (List.all_eq_true.mp h1 p hp) (show Nx c (c.ca p.1)=Ny p.2 from List.map_inj_left.mp h2 p hp),
  xQ (l:=mt) (P:=fun p=>CG c p.1.1 p.1.2 p.2) (by decide) fun p hp=>CG.mk (C:=p.1.1) (m:=p.1.2) (S:=p.2) (List.all_eq_true.mp h3 p hp) (show Nx c (eF c p.1.1 p.1.2)=Ny p.2 from List.map_inj_left.mp h4 p hp),
  xQ (l:=ct) (P:=fun C=>Jv c C) (by decide) fun p hp=>⟨(aC (List.all_eq_true.mp h5 p hp)).1,(aC (List.all_eq_true.mp h5 p hp)).2⟩,
  xQ (l:=gt) (P:=fun p=>p9 c.K p.1=some p.2) (by decide) fun p hp=>List.map_inj_left.mp h6 p hp⟩
section
variable {c:Cfg} {d D:Nat} {mh:MH} {Q:VQ} {args:List Val}
theorem Bv.callC {S:Stmt} {a:Addr} (h:Bv c a S) (F:cp c) (hd:d<D) (hl:(FQ S).length=args.length) (hW:bf c d S args mh Q):om c D a args mh Q:=by
 obtain ⟨fd,h1,h2⟩:=Option.map_eq_some_iff.mp h
 obtain ⟨h2,h3⟩:=Prod.mk.inj h2
 obtain ⟨h3,h4⟩:=Prod.mk.inj h3
 obtain ⟨h4,h5⟩:=Prod.mk.inj h4
 unfold bf at hW
 rw [←h3,←h4,←h5] at hW
 rw [←h5] at hl
 exact (KL F.O F.S h1 h2 hl hW).mono hd
theorem Bv.go {S:Stmt} {a:Addr} {P:Prop} (h:Bv c a S) (F:cp c) (hd:d<D) (hl:(FQ S).length=args.length) (e:bf c d S args mh Q=P) (p:P):I0 c D a args mh Q:=by
 subst e;exact (h.callC F hd hl p).yx
theorem Jv.callC {C:Str} {args:List Val} (h:Jv c C) (F:cp c) (hd:d<D) (hW:∀a,mh a=none→om c d (eF c C "__init__") (.ref a::args) (mh.set a (.inst C [])) fun r aD=>r= .none∧Q (.ref a) aD):
 om c D (c.ca C) args mh Q:=(KN F.O h.good hW).mono hd
end
def br (b:Bool) (p q:Prop):Prop:=match b with
 | true=>p
 | false=>q
noncomputable def cF (l:List Stmt) (i:Nat):Stmt:=l.getD i default
noncomputable def subB (s:Stmt):List Stmt:=match s with
 | .For _ _ b _ _=>b
 | .While _ b _ _=>b
 | .If _ b _ _=>b
 | _=>[]
noncomputable def subE (s:Stmt):List Stmt:=match s with
 | .If _ _ e _=>e
 | _=>[]
noncomputable def bY (Q:VQ):SQ:=fun f zz mh=>Q (f.getD .none) mh
noncomputable def Ad (sc:Scope) (Q:aE):SQ:=fun f ρ mh=>Q f (nY sc ρ) mh
noncomputable def aO (c:Cfg) (d n:Nat) (sc:Scope) (l:List Stmt) (Q:SQ):SQ:=I7 (fun ρ m=>eA (gy c d n sc) l ρ m Q) Q
noncomputable def dO (sc:Scope) (Q:SQ):aE:=fun f vs m=>Q f (L (slots sc) vs) m
def bA (c:Cfg) (d n:Nat) (sc:Scope) (st:Stmt):Val→St→MH→aE→Prop:=match st with
 | .For t _ body _ _=>fun x vs mh Q=>i5 (fun ρ=>aJ c d n sc ρ) sc t x (L (slots sc) vs) mh fun ρ mh=>eA (gy c d n sc) body ρ mh fun f ρ mh=>Q f (nY sc ρ) mh
 | _=>fun zz zz zz zz=>False
def Nz (c:Cfg) (d n:Nat) (sc:Scope) (st:Stmt):St→MH→aE→Prop:=match st with
 | .While _ body _ _=>fun vs mh Q=>eA (gy c d n sc) body (L (slots sc) vs) mh fun f ρ mh=>Q f (nY sc ρ) mh
 | _=>fun zz zz zz=>False
def NA (c:Cfg) (d n:Nat) (sc:Scope) (st:Stmt):St→MH→BQ→Prop:=match st with
 | .While t _ _ _=>fun vs mh Q=>dq c d n sc (L (slots sc) vs) t mh Q
 | _=>fun zz zz zz=>False
def FR (cy:Val) (Q:VQ) (x1:Val) (m:MH):Prop:=aF .In cy x1 m fun b2=>jF (fun b=>br b (aF .NotEq cy (.str "") m fun b3=>Q (.bool b3) m) (Q (.bool false) m)) (.bool b2)
theorem K3 {c:Cfg} {d:Nat} {cy:Val} {m:MH} {Q:VQ}:bf c d (af 7) [cy] m Q=(Hh (p9 c.K "SPACES") m (FR cy Q)):=by kernel_rfl
theorem u6 {c:Cfg} {d:Nat} {cy:Val} {m:MH} {Q:VQ}:bf c d (af 8) [cy] m Q=(aF .LtE (.str "a") cy m fun b1=>br b1 (aF .LtE cy (.str "z") m fun b2=>Q (.bool b2) m) (Q (.bool false) m)):=by kernel_rfl
def u7 (Q:VQ) (cy x4:Val) (m:MH):Prop:=jF (fun b=>br b (Q (.bool true) m) (aF .LtE (.str "A") cy m fun b5=>br b5 (aF .LtE cy (.str "Z") m fun b6=>jF (fun b=>br b (Q (.bool true) m) (aF .Eq cy (.str "_") m fun b7=>jF (fun b=>br b (Q (.bool true) m) (aF .Eq cy (.str ":") m fun b8=>Q (.bool b8) m)) (.bool b7))) (.bool b6)) (jF (fun b=>br b (Q (.bool true) m) (aF .Eq cy (.str "_") m fun b9=>jF (fun b=>br b (Q (.bool true) m) (aF .Eq cy (.str ":") m fun FT=>Q (.bool FT) m)) (.bool b9))) (.bool false)))) x4
def u9 (c:Cfg) (d:Nat) (x1 cy:Val) (Q:VQ) (x2:Val) (m:MH):Prop:=aF .Lt x1 x2 m fun b3=>br b3 (aX c "is_small_letter"=true∧(aq c d "is_small_letter" [cy] m (u7 Q cy))) (aX c "is_in_ranges"=true∧(eX m (fun c4 m=>Hh (p9 c.K "START_RANGES") m (fun fw m=>aq c d "is_in_ranges" [c4,fw] m (Q))) "ord" [cy]))
theorem yH {c:Cfg} {d:Nat} {cy:Val} {m:MH} {Q:VQ}:bf c d (af 9) [cy] m Q=(eX m (fun x1 m=>Hh (p9 c.K "FIRST_BEYOND") m (u9 c d x1 cy Q)) "ord" [cy]):=by kernel_rfl
def xc (c:Cfg) (d:Nat) (x3 cy:Val) (Q:VQ) (x4:Val) (m:MH):Prop:=aF .Lt x3 x4 m fun b5=>br b5 (aF .LtE (.str "0") cy m fun b6=>br b6 (aF .LtE cy (.str "9") m fun b7=>jF (fun b=>br b (Q (.bool true) m) (aF .Eq cy (.str "-") m fun b8=>jF (fun b=>br b (Q (.bool true) m) (aF .Eq cy (.str ".") m fun b9=>Q (.bool b9) m)) (.bool b8))) (.bool b7)) (jF (fun b=>br b (Q (.bool true) m) (aF .Eq cy (.str "-") m fun FT=>jF (fun b=>br b (Q (.bool true) m) (aF .Eq cy (.str ".") m fun QE=>Q (.bool QE) m)) (.bool FT))) (.bool false))) (aX c "is_in_ranges"=true∧(eX m (fun eS m=>Hh (p9 c.K "MORE_RANGES") m (fun iJ m=>aq c d "is_in_ranges" [eS,iJ] m (Q))) "ord" [cy]))
def xd (c:Cfg) (d:Nat) (Q:VQ) (cy x1:Val) (m:MH):Prop:=jF (fun b2=>br b2 (Q (.bool true) m) (eX m (fun x3 m=>Hh (p9 c.K "FIRST_BEYOND") m (xc c d x3 cy Q)) "ord" [cy])) x1
theorem Ae {c:Cfg} {d:Nat} {cy:Val} {m:MH} {Q:VQ}:bf c d (af 10) [cy] m Q=(aX c "is_name_start"=true∧(aq c d "is_name_start" [cy] m (xd c d Q cy))):=by kernel_rfl
def Af (Q2:aE) (v1 x3 x4:Val) (m:MH):Prop:=jF (fun b5=>br (!b5) (Q2 (some (.bool false)) [some v1,some x3] m) (Q2 none [some v1,some x3] m)) x4
def Ag (c:Cfg) (d:Nat) (v1 x3:Val) (m:MH) (Q2:aE):Prop:=aX c "is_name_char"=true∧(aq c d "is_name_char" [x3] m (Af Q2 v1 x3))
def Ah (v6:Val) (Q:VQ) (m:MH):Prop:=aF .NotEq v6 (.str "") m fun b8=>Q (.bool b8) m
theorem FU {c:Cfg} {d:Nat} {dZ:Val} {m:MH} {Q:VQ}:bf c d (af 11) [dZ] m Q=(dc (bA c d 59 (aa (af 11)) (cF (ai (af 11)) 0)) dZ [some dZ,none] m (dO (aa (af 11)) (aO c d 60 (aa (af 11)) ((ai (af 11)).drop 1) (bY Q)))):=by kernel_rfl
theorem yI {c:Cfg} {d:Nat} {m:MH} {x3 v1:Val} {o2:Option Val} {Q2:aE}:(bA c d 59 (aa (af 11)) (cF (ai (af 11)) 0) x3 [some v1,o2] m Q2)=(Ag c d v1 x3 m Q2):=by kernel_rfl
theorem yJ {c:Cfg} {d:Nat} {m:MH} {Q:VQ} {v6:Val} {o7:Option Val}:(dO (aa (af 11)) (aO c d 60 (aa (af 11)) ((ai (af 11)).drop 1) (bY Q)) none [some v6,o7] m)=(Ah v6 Q m):=by kernel_rfl
def H0 (c:Cfg) (d:Nat) (dZ:Val) (Q:VQ) (x3:Val) (m:MH):Prop:=jF (fun b=>br b (aX c "is_nmtoken"=true∧(aq c d "is_nmtoken" [dZ] m (Q))) (Q (.bool false) m)) x3
theorem NB {c:Cfg} {d:Nat} {dZ:Val} {m:MH} {Q:VQ}:bf c d (af 12) [dZ] m Q=(aF .NotEq dZ (.str "") m fun b1=>jF (fun b=>br b (aX c "is_name_start"=true∧(ay m (fun x2 m=>aq c d "is_name_start" [x2] m (H0 c d dZ Q)) dZ (.int 0))) (Q (.bool false) m)) (.bool b1)):=by kernel_rfl
def yK (Q2:aE) (v7 v8 c4 dh:Val) (m:MH):Prop:=Q2 none [some v7,some v8,some dh,some c4] m
def oq (Q2:aE) (v7 v8 c4:Val) (m:MH):Prop:=aY m (yK Q2 v7 v8 c4) .Add c4 (.int 1)
def yL (Q2:aE) (v7 v8 c4 gS:Val) (m:MH):Prop:=fu (bX gS) (oq Q2 v7 v8 c4 m)
def fe (c:Cfg) (d:Nat) (c4 v9 v8:Val) (Q2:aE) (v7:Val) (m:MH):Prop:=aF .Gt c4 v9 m fun Zj=>br Zj (ak c m (fun WJ=>e8 m (fun wI m=>ar c d WJ "append" v8 [wI] m (yL Q2 v7 v8 c4)) v7 v9 c4 .none) "append" v8) (oq Q2 v7 v8 c4 m)
def yM (Q2:aE) (v7 v8 v9 c4:Val) (m:MH):Prop:=Q2 none [some v7,some v8,some v9,some c4] m
def yN (c:Cfg) (d:Nat) (c4 v9 v8:Val) (Q2:aE) (v7 xe:Val) (m:MH):Prop:=jF (fun Zk=>br Zk (fe c d c4 v9 v8 Q2 v7 m) (yM Q2 v7 v8 v9 c4 m)) xe
def yO (c:Cfg) (d:Nat) (c4 v9 v8:Val) (Q2:aE) (v7:Val) (m:MH):Prop:=aX c "is_space"=true∧(ay m (fun p5 m=>aq c d "is_space" [p5] m (yN c d c4 v9 v8 Q2 v7)) v7 c4)
def yP (c:Cfg) (d:Nat) (v9 v8 v7 c4:Val) (m:MH) (Q2:aE):Prop:=eX m (fun eS m=>aF .Eq c4 eS m fun NC=>br NC (fe c d c4 v9 v8 Q2 v7 m) (yO c d c4 v9 v8 Q2 v7 m)) "len" [v7]
def yQ (Q:VQ) (qb:Val) (m:MH):Prop:=Q qb m
def xf (c:Cfg) (d:Nat) (dZ:Val) (Q:VQ) (y2 y3:Val) (m:MH):Prop:=eX m (fun x4 m=>aY m (fun x5 m=>eX m (fun x6 m=>dc (bA c d 59 (aa (af 13)) (cF (ai (af 13)) 1)) x6 [some dZ,some y2,some y3,none] m (dO (aa (af 13)) (aO c d 60 (aa (af 13)) ((ai (af 13)).drop 2) (bY Q)))) "range" [x5]) .Add x4 (.int 1)) "len" [dZ]
theorem CH {c:Cfg} {d:Nat} {dZ:Val} {m:MH} {Q:VQ}:bf c d (af 13) [dZ] m Q=(aH m (.list []) (fun x1 m=>xI (fun y2 y3=>xf c d dZ Q y2 y3 m) (.tup [x1,(.int 0)]))):=by kernel_rfl
theorem xg {c:Cfg} {d:Nat} {m:MH} {c4 v7 v8 v9:Val} {ou:Option Val} {Q2:aE}:(bA c d 59 (aa (af 13)) (cF (ai (af 13)) 1) c4 [some v7,some v8,some v9,ou] m Q2)=(yP c d v9 v8 v7 c4 m Q2):=by kernel_rfl
theorem xh {c:Cfg} {d:Nat} {m:MH} {Q:VQ} {uI qb CI:Val} {vc:Option Val}:(dO (aa (af 13)) (aO c d 60 (aa (af 13)) ((ai (af 13)).drop 2) (bY Q)) none [some uI,some qb,some CI,vc] m)=(yQ Q qb m):=by kernel_rfl
theorem H3 {c:Cfg} {d:Nat} {dZ:Val} {m:MH} {Q:VQ}:bf c d (af 14) [dZ] m Q=(ak c m (fun k1=>aX c "space_split"=true∧(aq c d "space_split" [dZ] m (fun x3 m=>ar c d k1 "join" (.str " ") [x3] m (Q)))) "join" (.str " ")):=by kernel_rfl
def FV (Q2:aE) (v1 x3 x4:Val) (m:MH):Prop:=jF (fun b5=>br (!b5) (Q2 (some (.bool false)) [some v1,some x3] m) (Q2 none [some v1,some x3] m)) x4
def FW (c:Cfg) (d:Nat) (v1 x3:Val) (m:MH) (Q2:aE):Prop:=aX c "is_space"=true∧(aq c d "is_space" [x3] m (FV Q2 v1 x3))
def FX (Q:VQ) (m:MH):Prop:=Q (.bool true) m
theorem K4 {c:Cfg} {d:Nat} {dZ:Val} {m:MH} {Q:VQ}:bf c d (af 15) [dZ] m Q=(dc (bA c d 59 (aa (af 15)) (cF (ai (af 15)) 0)) dZ [some dZ,none] m (dO (aa (af 15)) (aO c d 60 (aa (af 15)) ((ai (af 15)).drop 1) (bY Q)))):=by kernel_rfl
theorem CJ {c:Cfg} {d:Nat} {m:MH} {x3 v1:Val} {o2:Option Val} {Q2:aE}:(bA c d 59 (aa (af 15)) (cF (ai (af 15)) 0) x3 [some v1,o2] m Q2)=(FW c d v1 x3 m Q2):=by kernel_rfl
theorem CL {c:Cfg} {d:Nat} {m:MH} {Q:VQ} {v6:Val} {o7:Option Val}:(dO (aa (af 15)) (aO c d 60 (aa (af 15)) ((ai (af 15)).drop 1) (bY Q)) none [some v6,o7] m)=(FX Q m):=by kernel_rfl
theorem FY {c:Cfg} {d:Nat} {m:MH} {Q:VQ}:bf c d (af 19) [c6,aI] m Q=(aF .Eq c6 (.str "CDATA") m fun b1=>br b1 (Q aI m) (aX c "collapsed"=true∧(aq c d "collapsed" [aI] m (Q)))):=by kernel_rfl
def FZ (c:Cfg) (d:Nat) (c6 aI:Val) (Q:VQ) (x1:Val) (m:MH):Prop:=aF .In c6 x1 m fun b2=>br b2 (aX c "space_split"=true∧(aq c d "space_split" [aI] m (Q))) (aH m (.list [aI]) (Q))
theorem K5 {c:Cfg} {d:Nat} {m:MH} {Q:VQ}:bf c d (af 20) [c6,aI] m Q=(Hh (p9 c.K "LIST_KINDS") m (FZ c d c6 aI Q)):=by kernel_rfl
theorem ND {c:Cfg} {d:Nat} {m:MH} {Q:VQ}:bf c d (af 21) [c6,Sy] m Q=(aF .In c6 (.tup [(.str "NMTOKEN"),(.str "NMTOKENS")]) m fun b1=>br b1 (aX c "is_nmtoken"=true∧(aq c d "is_nmtoken" [Sy] m (Q))) (aX c "is_name"=true∧(aq c d "is_name" [Sy] m (Q)))):=by kernel_rfl
def QF (Q:VQ) (dA:Val) (m:MH):Prop:=ao m (fun x5 m=>aY m (Q) .Add (.str "is not the fixed value ") x5) dA "value"
def QG (Q2:aE) (gI v20 jD te Ml:Val) (m:MH):Prop:=jF (fun WK=>br (!WK) (ao m (fun EW m=>aY m (fun nR m=>aY m (fun nS m=>aY m (fun Jw m=>Q2 (some Jw) [some gI,some v20,some jD,some te] m) .Add nS te) .Add nR (.str ": ")) .Add (.str "has a word that is none of kind ") EW) gI "kind") (Q2 none [some gI,some v20,some jD,some te] m)) Ml
def QH (c:Cfg) (d:Nat) (gI v20 jD te:Val) (m:MH) (Q2:aE):Prop:=aX c "is_word"=true∧(ao m (fun xi m=>aq c d "is_word" [xi,te] m (QG Q2 gI v20 jD te)) gI "kind")
def QI (Q:VQ) (m:MH):Prop:=Q .none m
def QJ (c:Cfg) (d:Nat) (Q:VQ) (dA aI wI:Val) (m:MH):Prop:=aH m (.list []) (fun gS m=>aF .Eq wI gS m fun WL=>br WL (Q (.str "has no word") m) (dc (bA c d 59 (aa (af 22)) (cF (ai (af 22)) 5)) wI [some dA,some aI,some wI,none] m (dO (aa (af 22)) (aO c d 60 (aa (af 22)) ((ai (af 22)).drop 6) (bY Q)))))
def CM (c:Cfg) (d:Nat) (Q:VQ) (aI dA:Val) (m:MH):Prop:=ao m (fun x6 m=>aF .Eq x6 (.str "CDATA") m fun b7=>br b7 (Q .none m) (ao m (fun x8 m=>aF .In x8 (.tup [(.str "enumeration"),(.str "notation")]) m fun b9=>br b9 (ao m (fun hO m=>aF .In aI hO m fun QE=>br QE (Q .none m) (ak c m (fun WM=>ao m (fun fw m=>ar c d WM "join" (.str " ") [fw] m (fun cV m=>aY m (Q) .Add (.str "is none of ") cV)) dA "choices") "join" (.str " "))) dA "choices") (aX c "words_of"=true∧(ao m (fun NF m=>aq c d "words_of" [NF,aI] m (QJ c d Q dA aI)) dA "kind"))) dA "kind")) dA "kind"
def QK (c:Cfg) (d:Nat) (aI:Val) (Q:VQ) (dA:Val) (m:MH):Prop:=ao m (fun x3 m=>aF .NotEq aI x3 m fun b4=>br b4 (QF Q dA m) (CM c d Q aI dA m)) dA "value"
theorem WN {c:Cfg} {d:Nat} {m:MH} {Q:VQ}:bf c d (af 22) [dA,aI] m Q=(ao m (fun x1 m=>aF .Eq x1 (.str "fixed") m fun b2=>br b2 (QK c d aI Q dA m) (CM c d Q aI dA m)) dA "mode"):=by kernel_rfl
theorem NG {c:Cfg} {d:Nat} {m:MH} {te gI v20 jD:Val} {sL:Option Val} {Q2:aE}:(bA c d 59 (aa (af 22)) (cF (ai (af 22)) 5) te [some gI,some v20,some jD,sL] m Q2)=(QH c d gI v20 jD te m Q2):=by kernel_rfl
theorem NH {c:Cfg} {d:Nat} {m:MH} {Q:VQ} {qc gJ oy:Val} {o34:Option Val}:(dO (aa (af 22)) (aO c d 60 (aa (af 22)) ((ai (af 22)).drop 6) (bY Q)) none [some qc,some gJ,some oy,o34] m)=(QI Q m):=by kernel_rfl
def H4 (Q2:aE) (v1 v2 x4 x7:Val) (m:MH):Prop:=fu (bX x7) (Q2 none [some v1,some v2,some x4] m)
def H5 (c:Cfg) (d:Nat) (v1 v2 x4:Val) (m:MH) (Q2:aE):Prop:=aF .NotIn x4 v1 m fun b5=>br b5 (ak c m (fun k6=>ar c d k6 "append" v1 [x4] m (H4 Q2 v1 v2 x4)) "append" v1) (Q2 none [some v1,some v2,some x4] m)
def H6 (c:Cfg) (d:Nat) (v8:Val) (Q:VQ) (m:MH):Prop:=ak c m (fun WO=>ar c d WO "sort" v8 [] m (fun fw m=>fu (bX fw) (Q .none m))) "sort" v8
theorem NI {c:Cfg} {d:Nat} {m:MH} {Q:VQ}:bf c d (af 25) [QL,Sz] m Q=(dc (bA c d 59 (aa (af 25)) (cF (ai (af 25)) 0)) Sz [some QL,some Sz,none] m (dO (aa (af 25)) (aO c d 60 (aa (af 25)) ((ai (af 25)).drop 1) (bY Q)))):=by kernel_rfl
theorem F0 {c:Cfg} {d:Nat} {m:MH} {x4 v1 v2:Val} {o3:Option Val} {Q2:aE}:(bA c d 59 (aa (af 25)) (cF (ai (af 25)) 0) x4 [some v1,some v2,o3] m Q2)=(H5 c d v1 v2 x4 m Q2):=by kernel_rfl
theorem F1 {c:Cfg} {d:Nat} {m:MH} {Q:VQ} {v8 v9:Val} {ou:Option Val}:(dO (aa (af 25)) (aO c d 60 (aa (af 25)) ((ai (af 25)).drop 1) (bY Q)) none [some v8,some v9,ou] m)=(H6 c d v8 Q m):=by kernel_rfl
def vd (Q2:aE) (v7 v8 v9 v10 fw:Val) (m:MH):Prop:=Q2 none [some v7,some v8,some v9,some v10,some fw] m
def ve (Q2:aE) (v7 v8 v9 v10 fw te:Val) (m:MH):Prop:=fu (bX te) (vd Q2 v7 v8 v9 v10 fw m)
def vf (c:Cfg) (d:Nat) (Ua:Recv) (v10:Val) (Q2:aE) (v7 v8 v9 fw F2:Val) (m:MH):Prop:=P7 (fun i=>e8 m (fun H7 m=>ar c d Ua "extend" v10 [H7] m (ve Q2 v7 v8 v9 v10 fw)) F2 .none .none (.int (-i))) (.int 1)
def vg (c:Cfg) (d:Nat) (v7 fw v10:Val) (Q2:aE) (v8 v9:Val) (m:MH):Prop:=ak c m (fun Ua=>ak c m (fun k20=>ar c d k20 "children" v7 [fw] m (vf c d Ua v10 Q2 v7 v8 v9 fw)) "children" v7) "extend" v10
def vh (c:Cfg) (d:Nat) (v7 fw v10:Val) (Q2:aE) (v8 v9 dh:Val) (m:MH):Prop:=fu (bX dh) (vg c d v7 fw v10 Q2 v8 v9 m)
def vj (c:Cfg) (d:Nat) (v9 fw v7 v10:Val) (Q2:aE) (v8 cV:Val) (m:MH):Prop:=aF .Eq cV (.str "element") m fun Ub=>br Ub (ak c m (fun Zl=>ar c d Zl "append" v9 [fw] m (vh c d v7 fw v10 Q2 v8 v9)) "append" v9) (Q2 none [some v7,some v8,some v9,some v10,some fw] m)
def vm (c:Cfg) (d:Nat) (v7 v9 v10:Val) (Q2:aE) (v8 fw:Val) (m:MH):Prop:=ak c m (fun Zm=>ar c d Zm "kind" v7 [fw] m (vj c d v9 fw v7 v10 Q2 v8)) "kind" v7
def jP (c:Cfg) (d:Nat) (v10 v7 v9 v8:Val) (m:MH) (Q2:aE):Prop:=ak c m (fun WQ=>ar c d WQ "pop" v10 [] m (vm c d v7 v9 v10 Q2 v8)) "pop" v10
def vn (v10:Val) (m:MH) (Qb:BQ):Prop:=aH m (.list []) (fun Ml m=>aF .NotEq v10 Ml m fun WK=>Qb WK m)
def tg (Q:VQ) (mK:Val) (m:MH):Prop:=Q mK m
def ti (c:Cfg) (d:Nat) (ah aW:Val) (Q:VQ) (y5 y6:Val) (m:MH):Prop:=∃n,uR (NA c d 59 (aa (af 28)) (cF (ai (af 28)) 1)) (Nz c d 59 (aa (af 28)) (cF (ai (af 28)) 1)) n [some ah,some aW,some y5,some y6,none] m (dO (aa (af 28)) (aO c d 60 (aa (af 28)) ((ai (af 28)).drop 2) (bY Q)))
def tj (c:Cfg) (d:Nat) (ah aW:Val) (Q:VQ) (x1 x3:Val) (m:MH):Prop:=P7 (fun i=>e8 m (fun x4 m=>xI (fun y5 y6=>ti c d ah aW Q y5 y6 m) (.tup [x1,x4])) x3 .none .none (.int (-i))) (.int 1)
theorem yR {c:Cfg} {d:Nat} {m:MH} {Q:VQ}:bf c d (af 28) [ah,aW] m Q=(aH m (.list []) (fun x1 m=>ak c m (fun k2=>ar c d k2 "children" ah [aW] m (tj c d ah aW Q x1)) "children" ah)):=by kernel_rfl
theorem tp {c:Cfg} {d:Nat} {m:MH} {v7 v8 v9 v10:Val} {NJ:Option Val} {Q2:aE}:(Nz c d 59 (aa (af 28)) (cF (ai (af 28)) 1) [some v7,some v8,some v9,some v10,NJ] m Q2)=(jP c d v10 v7 v9 v8 m Q2):=by kernel_rfl
theorem tq {c:Cfg} {d:Nat} {m:MH} {v7 v8 v9 v10:Val} {NJ:Option Val} {Qb:BQ}:(NA c d 59 (aa (af 28)) (cF (ai (af 28)) 1) [some v7,some v8,some v9,some v10,NJ] m Qb)=(vn v10 m Qb):=by kernel_rfl
theorem tu {c:Cfg} {d:Nat} {m:MH} {Q:VQ} {kL oz mK v30:Val} {Uc:Option Val}:(dO (aa (af 28)) (aO c d 60 (aa (af 28)) ((ai (af 28)).drop 2) (bY Q)) none [some kL,some oz,some mK,some v30,Uc] m)=(tg Q mK m):=by kernel_rfl
def F3 (Q2:aE) (v5 v6 v7 v8 c4 cV wI:Val) (m:MH):Prop:=Q2 (some wI) [some v5,some v6,some v7,some v8,some c4,some cV] m
def NK (Q2:aE) (v5 v6 v7 v8 c4 cV:Val) (m:MH):Prop:=eX m (fun gS m=>aF .Eq gS (.int 1) m fun WL=>br WL (ay m (F3 Q2 v5 v6 v7 v8 c4 cV) cV (.int 0)) (F3 Q2 v5 v6 v7 v8 c4 cV .none m)) "len" [cV]
def NL (c:Cfg) (d:Nat) (Q2:aE) (v5 v6 v7 v8 c4 xe:Val) (m:MH):Prop:=aq c d "space_split" [xe] m (NK Q2 v5 v6 v7 v8 c4)
def NM (c:Cfg) (d:Nat) (v8 v5 c4:Val) (Q2:aE) (v6 v7:Val) (ou:Option Val) (fw:Val) (m:MH):Prop:=aF .Eq fw v8 m fun Zj=>br Zj (aX c "space_split"=true∧(ak c m (fun Ua=>ar c d Ua "value" v5 [c4] m (NL c d Q2 v5 v6 v7 v8 c4)) "value" v5)) (Q2 none [some v5,some v6,some v7,some v8,some c4,ou] m)
def NN (c:Cfg) (d:Nat) (v5 v8 v6 v7:Val) (ou:Option Val) (c4:Val) (m:MH) (Q2:aE):Prop:=ak c m (fun WM=>ar c d WM "name" v5 [c4] m (NM c d v8 v5 c4 Q2 v6 v7 ou)) "name" v5
def NO (Q:VQ) (m:MH):Prop:=Q .none m
def NP (c:Cfg) (d:Nat) (ah aM cf x1:Val) (Q:VQ) (x4:Val) (m:MH):Prop:=dc (bA c d 59 (aa (af 29)) (cF (ai (af 29)) 2)) x4 [some ah,some aM,some cf,some x1,none,none] m (dO (aa (af 29)) (aO c d 60 (aa (af 29)) ((ai (af 29)).drop 3) (bY Q)))
def NQ (c:Cfg) (d:Nat) (Q:VQ) (ah aM cf x1:Val) (m:MH):Prop:=aF .Is x1 .none m fun b2=>br b2 (Q .none m) (ak c m (fun k3=>ar c d k3 "attributes" ah [aM] m (NP c d ah aM cf x1 Q)) "attributes" ah)
def NS (c:Cfg) (d:Nat) (K6:Recv) (cf:Val) (Q:VQ) (ah aM nS:Val) (m:MH):Prop:=ar c d K6 "id_name" cf [nS] m (NQ c d Q ah aM cf)
theorem Ud {c:Cfg} {d:Nat} {m:MH} {Q:VQ}:bf c d (af 29) [ah,aM,cf] m Q=(ak c m (fun K6=>ak c m (fun WR=>ar c d WR "name" ah [aM] m (NS c d K6 cf Q ah aM)) "name" ah) "id_name" cf):=by kernel_rfl
theorem K7 {c:Cfg} {d:Nat} {m:MH} {c4 v5 v6 v7 v8:Val} {o9 ou:Option Val} {Q2:aE}:(bA c d 59 (aa (af 29)) (cF (ai (af 29)) 2) c4 [some v5,some v6,some v7,some v8,o9,ou] m Q2)=(NN c d v5 v8 v6 v7 ou c4 m Q2):=by kernel_rfl
theorem K8 {c:Cfg} {d:Nat} {m:MH} {Q:VQ} {jD uI qb CI:Val} {vc qN:Option Val}:(dO (aa (af 29)) (aO c d 60 (aa (af 29)) ((ai (af 29)).drop 3) (bY Q)) none [some jD,some uI,some qb,some CI,vc,qN] m)=(NO Q m):=by kernel_rfl
def F4 (Q2:aE) (v3 v4 v5 v6 x9 hO:Val) (m:MH):Prop:=Q2 none [some v3,some v4,some v5,some v6,some x9,some hO] m
def F5 (x9:Val) (Q2:aE) (v3 v4 v5 v6 hO:Val) (m:MH):Prop:=bb m x9 (F4 Q2 v3 v4 v5 v6 x9 hO) v6 hO
def wJ (Q2:aE) (v3 v4 v5 v6 x9 hO:Val) (m:MH):Prop:=Q2 none [some v3,some v4,some v5,some v6,some x9,some hO] m
def F6 (hO v6 x9:Val) (Q2:aE) (v3 v4 v5:Val) (m:MH):Prop:=aF .NotIn hO v6 m fun Zn=>br Zn (F5 x9 Q2 v3 v4 v5 v6 hO m) (wJ Q2 v3 v4 v5 v6 x9 hO m)
def F7 (v6 x9:Val) (Q2:aE) (v3 v4 v5 hO:Val) (m:MH):Prop:=aF .IsNot hO .none m fun QE=>br QE (F6 hO v6 x9 Q2 v3 v4 v5 m) (wJ Q2 v3 v4 v5 v6 x9 hO m)
def F8 (c:Cfg) (d:Nat) (v3 v5 v6 v4 x9:Val) (m:MH) (Q2:aE):Prop:=aX c "id_of"=true∧(aq c d "id_of" [v3,x9,v5] m (F7 v6 x9 Q2 v3 v4 v5))
def F9 (Q:VQ) (xR:Val) (m:MH):Prop:=Q xR m
def Ga (c:Cfg) (d:Nat) (ah aW cf x1:Val) (Q:VQ) (x2:Val) (m:MH):Prop:=dc (bA c d 59 (aa (af 30)) (cF (ai (af 30)) 1)) x2 [some ah,some aW,some cf,some x1,none,none] m (dO (aa (af 30)) (aO c d 60 (aa (af 30)) ((ai (af 30)).drop 2) (bY Q)))
def Gb (c:Cfg) (d:Nat) (ah aW cf:Val) (Q:VQ) (x1:Val) (m:MH):Prop:=aX c "walk_elements"=true∧(aq c d "walk_elements" [ah,aW] m (Ga c d ah aW cf x1 Q))
theorem K9 {c:Cfg} {d:Nat} {m:MH} {Q:VQ}:bf c d (af 30) [ah,aW,cf] m Q=(dE m (Gb c d ah aW cf Q) []):=by kernel_rfl
theorem CN {c:Cfg} {d:Nat} {m:MH} {x9 v3 v4 v5 v6:Val} {o7 o8:Option Val} {Q2:aE}:(bA c d 59 (aa (af 30)) (cF (ai (af 30)) 1) x9 [some v3,some v4,some v5,some v6,o7,o8] m Q2)=(F8 c d v3 v5 v6 v4 x9 m Q2):=by kernel_rfl
theorem CO {c:Cfg} {d:Nat} {m:MH} {Q:VQ} {yS Ai uJ xR:Val} {dD WS:Option Val}:(dO (aa (af 30)) (aO c d 60 (aa (af 30)) ((ai (af 30)).drop 2) (bY Q)) none [some yS,some Ai,some uJ,some xR,dD,WS] m)=(F9 Q xR m):=by kernel_rfl
def Aj (Q2:aE) (gI v20 jD uI qb CI xj:Val) (m:MH):Prop:=Q2 none [some gI,some v20,some jD,some uI,some qb,some CI,some xj] m
def Ak (Q2:aE) (gI v20 jD uI qb CI xj nR:Val) (m:MH):Prop:=fu (bX nR) (Aj Q2 gI v20 jD uI qb CI xj m)
def Al (c:Cfg) (d:Nat) (uI qb gI v20 jD CI xj:Val) (m:MH) (Q2:aE):Prop:=ak c m (fun K6=>ar c d K6 "append" uI [(.tup [qb,xj])] m (Ak Q2 gI v20 jD uI qb CI xj)) "append" uI
def Am (Q2:aE) (mK v30 qc gJ oy p6:Val) (PG:Option Val) (m:MH):Prop:=Q2 none [some mK,some v30,some qc,some gJ,some oy,some p6,PG] m
def An (c:Cfg) (d:Nat) (v4 v5 v6 v7 c4 eS:Val) (ou:Option Val) (Q2:aE) (dh:Val) (m:MH):Prop:=dc (bA c d 57 (aa (af 31)) (cF (subB (cF (subB (cF (ai (af 31)) 1)) 1)) 0)) dh [some v4,some v5,some v6,some v7,some c4,some eS,ou] m (dO (aa (af 31)) (aO c d 58 (aa (af 31)) ((subB (cF (subB (cF (ai (af 31)) 1)) 1)).drop 1) (aO c d 59 (aa (af 31)) ((subB (cF (ai (af 31)) 1)).drop 2) (Ad (aa (af 31)) Q2))))
def Ao (c:Cfg) (d:Nat) (v4 v5 v6 v7 c4 eS:Val) (ou:Option Val) (Q2:aE) (gS:Val) (m:MH):Prop:=aq c d "space_split" [gS] m (An c d v4 v5 v6 v7 c4 eS ou Q2)
def Ap (c:Cfg) (d:Nat) (v4 c4 v5 v6 v7 eS:Val) (ou:Option Val) (Q2:aE) (m:MH):Prop:=aX c "space_split"=true∧(ak c m (fun Ue=>ar c d Ue "value" v4 [c4] m (Ao c d v4 v5 v6 v7 c4 eS ou Q2)) "value" v4)
def qO (Q2:aE) (v4 v5 v6 v7 c4 eS:Val) (ou:Option Val) (m:MH):Prop:=Q2 none [some v4,some v5,some v6,some v7,some c4,some eS,ou] m
def Aq (c:Cfg) (d:Nat) (v4 c4 v5 v6 v7 eS:Val) (ou:Option Val) (Q2:aE) (m:MH):Prop:=ao m (fun iJ m=>aF .In iJ (.tup [(.str "IDREF"),(.str "IDREFS")]) m fun WT=>br WT (Ap c d v4 c4 v5 v6 v7 eS ou Q2 m) (qO Q2 v4 v5 v6 v7 c4 eS ou m)) eS "kind"
def yT (c:Cfg) (d:Nat) (v4 c4 v5 v6 v7:Val) (ou:Option Val) (Q2:aE) (eS:Val) (m:MH):Prop:=aF .IsNot eS .none m fun NC=>br NC (Aq c d v4 c4 v5 v6 v7 eS ou Q2 m) (qO Q2 v4 v5 v6 v7 c4 eS ou m)
def yU (c:Cfg) (d:Nat) (WU:Recv) (v6 Mm v4 c4 v5 v7:Val) (ou:Option Val) (Q2:aE) (Jx:Val) (m:MH):Prop:=ar c d WU "rule" v6 [Mm,Jx] m (yT c d v4 c4 v5 v6 v7 ou Q2)
def yV (c:Cfg) (d:Nat) (v4 c4:Val) (WU:Recv) (v6 v5 v7:Val) (ou:Option Val) (Q2:aE) (Mm:Val) (m:MH):Prop:=ak c m (fun Zo=>ar c d Zo "name" v4 [c4] m (yU c d WU v6 Mm v4 c4 v5 v7 ou Q2)) "name" v4
def yW (c:Cfg) (d:Nat) (v4 v5 v6 v7:Val) (ou:Option Val) (c4:Val) (m:MH) (Q2:aE):Prop:=ak c m (fun WU=>ak c m (fun Ug=>ar c d Ug "name" v4 [v5] m (yV c d v4 c4 WU v6 v5 v7 ou Q2)) "name" v4) "rule" v6
def yX (Q:VQ) (QM:Val) (m:MH):Prop:=Q QM m
def yY (c:Cfg) (d:Nat) (ah aM cf x1:Val) (Q:VQ) (x3:Val) (m:MH):Prop:=dc (bA c d 59 (aa (af 31)) (cF (ai (af 31)) 1)) x3 [some ah,some aM,some cf,some x1,none,none,none] m (dO (aa (af 31)) (aO c d 60 (aa (af 31)) ((ai (af 31)).drop 2) (bY Q)))
def yZ (c:Cfg) (d:Nat) (ah aM cf:Val) (Q:VQ) (x1:Val) (m:MH):Prop:=ak c m (fun k2=>ar c d k2 "attributes" ah [aM] m (yY c d ah aM cf x1 Q)) "attributes" ah
theorem Gd {c:Cfg} {d:Nat} {m:MH} {Q:VQ}:bf c d (af 31) [ah,aM,cf] m Q=(aH m (.list []) (yZ c d ah aM cf Q)):=by kernel_rfl
theorem y8 {c:Cfg} {d:Nat} {m:MH} {xj gI v20 jD uI qb CI:Val} {vc:Option Val} {Q2:aE}:(bA c d 57 (aa (af 31)) (cF (subB (cF (subB (cF (ai (af 31)) 1)) 1)) 0) xj [some gI,some v20,some jD,some uI,some qb,some CI,vc] m Q2)=(Al c d uI qb gI v20 jD CI xj m Q2):=by kernel_rfl
theorem y9 {c:Cfg} {d:Nat} {m:MH} {Q2:aE} {mK v30 qc gJ oy p6:Val} {PG:Option Val}:(dO (aa (af 31)) (aO c d 58 (aa (af 31)) ((subB (cF (subB (cF (ai (af 31)) 1)) 1)).drop 1) (aO c d 59 (aa (af 31)) ((subB (cF (ai (af 31)) 1)).drop 2) (Ad (aa (af 31)) Q2))) none [some mK,some v30,some qc,some gJ,some oy,some p6,PG] m)=(Am Q2 mK v30 qc gJ oy p6 PG m):=by kernel_rfl
theorem zc {c:Cfg} {d:Nat} {m:MH} {c4 v4 v5 v6 v7:Val} {o8 o9 ou:Option Val} {Q2:aE}:(bA c d 59 (aa (af 31)) (cF (ai (af 31)) 1) c4 [some v4,some v5,some v6,some v7,o8,o9,ou] m Q2)=(yW c d v4 v5 v6 v7 ou c4 m Q2):=by kernel_rfl
theorem ze {c:Cfg} {d:Nat} {m:MH} {Q:VQ} {zf zg H8 QM:Val} {H9 Vp Vq:Option Val}:(dO (aa (af 31)) (aO c d 60 (aa (af 31)) ((ai (af 31)).drop 2) (bY Q)) none [some zf,some zg,some H8,some QM,H9,Vp,Vq] m)=(yX Q QM m):=by kernel_rfl
def oA (Q2:aE) (xR xk Bw gI v20 jD NT Mn:Val) (m:MH):Prop:=Q2 none [some xR,some xk,some Bw,some gI,some v20,some jD,some NT,some Mn] m
def oB (Q2:aE) (xR xk Bw gI v20 jD NT Mn nS:Val) (m:MH):Prop:=fu (bX nS) (oA Q2 xR xk Bw gI v20 jD NT Mn m)
def oD (c:Cfg) (d:Nat) (gI v20 xR xk Bw jD xi:Val) (m:MH) (Q2:aE):Prop:=xI (fun NT Mn=>aF .NotIn Mn gI m fun Zp=>br Zp (ak c m (fun WR=>ar c d WR "append" v20 [(.tup [NT,Mn])] m (oB Q2 xR xk Bw gI v20 jD NT Mn)) "append" v20) (Q2 none [some xR,some xk,some Bw,some gI,some v20,some jD,some NT,some Mn] m)) xi
def oE (Q2:aE) (v30 qc gJ oy p6 X1:Val) (Ge SA:Option Val) (m:MH):Prop:=Q2 none [some v30,some qc,some gJ,some oy,some p6,some X1,Ge,SA] m
def oF (c:Cfg) (d:Nat) (v6 v7 v8 v9 v10 iJ:Val) (Hl EX:Option Val) (Q2:aE) (cV:Val) (m:MH):Prop:=dc (bA c d 58 (aa (af 32)) (cF (subB (cF (ai (af 32)) 1)) 0)) cV [some v6,some v7,some v8,some v9,some v10,some iJ,Hl,EX] m (dO (aa (af 32)) (aO c d 59 (aa (af 32)) ((subB (cF (ai (af 32)) 1)).drop 1) (Ad (aa (af 32)) Q2)))
def oH (c:Cfg) (d:Nat) (v6 v8 v7 v9 v10:Val) (Hl EX:Option Val) (iJ:Val) (m:MH) (Q2:aE):Prop:=aX c "references"=true∧(aq c d "references" [v6,iJ,v8] m (oF c d v6 v7 v8 v9 v10 iJ Hl EX Q2))
def oJ (Q:VQ) (zg:Val) (m:MH):Prop:=Q zg m
def oK (c:Cfg) (d:Nat) (ah aW cf y3 y4:Val) (Q:VQ) (x5:Val) (m:MH):Prop:=dc (bA c d 59 (aa (af 32)) (cF (ai (af 32)) 1)) x5 [some ah,some aW,some cf,some y3,some y4,none,none,none] m (dO (aa (af 32)) (aO c d 60 (aa (af 32)) ((ai (af 32)).drop 2) (bY Q)))
def oM (c:Cfg) (d:Nat) (ah aW cf:Val) (Q:VQ) (y3 y4:Val) (m:MH):Prop:=aX c "walk_elements"=true∧(aq c d "walk_elements" [ah,aW] m (oK c d ah aW cf y3 y4 Q))
def mL (c:Cfg) (d:Nat) (ah aW cf:Val) (Q:VQ) (x1:Val) (m:MH):Prop:=aH m (.list []) (fun x2 m=>xI (fun y3 y4=>oM c d ah aW cf Q y3 y4 m) (.tup [x1,x2]))
theorem rC {c:Cfg} {d:Nat} {m:MH} {Q:VQ}:bf c d (af 32) [ah,aW,cf] m Q=(aX c "id_table"=true∧(aq c d "id_table" [ah,aW,cf] m (mL c d ah aW cf Q))):=by kernel_rfl
theorem mM {c:Cfg} {d:Nat} {m:MH} {xi xR xk Bw gI v20 jD:Val} {sL yr:Option Val} {Q2:aE}:(bA c d 58 (aa (af 32)) (cF (subB (cF (ai (af 32)) 1)) 0) xi [some xR,some xk,some Bw,some gI,some v20,some jD,sL,yr] m Q2)=(oD c d gI v20 xR xk Bw jD xi m Q2):=by kernel_rfl
theorem mN {c:Cfg} {d:Nat} {m:MH} {Q2:aE} {v30 qc gJ oy p6 X1:Val} {Ge SA:Option Val}:(dO (aa (af 32)) (aO c d 59 (aa (af 32)) ((subB (cF (ai (af 32)) 1)).drop 1) (Ad (aa (af 32)) Q2)) none [some v30,some qc,some gJ,some oy,some p6,some X1,Ge,SA] m)=(oE Q2 v30 qc gJ oy p6 X1 Ge SA m):=by kernel_rfl
theorem mO {c:Cfg} {d:Nat} {m:MH} {iJ v6 v7 v8 v9 v10:Val} {NJ Hl EX:Option Val} {Q2:aE}:(bA c d 59 (aa (af 32)) (cF (ai (af 32)) 1) iJ [some v6,some v7,some v8,some v9,some v10,NJ,Hl,EX] m Q2)=(oH c d v6 v8 v7 v9 v10 Hl EX iJ m Q2):=by kernel_rfl
theorem mQ {c:Cfg} {d:Nat} {m:MH} {Q:VQ} {SD La Lb zf zg:Val} {SE Lc H9:Option Val}:(dO (aa (af 32)) (aO c d 60 (aa (af 32)) ((ai (af 32)).drop 2) (bY Q)) none [some SD,some La,some Lb,some zf,some zg,SE,Lc,H9] m)=(oJ Q zg m):=by kernel_rfl
def CP (Q2:aE) (x6 v3 v4 x8:Val) (m:MH):Prop:=aF .Eq x8 (.str "element") m fun b9=>br b9 (Q2 (some x6) [some v3,some v4,some x6] m) (Q2 none [some v3,some v4,some x6] m)
def CQ (c:Cfg) (d:Nat) (v3 v4 x6:Val) (m:MH) (Q2:aE):Prop:=ak c m (fun k7=>ar c d k7 "kind" v3 [x6] m (CP Q2 x6 v3 v4)) "kind" v3
def CR (Q:VQ) (m:MH):Prop:=Q .none m
def CT (c:Cfg) (d:Nat) (ah aW:Val) (Q:VQ) (x2:Val) (m:MH):Prop:=dc (bA c d 59 (aa (af 35)) (cF (ai (af 35)) 0)) x2 [some ah,some aW,none] m (dO (aa (af 35)) (aO c d 60 (aa (af 35)) ((ai (af 35)).drop 1) (bY Q)))
theorem Ia {c:Cfg} {d:Nat} {m:MH} {Q:VQ}:bf c d (af 35) [ah,aW] m Q=(ak c m (fun k1=>ar c d k1 "children" ah [aW] m (CT c d ah aW Q)) "children" ah):=by kernel_rfl
theorem Ar {c:Cfg} {d:Nat} {m:MH} {x6 v3 v4:Val} {o5:Option Val} {Q2:aE}:(bA c d 59 (aa (af 35)) (cF (ai (af 35)) 0) x6 [some v3,some v4,o5] m Q2)=(CQ c d v3 v4 x6 m Q2):=by kernel_rfl
theorem As {c:Cfg} {d:Nat} {m:MH} {Q:VQ} {v10 v11:Val} {Hl:Option Val}:(dO (aa (af 35)) (aO c d 60 (aa (af 35)) ((ai (af 35)).drop 1) (bY Q)) none [some v10,some v11,Hl] m)=(CR Q m):=by kernel_rfl
def NU (Q2:aE) (xk Bw gI v20 jD uI qb SF Vr:Val) (qN:Option Val) (m:MH):Prop:=Q2 none [some xk,some Bw,some gI,some v20,some jD,some uI,some qb,some SF,some Vr,qN] m
def NV (SF:Val) (Q2:aE) (xk Bw gI v20 jD uI qb Vr:Val) (qN:Option Val) (SG:Val) (m:MH):Prop:=aY m (fun tw m=>aH m (.list [(.tup [SF,tw])]) (fun SH m=>aY m (fun NF m=>bb m NF (NU Q2 xk Bw gI v20 jD uI qb SF Vr qN) qb SF) .Add SG SH)) .Add (.str "there is no ID ") Vr
def Gf (c:Cfg) (d:Nat) (qb xk Bw gI v20 jD uI:Val) (qN:Option Val) (EW:Val) (m:MH) (Q2:aE):Prop:=xI (fun SF Vr=>ak c m (fun WW=>aH m (.list []) (fun Uh m=>ar c d WW "get" qb [SF,Uh] m (NV SF Q2 xk Bw gI v20 jD uI qb Vr qN))) "get" qb) EW
def NW (Q2:aE) (rD rG sM rH EY Ib vq:Val) (Ic:Option Val) (zh Zq:Val) (m:MH):Prop:=Q2 none [some rD,some rG,some sM,some rH,some Zq,some EY,some Ib,some vq,Ic,some zh] m
def NX (Q2:aE) (rD rG sM rH EY Ib vq:Val) (Ic:Option Val) (zh sN Zr:Val) (m:MH):Prop:=aY m (NW Q2 rD rG sM rH EY Ib vq Ic zh) .Add sN Zr
def NY (c:Cfg) (d:Nat) (Ib rD rG sM rH EY:Val) (Ic:Option Val) (zh sN vq:Val) (m:MH) (Q2:aE):Prop:=ak c m (fun k73=>aH m (.list []) (fun x74 m=>ar c d k73 "get" Ib [vq,x74] m (NX Q2 rD rG sM rH EY Ib vq Ic zh sN))) "get" Ib
def NZ (Q2:aE) (Vs Gg zX QN gb gj gk:Val) (QO QP:Option Val) (iD:Val) (m:MH):Prop:=Q2 none [some Vs,some Gg,some zX,some QN,some gb,some gj,some gk,QO,QP,some iD] m
def N1 (c:Cfg) (d:Nat) (CU vr vt zY Ui sO kx:Val) (CV Au:Option Val) (Bx:Val) (Q2:aE) (WY:Val) (m:MH):Prop:=dc (bA c d 58 (aa (af 36)) (cF (subB (cF (ai (af 36)) 5)) 1)) WY [some CU,some vr,some vt,some zY,some Ui,some sO,some kx,CV,Au,some Bx] m (dO (aa (af 36)) (aO c d 59 (aa (af 36)) ((subB (cF (ai (af 36)) 5)).drop 2) (Ad (aa (af 36)) Q2)))
def N2 (c:Cfg) (d:Nat) (CU Bx vr vt zY sO kx:Val) (CV Au:Option Val) (Q2:aE) (Ui:Val) (m:MH):Prop:=ak c m (fun k59=>ar c d k59 "attributes" CU [Bx] m (N1 c d CU vr vt zY Ui sO kx CV Au Bx Q2)) "attributes" CU
def Ld (c:Cfg) (d:Nat) (CU Bx vr vt zY sO kx:Val) (CV Au:Option Val) (Q2:aE) (uK Zs:Val) (m:MH):Prop:=aY m (N2 c d CU Bx vr vt zY sO kx CV Au Q2) .Add uK Zs
def By (c:Cfg) (d:Nat) (zY CU vr vt sO kx:Val) (CV Au:Option Val) (uK Bx:Val) (m:MH) (Q2:aE):Prop:=ak c m (fun k86=>ar c d k86 "element" zY [Bx] m (Ld c d CU Bx vr vt zY sO kx CV Au Q2 uK)) "element" zY
def Lf (Q:VQ) (Vt:Val) (m:MH):Prop:=Q Vt m
def Lg (c:Cfg) (d:Nat) (Uj Uk SD La Lb zf zg:Val) (SE Lc H9:Option Val) (Q:VQ) (WZ:Val) (m:MH):Prop:=dc (bA c d 59 (aa (af 36)) (cF (ai (af 36)) 5)) WZ [some Uj,some Uk,some SD,some La,some Lb,some zf,some zg,SE,Lc,H9] m (dO (aa (af 36)) (aO c d 60 (aa (af 36)) ((ai (af 36)).drop 6) (bY Q)))
def Lh (c:Cfg) (d:Nat) (Uj Uk SD La Lb zf zg:Val) (SE Lc H9:Option Val) (Q:VQ) (m:MH):Prop:=aX c "walk_elements"=true∧(aq c d "walk_elements" [Uj,Uk] m (Lg c d Uj Uk SD La Lb zf zg SE Lc H9 Q))
def Li (c:Cfg) (d:Nat) (ah aW cf y3 y4 x5 cV:Val) (Q:VQ) (wI:Val) (m:MH):Prop:=dc (bA c d 59 (aa (af 36)) (cF (ai (af 36)) 4)) wI [some ah,some aW,some cf,some y3,some y4,some x5,some cV,none,none,none] m (dO (aa (af 36)) (aO c d 60 (aa (af 36)) ((ai (af 36)).drop 5) (bY Q)))
def Lj (c:Cfg) (d:Nat) (ah aW cf y3 y4 x5:Val) (Q:VQ) (cV:Val) (m:MH):Prop:=aX c "broken_references"=true∧(aq c d "broken_references" [ah,aW,cf] m (Li c d ah aW cf y3 y4 x5 cV Q))
def gT (c:Cfg) (d:Nat) (ah aW cf y3 y4 x5:Val) (Q:VQ) (m:MH):Prop:=dE m (Lj c d ah aW cf y3 y4 x5 Q) []
def Lk (c:Cfg) (d:Nat) (ah aW cf y3 y4 x5:Val) (Q:VQ) (iJ:Val) (m:MH):Prop:=fu (bX iJ) (gT c d ah aW cf y3 y4 x5 Q m)
def Ll (c:Cfg) (d:Nat) (y4 x5 ah aW cf y3:Val) (Q:VQ) (m:MH):Prop:=ak c m (fun WO=>ao m (fun eS m=>aY m (fun fw m=>ar c d WO "append" y4 [(.tup [x5,fw])] m (Lk c d ah aW cf y3 y4 x5 Q)) .Add (.str "the outermost element must be ") eS) cf "root") "append" y4
def Lm (c:Cfg) (d:Nat) (y4 x5 ah aW cf y3:Val) (Q:VQ) (x8:Val) (m:MH):Prop:=ao m (fun x9 m=>aF .NotEq x8 x9 m fun FT=>br FT (Ll c d y4 x5 ah aW cf y3 Q m) (gT c d ah aW cf y3 y4 x5 Q m)) cf "root"
def Ln (c:Cfg) (d:Nat) (ah x5 y4 aW cf y3:Val) (Q:VQ) (m:MH):Prop:=ak c m (fun k7=>ar c d k7 "name" ah [x5] m (Lm c d y4 x5 ah aW cf y3 Q)) "name" ah
def Bz (c:Cfg) (d:Nat) (ah y4 aW cf y3:Val) (Q:VQ) (x5:Val) (m:MH):Prop:=aF .IsNot x5 .none m fun b6=>br b6 (Ln c d ah x5 y4 aW cf y3 Q m) (gT c d ah aW cf y3 y4 x5 Q m)
def Lo (c:Cfg) (d:Nat) (ah aW cf:Val) (Q:VQ) (y3 y4:Val) (m:MH):Prop:=aX c "outermost"=true∧(aq c d "outermost" [ah,aW] m (Bz c d ah y4 aW cf y3 Q))
def Lp (c:Cfg) (d:Nat) (ah aW cf:Val) (Q:VQ) (x1:Val) (m:MH):Prop:=aH m (.list []) (fun x2 m=>xI (fun y3 y4=>Lo c d ah aW cf Q y3 y4 m) (.tup [x1,x2]))
theorem Ul {c:Cfg} {d:Nat} {m:MH} {Q:VQ}:bf c d (af 36) [ah,aW,cf] m Q=(aX c "Checker"=true∧(aq c d "Checker" [ah,cf] m (Lp c d ah aW cf Q))):=by kernel_rfl
theorem Lq {c:Cfg} {d:Nat} {m:MH} {EW xk Bw gI v20 jD uI qb:Val} {Av vc qN:Option Val} {Q2:aE}:(bA c d 59 (aa (af 36)) (cF (ai (af 36)) 4) EW [some xk,some Bw,some gI,some v20,some jD,some uI,some qb,Av,vc,qN] m Q2)=(Gf c d qb xk Bw gI v20 jD uI qN EW m Q2):=by kernel_rfl
theorem Lr {c:Cfg} {d:Nat} {m:MH} {vq rD rG sM rH sN EY Ib:Val} {zi Ic:Option Val} {zh:Val} {Q2:aE}:(bA c d 58 (aa (af 36)) (cF (subB (cF (ai (af 36)) 5)) 1) vq [some rD,some rG,some sM,some rH,some sN,some EY,some Ib,zi,Ic,some zh] m Q2)=(NY c d Ib rD rG sM rH EY Ic zh sN vq m Q2):=by kernel_rfl
theorem Ls {c:Cfg} {d:Nat} {m:MH} {Q2:aE} {Vs Gg zX QN gb gj gk:Val} {QO QP:Option Val} {iD:Val}:(dO (aa (af 36)) (aO c d 59 (aa (af 36)) ((subB (cF (ai (af 36)) 5)).drop 2) (Ad (aa (af 36)) Q2)) none [some Vs,some Gg,some zX,some QN,some gb,some gj,some gk,QO,QP,some iD] m)=(NZ Q2 Vs Gg zX QN gb gj gk QO QP iD m):=by kernel_rfl
theorem Lu {c:Cfg} {d:Nat} {m:MH} {Bx CU vr vt zY uK sO kx:Val} {CV Au PH:Option Val} {Q2:aE}:(bA c d 59 (aa (af 36)) (cF (ai (af 36)) 5) Bx [some CU,some vr,some vt,some zY,some uK,some sO,some kx,CV,Au,PH] m Q2)=(By c d zY CU vr vt sO kx CV Au uK Bx m Q2):=by kernel_rfl
theorem Lv {c:Cfg} {d:Nat} {m:MH} {Q:VQ} {qP Zt Zu Vu Vt v93 v94:Val} {W0 W2 W3:Option Val}:(dO (aa (af 36)) (aO c d 60 (aa (af 36)) ((ai (af 36)).drop 6) (bY Q)) none [some qP,some Zt,some Zu,some Vu,some Vt,some v93,some v94,W0,W2,W3] m)=(Lf Q Vt m):=by kernel_rfl
theorem Lw {c:Cfg} {d:Nat} {m:MH} {Q:VQ} {Uj Uk SD La Lb zf zg:Val} {SE Lc H9:Option Val}:(dO (aa (af 36)) (aO c d 60 (aa (af 36)) ((ai (af 36)).drop 5) (bY Q)) none [some Uj,some Uk,some SD,some La,some Lb,some zf,some zg,SE,Lc,H9] m)=(Lh c d Uj Uk SD La Lb zf zg SE Lc H9 Q m):=by kernel_rfl
def CW (x5:Val) (Q:VQ) (x6:Val) (m:MH):Prop:=aY m (fun x7 m=>aF .GtE x5 x7 m fun b8=>eX m (fun x9 m=>aY m (fun hO m=>aH m (.list [hO,x6]) (Q)) .Mult x5 x9) "int" [(.bool b8)]) .Pow (.int 10) (.int 18)
def CY (Q:VQ) (vk x5:Val) (m:MH):Prop:=eX m (fun c4 m=>aY m (fun eS m=>aY m (fun fw m=>aY m (fun iJ m=>aY m (fun cV m=>aY m (fun wI m=>aY m (fun gS m=>aY m (fun dh m=>aY m (fun p5 m=>eX m (fun xe m=>aY m (CW x5 Q) .Mod xe (.int 2147483647)) "int" [p5]) .Mult dh (.int 48271)) .Add gS (.int 17)) .Add cV wI) .Mult (.int 31) vk) .Add eS iJ) .Mult fw vk) .Mult (.int 7919) vk) .Mod c4 (.int 2147483629)) "int" [x5]
def kM (Q:VQ) (vk x4:Val) (m:MH):Prop:=eX m (fun F2 m=>P7 (fun i=>aY m (fun H7 m=>eX m (fun te m=>eX m (CY Q vk) "max" [F2,te]) "int" [H7]) .Sub (.int (-i)) x4) (.int 1)) "int" [x4]
theorem Ie {c:Cfg} {d:Nat} {m:MH} {Q:VQ}:bf c d (af 48) [aP,vk] m Q=(eX m (fun x1 m=>aF .Lt vk x1 m fun b2=>br b2 (ay m (fun xi m=>kM Q vk xi m) aP vk) (kM Q vk (.int 0) m)) "len" [aP]):=by kernel_rfl
def CZ (Q:VQ) (aj Ig x3:Val) (m:MH):Prop:=ay m (fun x4 m=>aY m (fun x5 m=>bb m x5 (fun m=>Q x3 m) aj (.int 0)) .FloorDiv x4 Ig) aj (.int 0)
def tA (Q:VQ) (Ig aj:Val) (m:MH):Prop:=ay m (fun fw m=>ay m (fun iJ m=>aY m (fun cV m=>eX m (fun wI m=>aY m (fun gS m=>aY m (fun dh m=>eX m (fun p5 m=>aY m (Q) .Mod p5 Ig) "int" [dh]) .FloorDiv gS (.int 32)) .Mod wI (.int 2147483629)) "int" [cV]) .Mult fw iJ) aj (.int 1)) aj (.int 1)
theorem Ih {c:Cfg} {d:Nat} {m:MH} {Q:VQ}:bf c d (af 49) [aj,Ig] m Q=(ay m (fun x1 m=>aF .Gt x1 (.int 0) m fun b2=>br b2 (ay m (fun x6 m=>eX m (fun x7 m=>aY m (CZ Q aj Ig) .Mod x7 Ig) "int" [x6]) aj (.int 0)) (ay m (fun x8 m=>aY m (fun x9 m=>aY m (fun hO m=>eX m (fun c4 m=>aY m (fun eS m=>bb m eS (tA Q Ig aj) aj (.int 1)) .Mod c4 (.int 2147483647)) "int" [hO]) .Add x9 (.int 7)) .Mult x8 (.int 39373)) aj (.int 1))) aj (.int 0)):=by kernel_rfl
theorem Lx {c:Cfg} {d:Nat} {m:MH} {Q:VQ}:bf c d (af 50) [aj,Jy] m Q=(aX c "_law_take"=true∧(eX m (fun x1 m=>aq c d "_law_take" [aj,x1] m (fun x3 m=>ay m (Q) Jy x3)) "len" [Jy])):=by kernel_rfl
def fL (c:Cfg) (d:Nat) (aj:Val) (Q:VQ) (x1:Val) (m:MH):Prop:=aX c "_law_one"=true∧(aH m (.list [(.str "a"),(.str "b"),(.str "c")]) (fun x3 m=>aq c d "_law_one" [aj,x3] m (fun x5 m=>Q (.tup [(.str "name"),x5,x1]) m)))
def vw (c:Cfg) (d:Nat) (aj:Val) (Q:VQ) (x1 x8:Val) (m:MH):Prop:=aX c "_law_one"=true∧(aH m (.list [(.str "seq"),(.str "choice")]) (fun x9 m=>aq c d "_law_one" [aj,x9] m (fun c4 m=>Q (.tup [c4,x8,x1]) m)))
def vx (c:Cfg) (d:Nat) (aj i8 cV:Val) (acc:List Val) (m:MH) (Q1:List Val→MH→Prop):Prop:=aX c "_law_particle"=true∧(aY m (fun wI m=>aq c d "_law_particle" [aj,wI] m (fun dh m=>acc.length<bw∧Q1 (acc++[dh]) m)) .Sub i8 (.int 1))
def vy (c:Cfg) (d:Nat) (aj:Val) (Q:VQ) (x1 p5:Val) (m:MH):Prop:=eX m (vw c d aj Q x1) "tuple" [p5]
def vz (c:Cfg) (d:Nat) (aj i8:Val) (Q:VQ) (x1 eS:Val) (m:MH):Prop:=aY m (fun fw m=>eX m (fun iJ m=>cw (vx c d aj i8) iJ [] m (fun acc m=>aH m (.list acc) (vy c d aj Q x1))) "range" [fw]) .Add (.int 1) eS
def vA (c:Cfg) (d:Nat) (aj i8:Val) (Q:VQ) (x1:Val) (m:MH):Prop:=aX c "_law_take"=true∧(aq c d "_law_take" [aj,(.int 2)] m (vz c d aj i8 Q x1))
def vB (c:Cfg) (d:Nat) (aj:Val) (Q:VQ) (x1 i8 x6:Val) (m:MH):Prop:=aF .Eq x6 (.int 0) m fun b7=>br b7 (fL c d aj Q x1 m) (vA c d aj i8 Q x1 m)
def vC (c:Cfg) (d:Nat) (aj:Val) (Q:VQ) (x1 i8:Val) (m:MH):Prop:=aX c "_law_take"=true∧(aq c d "_law_take" [aj,(.int 2)] m (vB c d aj Q x1 i8))
def vD (c:Cfg) (d:Nat) (i8 aj:Val) (Q:VQ) (x1:Val) (m:MH):Prop:=aF .Eq i8 (.int 0) m fun b2=>br b2 (fL c d aj Q x1 m) (vC c d aj Q x1 i8 m)
theorem oN {c:Cfg} {d:Nat} {m:MH} {Q:VQ}:bf c d (af 51) [aj,i8] m Q=(aX c "_law_one"=true∧(aH m (.list [(.str ""),(.str ""),(.str "?"),(.str "*"),(.str "+")]) (fun xe m=>aq c d "_law_one" [aj,xe] m (vD c d i8 aj Q)))):=by kernel_rfl
def Aw (Q:VQ) (x1 x4:Val) (m:MH):Prop:=aH m (.list [(.tup [(.str "any")]),(.tup [(.str "empty")]),(.tup [(.str "mixed"),x4])]) (fun x5 m=>ay m (Q) x5 x1)
def Ax (Q:VQ) (x8 x6 hO:Val) (m:MH):Prop:=Q (.tup [(.str "children"),(.tup [x8,x6,hO])]) m
def Ay (c:Cfg) (d:Nat) (aj:Val) (Q:VQ) (x6 x8:Val) (m:MH):Prop:=aX c "_law_one"=true∧(aH m (.list [(.str ""),(.str "*"),(.str "+")]) (fun x9 m=>aq c d "_law_one" [aj,x9] m (Ax Q x8 x6)))
def Az (c:Cfg) (d:Nat) (aj:Val) (Q:VQ) (x6:Val) (m:MH):Prop:=aX c "_law_one"=true∧(aH m (.list [(.str "seq"),(.str "choice")]) (fun x7 m=>aq c d "_law_one" [aj,x7] m (Ay c d aj Q x6)))
def AA (c:Cfg) (d:Nat) (aj iJ:Val) (acc:List Val) (m:MH) (Q1:List Val→MH→Prop):Prop:=aX c "_law_particle"=true∧(aq c d "_law_particle" [aj,(.int 1)] m (fun wI m=>acc.length<bw∧Q1 (acc++[wI]) m))
def AB (c:Cfg) (d:Nat) (aj:Val) (Q:VQ) (gS:Val) (m:MH):Prop:=eX m (Az c d aj Q) "tuple" [gS]
def AD (c:Cfg) (d:Nat) (aj:Val) (Q:VQ) (c4:Val) (m:MH):Prop:=aY m (fun eS m=>eX m (fun fw m=>cw (AA c d aj) fw [] m (fun acc m=>aH m (.list acc) (AB c d aj Q))) "range" [eS]) .Add (.int 1) c4
def AE (c:Cfg) (d:Nat) (aj:Val) (Q:VQ) (x1:Val) (m:MH):Prop:=aF .Lt x1 (.int 3) m fun b2=>br b2 (aX c "_law_one"=true∧(aH m (.list [(.tup []),(.tup [(.str "b")]),(.tup [(.str "b"),(.str "c")])]) (fun x3 m=>aq c d "_law_one" [aj,x3] m (Aw Q x1)))) (aX c "_law_take"=true∧(aq c d "_law_take" [aj,(.int 2)] m (AD c d aj Q)))
theorem Gh {c:Cfg} {d:Nat} {aj:Val} {m:MH} {Q:VQ}:bf c d (af 52) [aj] m Q=(aX c "_law_take"=true∧(aq c d "_law_take" [aj,(.int 5)] m (AE c d aj Q))):=by kernel_rfl
def zj (acc:List Val) (Q1:List Val→MH→Prop) (x5:Val) (m:MH):Prop:=aY m (fun c4 m=>acc.length<bw∧Q1 (acc++[c4]) m) .Add x5 (.int 1)
def zk (acc:List Val) (Q1:List Val→MH→Prop) (x5 au cG:Val) (m:MH):Prop:=ay m (fun x8 m=>ay m (fun x9 m=>aF .Eq x8 x9 m fun FT=>br FT (zj acc Q1 x5 m) (Q1 acc m)) au (.int 1)) cG x5
def zm (au cG x5:Val) (acc:List Val) (m:MH) (Q1:List Val→MH→Prop):Prop:=eX m (fun x6 m=>aF .Lt x5 x6 m fun b7=>br b7 (zk acc Q1 x5 au cG m) (Q1 acc m)) "len" [cG]
def zo (Q2:aE) (uJ xR te:Val) (wK PJ wL sL:Option Val) (xi:Val) (m:MH):Prop:=Q2 none [some uJ,some xR,some xi,some te,wK,PJ,wL,sL] m
def zp (c:Cfg) (d:Nat) (xR xk uJ:Val) (wK PJ wL sL:Option Val) (te:Val) (m:MH) (Q2:aE):Prop:=aX c "_law_behind"=true∧(aq c d "_law_behind" [te,xR,xk] m (zo Q2 uJ xR te wK PJ wL sL))
def zq (Q:VQ) (kL:Val) (m:MH):Prop:=Q kL m
def zr (Mo:Val) (acc:List Val) (m:MH) (Q1:List Val→MH→Prop):Prop:=acc.length<bw∧Q1 (acc++[Mo]) m
def zu (c:Cfg) (d:Nat) (cG de NF:Val) (acc:List Val) (m:MH) (Q1:List Val→MH→Prop):Prop:=aX c "_law_behind"=true∧(aq c d "_law_behind" [NF,cG,de] m (fun Mm m=>cw (zr) Mm acc m Q1))
def zv (Q2:aE) (vr vt Bx:Val) (SI SJ:Option Val) (kx PK Ui:Val) (m:MH):Prop:=Q2 none [some vr,some vt,some Bx,SI,SJ,some kx,some Ui,some PK] m
def xl (Q2:aE) (vr vt:Val) (SI SJ:Option Val) (kx PK C5 Bx:Val) (m:MH):Prop:=aY m (fun Vv m=>A9 m (zv Q2 vr vt Bx SI SJ kx PK) Vv) .Add C5 Bx
def xm (c:Cfg) (d:Nat) (kx vt zY vr:Val) (SI SJ:Option Val) (C5 PK:Val) (m:MH) (Q2:aE):Prop:=aX c "_law_behind"=true∧(aq c d "_law_behind" [kx,vt,zY] m (xl Q2 vr vt SI SJ kx PK C5))
def xn (Q:VQ) (EY:Val) (m:MH):Prop:=Q EY m
def gm (c:Cfg) (d:Nat) (au cG de Vw Vx:Val) (Q:VQ) (WZ:Val) (m:MH):Prop:=eX m (fun Um m=>dc (bA c d 59 (aa (af 53)) (cF (ai (af 53)) 2)) Um [some au,some cG,some de,none,none,some Vw,some Vx,none] m (dO (aa (af 53)) (aO c d 60 (aa (af 53)) ((ai (af 53)).drop 3) (bY Q)))) "range" [WZ]
def xo (c:Cfg) (d:Nat) (au cG de:Val) (Q:VQ) (Vw Vx:Val) (m:MH):Prop:=ay m (fun Zv m=>aF .Eq Zv (.str "?") m fun b69=>br b69 (gm c d au cG de Vw Vx Q (.int 1) m) (eX m (fun Zw m=>aY m (gm c d au cG de Vw Vx Q) .Add Zw (.int 1)) "len" [cG])) au (.int 2)
def gq (c:Cfg) (d:Nat) (au cG de:Val) (Q:VQ) (N3 Un:Val) (m:MH):Prop:=xI (fun Vw Vx=>xo c d au cG de Q Vw Vx m) (.tup [N3,Un])
theorem gK {c:Cfg} {d:Nat} {m:MH} {Q:VQ}:bf c d (af 53) [au,cG,de] m Q=(ay m (fun x1 m=>aF .Eq x1 (.str "") m fun b2=>br b2 (ay m (fun x3 m=>aF .Eq x3 (.str "name") m fun b4=>br b4 (cw (zm au cG) de [] m (fun acc m=>aH m (.list acc) (Q))) (ay m (fun eS m=>aF .Eq eS (.str "seq") m fun NC=>br NC (ay m (fun iJ m=>dc (bA c d 57 (aa (af 53)) (cF (subB (cF (subB (cF (ai (af 53)) 0)) 1)) 0)) iJ [some au,some cG,some de,none,none,none,none,none] m (dO (aa (af 53)) (aO c d 58 (aa (af 53)) ((subB (cF (subB (cF (ai (af 53)) 0)) 1)).drop 1) (aO c d 59 (aa (af 53)) ((subB (cF (ai (af 53)) 0)).drop 2) (aO c d 60 (aa (af 53)) ((ai (af 53)).drop 1) (bY Q)))))) au (.int 1)) (ay m (fun SH m=>cw (zu c d cG de) SH [] m (fun acc m=>aH m (.list acc) (fun Jx m=>A9 m (Q) Jx))) au (.int 1))) au (.int 0))) au (.int 0)) (e8 m (fun Uo m=>aY m (fun N3 m=>ay m (fun vq m=>aF .NotEq vq (.str "+") m fun b72=>br b72 (eX m (gq c d au cG de Q N3) "list" [de]) (aH m (.list []) (gq c d au cG de Q N3))) au (.int 2)) .Add Uo (.tup [(.str "")])) au .none (.int 2) .none)) au (.int 2)):=by kernel_rfl
theorem xp {c:Cfg} {d:Nat} {m:MH} {te uJ xR xk:Val} {WS wK PJ wL sL:Option Val} {Q2:aE}:(bA c d 57 (aa (af 53)) (cF (subB (cF (subB (cF (ai (af 53)) 0)) 1)) 0) te [some uJ,some xR,some xk,WS,wK,PJ,wL,sL] m Q2)=(zp c d xR xk uJ wK PJ wL sL te m Q2):=by kernel_rfl
theorem xq {c:Cfg} {d:Nat} {m:MH} {Q:VQ} {PL vE kL:Val} {o28 Zx Zy Uc Zz:Option Val}:(dO (aa (af 53)) (aO c d 58 (aa (af 53)) ((subB (cF (subB (cF (ai (af 53)) 0)) 1)).drop 1) (aO c d 59 (aa (af 53)) ((subB (cF (ai (af 53)) 0)).drop 2) (aO c d 60 (aa (af 53)) ((ai (af 53)).drop 1) (bY Q)))) none [some PL,some vE,some kL,o28,Zx,Zy,Uc,Zz] m)=(zq Q kL m):=by kernel_rfl
theorem xr {c:Cfg} {d:Nat} {m:MH} {PK vr vt zY:Val} {SI SJ:Option Val} {kx C5:Val} {Au:Option Val} {Q2:aE}:(bA c d 59 (aa (af 53)) (cF (ai (af 53)) 2) PK [some vr,some vt,some zY,SI,SJ,some kx,some C5,Au] m Q2)=(xm c d kx vt zY vr SI SJ C5 PK m Q2):=by kernel_rfl
theorem xt {c:Cfg} {d:Nat} {m:MH} {Q:VQ} {Vy rD rG:Val} {o63 o64:Option Val} {sN EY:Val} {EZ:Option Val}:(dO (aa (af 53)) (aO c d 60 (aa (af 53)) ((ai (af 53)).drop 3) (bY Q)) none [some Vy,some rD,some rG,o63,o64,some sN,some EY,EZ] m)=(xn Q EY m):=by kernel_rfl
def AF (Q:VQ) (x3 x4:Val) (m:MH):Prop:=e8 m (fun x5 m=>aH m (.list [(.tup [(.str "b"),(.str "i"),(.str "ID"),(.tup []),(.str "implied"),.none]),(.tup [(.str "b"),(.str "r"),(.str "IDREF"),(.tup []),(.str "implied"),.none])]) (fun x6 m=>aY m (Q) .Add x5 x6)) x3 x4 .none .none
def AG (c:Cfg) (d:Nat) (aj:Val) (Q:VQ) (x3:Val) (m:MH):Prop:=aX c "_law_take"=true∧(aq c d "_law_take" [aj,(.int 3)] m (AF Q x3))
def AH (c:Cfg) (d:Nat) (aj:Val) (Q:VQ) (x2:Val) (m:MH):Prop:=aH m (.list [(.tup [(.str "b"),(.str "f"),(.str "CDATA"),(.tup []),(.str "fixed"),(.str "u v")]),(.tup [(.str "a"),(.str "w"),(.str "CDATA"),(.tup []),(.str "required"),.none])]) (fun x7 m=>aY m (AG c d aj Q) .Add x2 x7)
def AJ (c:Cfg) (d:Nat) (aj:Val) (Q:VQ) (x1:Val) (m:MH):Prop:=aH m (.list [(.tup [(.str "b"),(.str "k"),(.str "enumeration"),(.tup [(.str "u"),(.str "v")]),(.str "default"),(.str "u")]),(.tup [(.str "b"),(.str "n"),(.str "NMTOKEN"),(.tup []),(.str "implied"),.none])]) (fun x8 m=>aY m (AH c d aj Q) .Add x1 x8)
def AK (c:Cfg) (d:Nat) (aj:Val) (Q:VQ) (hO:Val) (m:MH):Prop:=aH m (.list [(.tup [(.str "a"),(.str "i"),(.str "ID"),(.tup []),hO,.none]),(.tup [(.str "a"),(.str "r"),(.str "IDREFS"),(.tup []),(.str "implied"),.none])]) (AJ c d aj Q)
theorem Gi {c:Cfg} {d:Nat} {aj:Val} {m:MH} {Q:VQ}:bf c d (af 54) [aj] m Q=(aX c "_law_one"=true∧(aH m (.list [(.str "implied"),(.str "required")]) (fun x9 m=>aq c d "_law_one" [aj,x9] m (AK c d aj Q)))):=by kernel_rfl
def AL (x4:Val) (acc:List Val) (m:MH) (Q1:List Val→MH→Prop):Prop:=aF .NotEq x4 (.str "") m fun b5=>br b5 (acc.length<bw∧Q1 (acc++[x4]) m) (Q1 acc m)
def AM (Q:VQ) (x3:Val) (m:MH):Prop:=cw (AL) x3 [] m (fun acc m=>aH m (.list acc) (Q))
theorem Gj {c:Cfg} {d:Nat} {aI:Val} {m:MH} {Q:VQ}:bf c d (af 55) [aI] m Q=(Ja "\n" " " m (fun x1 m=>ak c m (fun k2=>ar c d k2 "split" x1 [(.str " ")] m (AM Q)) "split" x1) aI):=by kernel_rfl
def kN (gS:Val) (acc:List Val) (Q1:List Val→MH→Prop) (dh:Val) (m:MH):Prop:=aF .NotIn gS dh m fun ZA=>br ZA (acc.length<bw∧Q1 (acc++[gS]) m) (Q1 acc m)
def C6 (y4 gS:Val) (acc:List Val) (m:MH) (Q1:List Val→MH→Prop):Prop:=aF .Eq y4 (.str "NMTOKEN") m fun ZC=>br ZC (aH m (.list [(.str "u"),(.str "v"),(.str "x"),(.str "7")]) (kN gS acc Q1)) (aH m (.list [(.str "u"),(.str "v"),(.str "x")]) (kN gS acc Q1))
def C7 (Q:VQ) (F2:Val) (m:MH):Prop:=aH m (.list []) (fun H7 m=>aF .Eq F2 H7 m fun QQ=>Q (.bool QQ) m)
def kO (y4:Val) (Q:VQ) (iJ:Val) (m:MH):Prop:=aH m (.list []) (fun cV m=>aF .NotEq iJ cV m fun Ub=>jF (fun b=>br b (cw (C6 y4) iJ [] m (fun acc m=>aH m (.list acc) (C7 Q))) (Q (.bool false) m)) (.bool Ub))
def kP (c:Cfg) (d:Nat) (y4:Val) (Q:VQ) (y6 oO:Val) (m:MH):Prop:=aF .Eq y4 (.str "CDATA") m fun FT=>br FT (Q (.bool true) m) (aF .Eq y4 (.str "enumeration") m fun QE=>br QE (ay m (fun eS m=>aF .In y6 eS m fun NC=>Q (.bool NC) m) oO (.int 3)) (aF .Eq y4 (.str "IDREFS") m fun b24=>br b24 (aX c "_law_words"=true∧(aq c d "_law_words" [y6] m (kO y4 Q))) (aH m (.list [y6]) (kO y4 Q))))
def C8 (c:Cfg) (d:Nat) (y6:Val) (Q:VQ) (y4 oO:Val) (m:MH):Prop:=ay m (fun x8 m=>aF .NotEq y6 x8 m fun b9=>br b9 (Q (.bool false) m) (kP c d y4 Q y6 oO m)) oO (.int 5)
def C9 (c:Cfg) (d:Nat) (Q:VQ) (oO y4 y5 y6:Val) (m:MH):Prop:=aF .Eq y5 (.str "fixed") m fun b7=>br b7 (C8 c d y6 Q y4 oO m) (kP c d y4 Q y6 oO m)
def kQ (c:Cfg) (d:Nat) (Q:VQ) (oO x1 x2 x3:Val) (m:MH):Prop:=Hi (fun y4 y5 y6=>C9 c d Q oO y4 y5 y6 m) (.tup [x1,x2,x3])
def Dc (c:Cfg) (d:Nat) (K6:Recv) (Q:VQ) (oO x1 x2 nR:Val) (m:MH):Prop:=ar c d K6 "join" (.str " ") [nR] m (kQ c d Q oO x1 x2)
theorem Ii {c:Cfg} {d:Nat} {m:MH} {Q:VQ}:bf c d (af 56) [oO,aI] m Q=(ay m (fun x1 m=>ay m (fun x2 m=>ay m (fun Ml m=>aF .Eq Ml (.str "CDATA") m fun WK=>br WK (kQ c d Q oO x1 x2 aI m) (ak c m (fun K6=>aX c "_law_words"=true∧(aq c d "_law_words" [aI] m (Dc c d K6 Q oO x1 x2))) "join" (.str " "))) oO (.int 2)) oO (.int 4)) oO (.int 2)):=by kernel_rfl
def vF (Q2:aE) (v8 v9 v10 v11 df dh qd qQ xj:Val) (dD:Option Val) (m:MH):Prop:=Q2 none [some v8,some v9,some v10,some v11,some df,some dh,some qd,some qQ,some xj,dD] m
def vG (Q2:aE) (v8 v9 v10 v11 df dh qd qQ xj:Val) (dD:Option Val) (Jw:Val) (m:MH):Prop:=fu (bX Jw) (vF Q2 v8 v9 v10 v11 df dh qd qQ xj dD m)
def vH (c:Cfg) (d:Nat) (K6:Recv) (df:Val) (Q2:aE) (v8 v9 v10 v11 dh qd qQ xj:Val) (dD:Option Val) (nS:Val) (m:MH):Prop:=ar c d K6 "append" df [nS] m (vG Q2 v8 v9 v10 v11 df dh qd qQ xj dD)
def vI (c:Cfg) (d:Nat) (v9 qd df:Val) (Q2:aE) (v8 v10 v11 dh qQ:Val) (dD:Option Val) (xj:Val) (m:MH):Prop:=ak c m (fun K6=>ak c m (fun WR=>ar c d WR "add_element" v9 [qd,xj,(.str ""),xj] m (vH c d K6 df Q2 v8 v9 v10 v11 dh qd qQ xj dD)) "add_element" v9) "append" df
def vJ (c:Cfg) (d:Nat) (v8 v9 qd df:Val) (Q2:aE) (v10 v11 dh qQ:Val) (dD:Option Val) (m:MH):Prop:=aX c "_law_one"=true∧(aH m (.list [(.str "a"),(.str "b"),(.str "b"),(.str "c")]) (fun Uh m=>aq c d "_law_one" [v8,Uh] m (vI c d v9 qd df Q2 v8 v10 v11 dh qQ dD)))
def vK (Q2:aE) (v8 v9 v10 v11 df dh qd qQ:Val) (gL dD:Option Val) (m:MH):Prop:=Q2 none [some v8,some v9,some v10,some v11,some df,some dh,some qd,some qQ,gL,dD] m
def vL (Q2:aE) (v8 v9 v10 v11 df dh qd qQ:Val) (gL dD:Option Val) (W4:Val) (m:MH):Prop:=fu (bX W4) (vK Q2 v8 v9 v10 v11 df dh qd qQ gL dD m)
def vM (c:Cfg) (d:Nat) (W5:Recv) (v9 qd:Val) (Q2:aE) (v8 v10 v11 df dh qQ:Val) (gL dD:Option Val) (NF:Val) (m:MH):Prop:=ar c d W5 "add_text" v9 [qd,NF] m (vL Q2 v8 v9 v10 v11 df dh qd qQ gL dD)
def vN (Q2:aE) (v8 v9 v10 v11 df dh qd qQ:Val) (gL dD:Option Val) (m:MH):Prop:=Q2 none [some v8,some v9,some v10,some v11,some df,some dh,some qd,some qQ,gL,dD] m
def tB (Q2:aE) (v8 v9 v10 v11 df dh qd qQ:Val) (gL dD:Option Val) (Mm:Val) (m:MH):Prop:=fu (bX Mm) (vN Q2 v8 v9 v10 v11 df dh qd qQ gL dD m)
def ff (c:Cfg) (d:Nat) (qQ v8 v9 qd:Val) (Q2:aE) (v10 v11 df dh:Val) (gL dD:Option Val) (m:MH):Prop:=aF .Eq qQ (.int 3) m fun b32=>br b32 (ak c m (fun W5=>aX c "_law_one"=true∧(aH m (.list [(.str "x"),(.str " \n"),(.str "")]) (fun SH m=>aq c d "_law_one" [v8,SH] m (vM c d W5 v9 qd Q2 v8 v10 v11 df dh qQ gL dD)))) "add_text" v9) (ak c m (fun Ug=>ar c d Ug "add_comment" v9 [qd,(.str "k")] m (tB Q2 v8 v9 v10 v11 df dh qd qQ gL dD)) "add_comment" v9)
def tC (c:Cfg) (d:Nat) (v8 v9 qd df:Val) (Q2:aE) (v10 v11 dh qQ:Val) (dD gL:Option Val) (m:MH):Prop:=eX m (fun xi m=>aF .Lt xi (.int 7) m fun ZD=>br ZD (vJ c d v8 v9 qd df Q2 v10 v11 dh qQ dD m) (ff c d qQ v8 v9 qd Q2 v10 v11 df dh gL dD m)) "len" [df]
def tD (c:Cfg) (d:Nat) (v8 v9 df:Val) (Q2:aE) (v10 v11 dh:Val) (dD gL:Option Val) (qd qQ:Val) (m:MH):Prop:=aF .Lt qQ (.int 3) m fun QQ=>br QQ (tC c d v8 v9 qd df Q2 v10 v11 dh qQ dD gL m) (ff c d qQ v8 v9 qd Q2 v10 v11 df dh gL dD m)
def tE (c:Cfg) (d:Nat) (v8 v9 df:Val) (Q2:aE) (v10 v11 dh:Val) (dD gL:Option Val) (p5 xe:Val) (m:MH):Prop:=xI (fun qd qQ=>tD c d v8 v9 df Q2 v10 v11 dh dD gL qd qQ m) (.tup [p5,xe])
def tF (c:Cfg) (d:Nat) (v8 v9 df:Val) (Q2:aE) (v10 v11 dh:Val) (dD gL:Option Val) (p5:Val) (m:MH):Prop:=aX c "_law_take"=true∧(aq c d "_law_take" [v8,(.int 5)] m (tE c d v8 v9 df Q2 v10 v11 dh dD gL p5))
def i9 (c:Cfg) (d:Nat) (v8 df v9 v10 v11:Val) (dD gL:Option Val) (dh:Val) (m:MH) (Q2:aE):Prop:=aX c "_law_one"=true∧(aq c d "_law_one" [v8,df] m (tF c d v8 v9 df Q2 v10 v11 dh dD gL))
def tG (Q2:aE) (rD rG sM rH sN:Val) (Hm EZ zi:Option Val) (vq zh:Val) (m:MH):Prop:=Q2 none [some rD,some rG,some sM,some rH,some sN,Hm,EZ,zi,some vq,some zh] m
def tH (Q2:aE) (rD rG sM rH sN:Val) (Hm EZ zi:Option Val) (vq zh x77:Val) (m:MH):Prop:=fu (bX x77) (tG Q2 rD rG sM rH sN Hm EZ zi vq zh m)
def tI (c:Cfg) (d:Nat) (ZE:Recv) (rG zh vq:Val) (Q2:aE) (rD sM rH sN:Val) (Hm EZ zi:Option Val) (x76:Val) (m:MH):Prop:=ar c d ZE "set_attribute" rG [zh,vq,(.str ""),vq,x76] m (tH Q2 rD rG sM rH sN Hm EZ zi vq zh)
def tJ (c:Cfg) (d:Nat) (rD rG zh vq:Val) (Q2:aE) (sM rH sN:Val) (Hm EZ zi:Option Val) (Zq:Val) (m:MH):Prop:=aF .Eq Zq (.int 0) m fun b73=>br b73 (ak c m (fun ZE=>aX c "_law_one"=true∧(aH m (.list [(.str "u"),(.str "v"),(.str " u"),(.str "u  v"),(.str ""),(.str "7"),(.str "u v"),(.str "x")]) (fun Zr m=>aq c d "_law_one" [rD,Zr] m (tI c d ZE rG zh vq Q2 rD sM rH sN Hm EZ zi)))) "set_attribute" rG) (Q2 none [some rD,some rG,some sM,some rH,some sN,Hm,EZ,zi,some vq,some zh] m)
def ja (c:Cfg) (d:Nat) (rD rG zh sM rH sN:Val) (Hm EZ zi:Option Val) (vq:Val) (m:MH) (Q2:aE):Prop:=aX c "_law_take"=true∧(aq c d "_law_take" [rD,(.int 4)] m (tJ c d rD rG zh vq Q2 sM rH sN Hm EZ zi))
def tK (Q2:aE) (zX QN gb gj gk:Val) (QO QP X2 X3:Option Val) (qe:Val) (m:MH):Prop:=Q2 none [some zX,some QN,some gb,some gj,some gk,QO,QP,X2,X3,some qe] m
def jb (c:Cfg) (d:Nat) (vt zY uK sO kx:Val) (CV Au PH Uq:Option Val) (Vv:Val) (m:MH) (Q2:aE):Prop:=aH m (.list [(.str "i"),(.str "r"),(.str "k"),(.str "n"),(.str "f"),(.str "w"),(.str "z")]) (fun WY m=>dc (bA c d 58 (aa (af 57)) (cF (subB (cF (ai (af 57)) 4)) 0)) WY [some vt,some zY,some uK,some sO,some kx,CV,Au,PH,Uq,some Vv] m (dO (aa (af 57)) (aO c d 59 (aa (af 57)) ((subB (cF (ai (af 57)) 4)).drop 1) (Ad (aa (af 57)) Q2))))
def tL (Q:VQ) (Vu:Val) (m:MH):Prop:=Q Vu m
def tM (c:Cfg) (d:Nat) (H8 La Lb zf zg:Val) (Lc H9 Vp Vq X4:Option Val) (Q:VQ) (m:MH):Prop:=dc (bA c d 59 (aa (af 57)) (cF (ai (af 57)) 4)) H8 [some La,some Lb,some zf,some zg,some H8,Lc,H9,Vp,Vq,X4] m (dO (aa (af 57)) (aO c d 60 (aa (af 57)) ((ai (af 57)).drop 5) (bY Q)))
def tN (c:Cfg) (d:Nat) (aj ah cH x1 x4:Val) (Q:VQ) (x5:Val) (m:MH):Prop:=aY m (fun x6 m=>eX m (fun x7 m=>dc (bA c d 59 (aa (af 57)) (cF (ai (af 57)) 3)) x7 [some aj,some ah,some cH,some x1,some x4,none,none,none,none,none] m (dO (aa (af 57)) (aO c d 60 (aa (af 57)) ((ai (af 57)).drop 4) (bY Q)))) "range" [x6]) .Add (.int 2) x5
def tO (c:Cfg) (d:Nat) (aj ah cH x1:Val) (Q:VQ) (x4:Val) (m:MH):Prop:=aX c "_law_take"=true∧(aq c d "_law_take" [aj,(.int 7)] m (tN c d aj ah cH x1 x4 Q))
def tP (c:Cfg) (d:Nat) (aj ah cH x1:Val) (Q:VQ) (x99:Val) (m:MH):Prop:=aH m (.list [x99]) (tO c d aj ah cH x1 Q)
def tQ (c:Cfg) (d:Nat) (ah x1 cH aj:Val) (Q:VQ) (m:MH):Prop:=ak c m (fun k98=>ar c d k98 "add_element" ah [x1,cH,(.str ""),cH] m (tP c d aj ah cH x1 Q)) "add_element" ah
def tR (c:Cfg) (d:Nat) (ah x1 cH aj:Val) (Q:VQ) (x3:Val) (m:MH):Prop:=fu (bX x3) (tQ c d ah x1 cH aj Q m)
def tS (c:Cfg) (d:Nat) (ah cH aj:Val) (Q:VQ) (x1:Val) (m:MH):Prop:=ak c m (fun k2=>ar c d k2 "add_comment" ah [x1,(.str "k")] m (tR c d ah x1 cH aj Q)) "add_comment" ah
theorem zw {c:Cfg} {d:Nat} {m:MH} {Q:VQ}:bf c d (af 57) [aj,ah,cH] m Q=(ak c m (fun ZF=>ar c d ZF "new_root" ah [] m (tS c d ah cH aj Q)) "new_root" ah):=by kernel_rfl
theorem tT {c:Cfg} {d:Nat} {m:MH} {dh v8 v9 v10 v11 df:Val} {EX Ur W6 gL dD:Option Val} {Q2:aE}:(bA c d 59 (aa (af 57)) (cF (ai (af 57)) 3) dh [some v8,some v9,some v10,some v11,some df,EX,Ur,W6,gL,dD] m Q2)=(i9 c d v8 df v9 v10 v11 dD gL dh m Q2):=by kernel_rfl
theorem tU {c:Cfg} {d:Nat} {m:MH} {vq rD rG sM rH sN:Val} {Hm EZ zi Ic:Option Val} {zh:Val} {Q2:aE}:(bA c d 58 (aa (af 57)) (cF (subB (cF (ai (af 57)) 4)) 0) vq [some rD,some rG,some sM,some rH,some sN,Hm,EZ,zi,Ic,some zh] m Q2)=(ja c d rD rG zh sM rH sN Hm EZ zi vq m Q2):=by kernel_rfl
theorem tV {c:Cfg} {d:Nat} {m:MH} {Q2:aE} {zX QN gb gj gk:Val} {QO QP X2 X3:Option Val} {qe:Val}:(dO (aa (af 57)) (aO c d 59 (aa (af 57)) ((subB (cF (ai (af 57)) 4)).drop 1) (Ad (aa (af 57)) Q2)) none [some zX,some QN,some gb,some gj,some gk,QO,QP,X2,X3,some qe] m)=(tK Q2 zX QN gb gj gk QO QP X2 X3 qe m):=by kernel_rfl
theorem tW {c:Cfg} {d:Nat} {m:MH} {Vv vt zY uK sO kx:Val} {CV Au PH Uq o58:Option Val} {Q2:aE}:(bA c d 59 (aa (af 57)) (cF (ai (af 57)) 4) Vv [some vt,some zY,some uK,some sO,some kx,CV,Au,PH,Uq,o58] m Q2)=(jb c d vt zY uK sO kx CV Au PH Uq Vv m Q2):=by kernel_rfl
theorem tX {c:Cfg} {d:Nat} {m:MH} {Q:VQ} {qP Zt Zu Vu Vt:Val} {js ZG W0 W2 W3:Option Val}:(dO (aa (af 57)) (aO c d 60 (aa (af 57)) ((ai (af 57)).drop 5) (bY Q)) none [some qP,some Zt,some Zu,some Vu,some Vt,js,ZG,W0,W2,W3] m)=(tL Q Vu m):=by kernel_rfl
theorem tY {c:Cfg} {d:Nat} {m:MH} {Q:VQ} {La Lb zf zg H8:Val} {Lc H9 Vp Vq X4:Option Val}:(dO (aa (af 57)) (aO c d 60 (aa (af 57)) ((ai (af 57)).drop 4) (bY Q)) none [some La,some Lb,some zf,some zg,some H8,Lc,H9,Vp,Vq,X4] m)=(tM c d H8 La Lb zf zg Lc H9 Vp Vq X4 Q m):=by kernel_rfl
def De (Q2:aE) (v4 v5 x8 x9:Val) (m:MH):Prop:=Q2 none [some v4,some v5,some x9,some x8] m
def Df (c:Cfg) (d:Nat) (v4 v5 v6 x8:Val) (m:MH) (Q2:aE):Prop:=aX c "_law_walk"=true∧(aq c d "_law_walk" [v4,x8] m (fun c4 m=>aY m (De Q2 v4 v5 x8) .Add v6 c4))
def Dg (Q:VQ) (Ai:Val) (m:MH):Prop:=Q Ai m
def Di (c:Cfg) (d:Nat) (ah aR x1:Val) (Q:VQ) (x3:Val) (m:MH):Prop:=dc (bA c d 59 (aa (af 58)) (cF (ai (af 58)) 1)) x3 [some ah,some aR,some x1,none] m (dO (aa (af 58)) (aO c d 60 (aa (af 58)) ((ai (af 58)).drop 2) (bY Q)))
def kR (c:Cfg) (d:Nat) (ah aR:Val) (Q:VQ) (x1:Val) (m:MH):Prop:=ak c m (fun k2=>ar c d k2 "children" ah [aR] m (Di c d ah aR x1 Q)) "children" ah
def Dj (c:Cfg) (d:Nat) (aR ah:Val) (Q:VQ) (gS:Val) (m:MH):Prop:=aF .Eq gS (.str "element") m fun WL=>br WL (aH m (.list [aR]) (kR c d ah aR Q)) (aH m (.list []) (kR c d ah aR Q))
theorem Ij {c:Cfg} {d:Nat} {m:MH} {Q:VQ}:bf c d (af 58) [ah,aR] m Q=(ak c m (fun Ue=>ar c d Ue "kind" ah [aR] m (Dj c d aR ah Q)) "kind" ah):=by kernel_rfl
theorem AN {c:Cfg} {d:Nat} {m:MH} {x8 v4 v5 v6:Val} {o7:Option Val} {Q2:aE}:(bA c d 59 (aa (af 58)) (cF (ai (af 58)) 1) x8 [some v4,some v5,some v6,o7] m Q2)=(Df c d v4 v5 v6 x8 m Q2):=by kernel_rfl
theorem AO {c:Cfg} {d:Nat} {m:MH} {Q:VQ} {df yS Ai:Val} {W6:Option Val}:(dO (aa (af 58)) (aO c d 60 (aa (af 58)) ((ai (af 58)).drop 2) (bY Q)) none [some df,some yS,some Ai,W6] m)=(Dg Q Ai m):=by kernel_rfl
def fE (Q:VQ) (x9:Val) (m:MH):Prop:=aH m (.list []) (fun hO m=>aF .NotEq x9 hO m fun QE=>eX m (Q) "int" [(.bool QE)])
def mR (bC iJ:Val) (acc:List Val) (m:MH) (Q1:List Val→MH→Prop):Prop:=ay m (fun cV m=>aF .NotIn iJ cV m fun Ub=>br Ub (acc.length<bw∧Q1 (acc++[iJ]) m) (Q1 acc m)) bC (.int 1)
def mS (acc:List Val) (Q1:List Val→MH→Prop) (xi Ml:Val) (m:MH):Prop:=aH m (.list []) (fun xj m=>aF .NotEq Ml xj m fun Zp=>br Zp (acc.length<bw∧Q1 (acc++[xi]) m) (Q1 acc m))
def mT (c:Cfg) (d:Nat) (xi:Val) (acc:List Val) (m:MH) (Q1:List Val→MH→Prop):Prop:=aX c "_law_words"=true∧(aq c d "_law_words" [xi] m (mS acc Q1 xi))
def mU (Q:VQ) (nR:Val) (m:MH):Prop:=aH m (.list []) (fun nS m=>aF .NotEq nR nS m fun b30=>eX m (Q) "int" [(.bool b30)])
def mV (c:Cfg) (d:Nat) (p5:Val) (Q:VQ) (x2 H7:Val) (m:MH):Prop:=aF .NotIn p5 H7 m fun QQ=>br QQ (Q (.int 1) m) (cw (mT c d) x2 [] m (fun acc m=>aH m (.list acc) (mU Q)))
def fF (c:Cfg) (d:Nat) (bC:Val) (Q:VQ) (ah aR x1 x2:Val) (m:MH):Prop:=aF .Is bC .none m fun b3=>br b3 (Q (.int 1) m) (ay m (fun x4 m=>aF .Eq x4 (.str "any") m fun b5=>br b5 (Q (.int 0) m) (ay m (fun x6 m=>aF .Eq x6 (.str "empty") m fun b7=>br b7 (ak c m (fun k8=>ar c d k8 "children" ah [aR] m (fE Q)) "children" ah) (ay m (fun eS m=>aF .Eq eS (.str "mixed") m fun NC=>br NC (cw (mR bC) x1 [] m (fun acc m=>aH m (.list acc) (fun dh m=>eX m (Q) "len" [dh]))) (eX m (fun p5 m=>aX c "_law_behind"=true∧(ay m (fun xe m=>aH m (.list [(.int 0)]) (fun F2 m=>aq c d "_law_behind" [xe,x1,F2] m (mV c d p5 Q x2))) bC (.int 1))) "len" [x1])) bC (.int 0))) bC (.int 0))) bC (.int 0))
def mW (c:Cfg) (d:Nat) (ah tw:Val) (acc:List Val) (Q1:List Val→MH→Prop) (NF:Val) (m:MH):Prop:=aF .Eq NF (.str "text") m fun b36=>br b36 (ak c m (fun Ug=>ar c d Ug "value" ah [tw] m (fun Mp m=>acc.length<bw∧Q1 (acc++[Mp]) m)) "value" ah) (Q1 acc m)
def mX (c:Cfg) (d:Nat) (ah tw:Val) (acc:List Val) (m:MH) (Q1:List Val→MH→Prop):Prop:=ak c m (fun ZH=>ar c d ZH "kind" ah [tw] m (mW c d ah tw acc Q1)) "kind" ah
def kS (c:Cfg) (d:Nat) (ah bC:Val) (Q:VQ) (aR x1 SG:Val) (m:MH):Prop:=cw (mX c d ah) SG [] m (fun acc m=>aH m (.list acc) (fF c d bC Q ah aR x1))
def kU (c:Cfg) (d:Nat) (ah aR bC:Val) (Q:VQ) (x1:Val) (m:MH):Prop:=ak c m (fun k31=>ar c d k31 "children" ah [aR] m (kS c d ah bC Q aR x1)) "children" ah
def kW (c:Cfg) (d:Nat) (ah N3:Val) (acc:List Val) (Q1:List Val→MH→Prop) (Us:Val) (m:MH):Prop:=aF .Eq Us (.str "element") m fun b45=>br b45 (ak c m (fun k46=>ar c d k46 "name" ah [N3] m (fun W7 m=>acc.length<bw∧Q1 (acc++[W7]) m)) "name" ah) (Q1 acc m)
def kX (c:Cfg) (d:Nat) (ah N3:Val) (acc:List Val) (m:MH) (Q1:List Val→MH→Prop):Prop:=ak c m (fun k43=>ar c d k43 "kind" ah [N3] m (kW c d ah N3 acc Q1)) "kind" ah
def kY (c:Cfg) (d:Nat) (ah aR bC:Val) (Q:VQ) (Uo:Val) (m:MH):Prop:=cw (kX c d ah) Uo [] m (fun acc m=>aH m (.list acc) (kU c d ah aR bC Q))
theorem qf {c:Cfg} {d:Nat} {m:MH} {Q:VQ}:bf c d (af 59) [ah,aR,bC] m Q=(ak c m (fun k40=>ar c d k40 "children" ah [aR] m (kY c d ah aR bC Q)) "children" ah):=by kernel_rfl
def Gk (Q2:aE) (v7 v8 v9 v10 v11 df yS uJ nR:Val) (dD:Option Val) (nS:Val) (wK:Option Val) (Jw:Val) (wL sL yr Av vc qN AP:Option Val) (Uh:Val) (m:MH):Prop:=Q2 none [some v7,some v8,some v9,some v10,some v11,some df,some yS,some Uh,some uJ,some nR,dD,some nS,wK,some Jw,wL,sL,yr,Av,vc,qN,AP] m
def Gl (SG:Val) (acc:List Val) (m:MH) (Q1:List Val→MH→Prop):Prop:=eX m (fun tw m=>aF .Eq tw (.int 1) m fun b34=>br b34 (ay m (fun NF m=>acc.length<bw∧Q1 (acc++[NF]) m) SG (.int 0)) (Q1 acc m)) "len" [SG]
def Gm (Q2:aE) (v7 v8 v9 v10 v11 df yS uJ nR:Val) (dD:Option Val) (nS:Val) (wK:Option Val) (Jw:Val) (wL sL yr Av vc qN AP:Option Val) (Ai W4:Val) (m:MH):Prop:=aY m (Gk Q2 v7 v8 v9 v10 v11 df yS uJ nR dD nS wK Jw wL sL yr Av vc qN AP) .Add Ai W4
def Gn (Q2:aE) (v7 v8 v9 v10 v11 df yS uJ nR:Val) (dD:Option Val) (nS:Val) (wK wL sL yr Av vc qN AP:Option Val) (Ai Jw:Val) (m:MH):Prop:=cw (Gl) Jw [] m (fun acc m=>aH m (.list acc) (Gm Q2 v7 v8 v9 v10 v11 df yS uJ nR dD nS wK Jw wL sL yr Av vc qN AP Ai))
def Gp (c:Cfg) (d:Nat) (acc:List Val) (Q1:List Val→MH→Prop) (W7:Val) (m:MH):Prop:=aq c d "_law_words" [W7] m (fun x50 m=>acc.length<bw∧Q1 (acc++[x50]) m)
def Gq (c:Cfg) (d:Nat) (v7 Mp:Val) (acc:List Val) (Q1:List Val→MH→Prop) (m:MH):Prop:=aX c "_law_words"=true∧(ak c m (fun k47=>ar c d k47 "value" v7 [Mp] m (Gp c d acc Q1)) "value" v7)
def Gr (c:Cfg) (d:Nat) (v7 Mp:Val) (acc:List Val) (Q1:List Val→MH→Prop) (nS Un:Val) (m:MH):Prop:=ay m (fun Us m=>ay m (fun x45 m=>aF .Eq Un x45 m fun b46=>br b46 (Gq c d v7 Mp acc Q1 m) (Q1 acc m)) Us (.int 1)) nS (.int 0)
def Gs (c:Cfg) (d:Nat) (v7 Mp:Val) (acc:List Val) (Q1:List Val→MH→Prop) (nS:Val) (m:MH):Prop:=ak c m (fun k42=>ar c d k42 "name" v7 [Mp] m (Gr c d v7 Mp acc Q1 nS)) "name" v7
def Gu (c:Cfg) (d:Nat) (nS v7 Mp:Val) (acc:List Val) (m:MH) (Q1:List Val→MH→Prop):Prop:=aH m (.list []) (fun Jx m=>aF .NotEq nS Jx m fun b41=>br b41 (Gs c d v7 Mp acc Q1 nS m) (Q1 acc m))
def Dk (c:Cfg) (d:Nat) (nS v7:Val) (Q2:aE) (v8 v9 v10 v11 df yS uJ nR:Val) (dD wK wL sL yr Av vc qN AP:Option Val) (Ai Mm:Val) (m:MH):Prop:=cw (Gu c d nS v7) Mm [] m (fun acc m=>aH m (.list acc) (Gn Q2 v7 v8 v9 v10 v11 df yS uJ nR dD nS wK wL sL yr Av vc qN AP Ai))
def Dl (c:Cfg) (d:Nat) (v7 nR:Val) (Q2:aE) (v8 v9 v10 v11 df yS uJ:Val) (dD wK wL sL yr Av vc qN AP:Option Val) (Ai nS:Val) (m:MH):Prop:=ak c m (fun Ug=>ar c d Ug "attributes" v7 [nR] m (Dk c d nS v7 Q2 v8 v9 v10 v11 df yS uJ nR dD wK wL sL yr Av vc qN AP Ai)) "attributes" v7
def Dm (acc:List Val) (Q1:List Val→MH→Prop) (Ut:Val) (m:MH):Prop:=ay m (fun PK m=>aF .Eq PK (.str "ID") m fun b57=>br b57 (acc.length<bw∧Q1 (acc++[Ut]) m) (Q1 acc m)) Ut (.int 2)
def Dn (N4:Val) (acc:List Val) (Q1:List Val→MH→Prop) (Ut x54:Val) (m:MH):Prop:=aF .Eq N4 x54 m fun b55=>br b55 (Dm acc Q1 Ut m) (Q1 acc m)
def Dp (c:Cfg) (d:Nat) (v7 nR Ut:Val) (acc:List Val) (m:MH) (Q1:List Val→MH→Prop):Prop:=ay m (fun N4 m=>ak c m (fun ZI=>ar c d ZI "name" v7 [nR] m (Dn N4 acc Q1 Ut)) "name" v7) Ut (.int 0)
def Dq (c:Cfg) (d:Nat) (v7 nR:Val) (Q2:aE) (v8 v9 v10 v11 df yS uJ:Val) (dD wK wL sL yr Av vc qN AP:Option Val) (Ai Ui:Val) (m:MH):Prop:=e8 m (Dl c d v7 nR Q2 v8 v9 v10 v11 df yS uJ dD wK wL sL yr Av vc qN AP Ai) Ui .none (.int 1) .none
def tZ (c:Cfg) (d:Nat) (v7 v11 v8 v9 v10 df yS uJ:Val) (dD wK wL sL yr Av vc qN AP:Option Val) (Ai nR:Val) (m:MH) (Q2:aE):Prop:=cw (Dp c d v7 nR) v11 [] m (fun acc m=>aH m (.list acc) (Dq c d v7 nR Q2 v8 v9 v10 v11 df yS uJ dD wK wL sL yr Av vc qN AP Ai))
def Dr (Uu:Val) (acc:List Val) (Q1:List Val→MH→Prop) (N5 ZJ:Val) (m:MH):Prop:=aF .Eq Uu ZJ m fun ZK=>br ZK (ay m (fun ZL m=>acc.length<bw∧Q1 (acc++[(.tup [ZL,N5])]) m) N5 (.int 1)) (Q1 acc m)
def Ds (c:Cfg) (d:Nat) (gb dQ N5:Val) (acc:List Val) (m:MH) (Q1:List Val→MH→Prop):Prop:=ay m (fun Uu m=>ak c m (fun ZM=>ar c d ZM "name" gb [dQ] m (Dr Uu acc Q1 N5)) "name" gb) N5 (.int 0)
def t4 (Q2:aE) (bW bF bH bI bJ bK bR bZ bL cB:Val) (bM:Option Val) (cj:Val) (bN:Option Val) (bO bU bP eB cK:Val) (t5:Option Val) (QR ZN:Val) (m:MH):Prop:=Q2 none [some bW,some bF,some bH,some bI,some bJ,some bK,some ZN,some bR,some bZ,some bL,some cB,bM,some cj,bN,some bO,some bU,some bP,some eB,some cK,t5,some QR] m
def gM (cj:Val) (Q2:aE) (bW bF bH bI bJ bK bR bZ bL cB:Val) (bM bN:Option Val) (bO bU bP eB cK cP:Val) (t5:Option Val) (QR:Val) (m:MH):Prop:=aH m (.list [cj]) (fun ZO m=>eX m (fun ZP m=>aY m (fun ZQ m=>aY m (t4 Q2 bW bF bH bI bJ bK bR bZ bL cB bM cj bN bO bU bP eB cK t5 QR) .Add cP ZQ) .Mult ZO ZP) "int" [QR])
def Dt (cj:Val) (Q2:aE) (bW bF bH bI bJ bK bR bZ bL cB:Val) (bM bN:Option Val) (bO bU bP eB cK cP Du N6:Val) (m:MH):Prop:=gM cj Q2 bW bF bH bI bJ bK bR bZ bL cB bM bN bO bU bP eB cK cP (some Du) N6 m
def Dv (cj:Val) (Q2:aE) (bW bF bH bI bJ bK bR bZ bL cB:Val) (bM bN:Option Val) (bO bU bP eB cK cP Du N6 ZR:Val) (m:MH):Prop:=fu (bX ZR) (Dt cj Q2 bW bF bH bI bJ bK bR bZ bL cB bM bN bO bU bP eB cK cP Du N6 m)
def Dw (c:Cfg) (d:Nat) (bZ Du cj:Val) (Q2:aE) (bW bF bH bI bJ bK bR bL cB:Val) (bM bN:Option Val) (bO bU bP eB cK cP N6:Val) (m:MH):Prop:=ak c m (fun ZS=>ar c d ZS "append" bZ [Du] m (Dv cj Q2 bW bF bH bI bJ bK bR bZ bL cB bM bN bO bU bP eB cK cP Du N6)) "append" bZ
def Dx (c:Cfg) (d:Nat) (bZ cj:Val) (Q2:aE) (bW bF bH bI bJ bK bR bL cB:Val) (bM bN:Option Val) (bO bU bP eB cK cP Du:Val) (m:MH):Prop:=aF .In Du bZ m fun ZT=>Dw c d bZ Du cj Q2 bW bF bH bI bJ bK bR bL cB bM bN bO bU bP eB cK cP (.bool ZT) m
def Dy (c:Cfg) (d:Nat) (Uv:Recv) (bZ cj:Val) (Q2:aE) (bW bF bH bI bJ bK bR bL cB:Val) (bM bN:Option Val) (bO bU bP eB cK cP ZU:Val) (m:MH):Prop:=ar c d Uv "join" (.str " ") [ZU] m (Dx c d bZ cj Q2 bW bF bH bI bJ bK bR bL cB bM bN bO bU bP eB cK cP)
def Dz (c:Cfg) (d:Nat) (cK bZ cj:Val) (Q2:aE) (bW bF bH bI bJ bK bR bL cB:Val) (bM bN:Option Val) (bO bU bP eB cP:Val) (m:MH):Prop:=ak c m (fun Uv=>aX c "_law_words"=true∧(aq c d "_law_words" [cK] m (Dy c d Uv bZ cj Q2 bW bF bH bI bJ bK bR bL cB bM bN bO bU bP eB cK cP))) "join" (.str " ")
def t6 (cj:Val) (Q2:aE) (bW bF bH bI bJ bK bR bZ bL cB:Val) (bM bN:Option Val) (bO bU bP eB cK cP:Val) (di:Option Val) (Ik:Val) (m:MH):Prop:=gM cj Q2 bW bF bH bI bJ bK bR bZ bL cB bM bN bO bU bP eB cK cP di Ik m
def DA (c:Cfg) (d:Nat) (cK bZ cj:Val) (Q2:aE) (bW bF bH bI bJ bK bR bL cB:Val) (bM bN:Option Val) (bO bU bP eB cP:Val) (di:Option Val) (Ik:Val) (m:MH):Prop:=ay m (fun ZV m=>aF .Eq ZV (.str "ID") m fun ZW=>br ZW (Dz c d cK bZ cj Q2 bW bF bH bI bJ bK bR bL cB bM bN bO bU bP eB cP m) (t6 cj Q2 bW bF bH bI bJ bK bR bZ bL cB bM bN bO bU bP eB cK cP di Ik m)) cB (.int 2)
def t7 (c:Cfg) (d:Nat) (cK bZ cj:Val) (Q2:aE) (bW bF bH bI bJ bK bR bL cB:Val) (bM bN:Option Val) (bO bU bP eB cP:Val) (di:Option Val) (Ik:Val) (m:MH):Prop:=jF (fun ZX=>br (!ZX) (DA c d cK bZ cj Q2 bW bF bH bI bJ bK bR bL cB bM bN bO bU bP eB cP di Ik m) (t6 cj Q2 bW bF bH bI bJ bK bR bZ bL cB bM bN bO bU bP eB cK cP di Ik m)) Ik
def DB (c:Cfg) (d:Nat) (cK bZ cj:Val) (Q2:aE) (bW bF bH bI bJ bK bR bL cB:Val) (bM bN:Option Val) (bO bU bP eB cP:Val) (di:Option Val) (ZY:Val) (m:MH):Prop:=jF (fun b=>t7 c d cK bZ cj Q2 bW bF bH bI bJ bK bR bL cB bM bN bO bU bP eB cP di (.bool (!b)) m) ZY
def gN (c:Cfg) (d:Nat) (cB cK bZ cj:Val) (Q2:aE) (bW bF bH bI bJ bK bR bL:Val) (bM bN:Option Val) (bO bU bP cP:Val) (di:Option Val) (eB:Val) (m:MH):Prop:=aF .Is cB .none m fun ZZ=>jF (fun b=>br b (t7 c d cK bZ cj Q2 bW bF bH bI bJ bK bR bL cB bM bN bO bU bP eB cP di (.bool true) m) (aX c "_law_fits"=true∧(aq c d "_law_fits" [cB,cK] m (DB c d cK bZ cj Q2 bW bF bH bI bJ bK bR bL cB bM bN bO bU bP eB cP di)))) (.bool ZZ)
def DC (c:Cfg) (d:Nat) (cB cK bZ cj:Val) (Q2:aE) (bW bF bH bI bJ bK bR bL:Val) (bM bN:Option Val) (bO bU bP cP:Val) (di:Option Val) (Z1:Val) (m:MH):Prop:=gN c d cB cK bZ cj Q2 bW bF bH bI bJ bK bR bL bM bN bO bU bP cP di Z1 m
def DD (bR cj Z3:Val) (acc:List Val) (m:MH) (Q1:List Val→MH→Prop):Prop:=aF .NotIn Z3 bR m fun Z4=>br Z4 (acc.length<bw∧Q1 (acc++[cj]) m) (Q1 acc m)
def DE (c:Cfg) (d:Nat) (cB cK bZ cj:Val) (Q2:aE) (bW bF bH bI bJ bK bR bL:Val) (bM bN:Option Val) (bO bU bP cP:Val) (di:Option Val) (gO Z5:Val) (m:MH):Prop:=aY m (DC c d cB cK bZ cj Q2 bW bF bH bI bJ bK bR bL bM bN bO bU bP cP di) .Add gO Z5
def DF (c:Cfg) (d:Nat) (bR cj cB cK bZ:Val) (Q2:aE) (bW bF bH bI bJ bK bL:Val) (bM bN:Option Val) (bO bU bP cP:Val) (di:Option Val) (gO Z6:Val) (m:MH):Prop:=cw (DD bR cj) Z6 [] m (fun acc m=>aH m (.list acc) (DE c d cB cK bZ cj Q2 bW bF bH bI bJ bK bR bL bM bN bO bU bP cP di gO))
def DG (c:Cfg) (d:Nat) (cK bR cj cB bZ:Val) (Q2:aE) (bW bF bH bI bJ bK bL:Val) (bM bN:Option Val) (bO bU bP cP:Val) (di:Option Val) (gO:Val) (m:MH):Prop:=aX c "_law_words"=true∧(aq c d "_law_words" [cK] m (DF c d bR cj cB cK bZ Q2 bW bF bH bI bJ bK bL bM bN bO bU bP cP di gO))
def t8 (c:Cfg) (d:Nat) (cB cK bZ cj:Val) (Q2:aE) (bW bF bH bI bJ bK bR bL:Val) (bM bN:Option Val) (bO bU bP cP:Val) (di:Option Val) (gO:Val) (m:MH):Prop:=gN c d cB cK bZ cj Q2 bW bF bH bI bJ bK bR bL bM bN bO bU bP cP di gO m
def DH (c:Cfg) (d:Nat) (cK bR cj cB bZ:Val) (Q2:aE) (bW bF bH bI bJ bK bL:Val) (bM bN:Option Val) (bO bU bP cP:Val) (di:Option Val) (gO:Val) (m:MH):Prop:=ay m (fun Z7 m=>aH m (.list [(.str "IDREF"),(.str "IDREFS")]) (fun Z8 m=>aF .In Z7 Z8 m fun Z9=>br Z9 (DG c d cK bR cj cB bZ Q2 bW bF bH bI bJ bK bL bM bN bO bU bP cP di gO m) (t8 c d cB cK bZ cj Q2 bW bF bH bI bJ bK bR bL bM bN bO bU bP cP di gO m))) cB (.int 2)
def DJ (c:Cfg) (d:Nat) (bR cj bZ:Val) (Q2:aE) (bW bF bH bI bJ bK bL:Val) (bM bN:Option Val) (bO bU bP cP:Val) (di:Option Val) (gO cB cK:Val) (m:MH):Prop:=aF .IsNot cB .none m fun aa0=>br aa0 (DH c d cK bR cj cB bZ Q2 bW bF bH bI bJ bK bL bM bN bO bU bP cP di gO m) (t8 c d cB cK bZ cj Q2 bW bF bH bI bJ bK bR bL bM bN bO bU bP cP di gO m)
def DK (c:Cfg) (d:Nat) (bR cj bZ:Val) (Q2:aE) (bW bF bH bI bJ bK bL:Val) (bM bN:Option Val) (bO bU bP cP:Val) (di:Option Val) (gO Uw aa1:Val) (m:MH):Prop:=xI (fun cB cK=>DJ c d bR cj bZ Q2 bW bF bH bI bJ bK bL bM bN bO bU bP cP di gO cB cK m) (.tup [Uw,aa1])
def DL (c:Cfg) (d:Nat) (bW cj bR bZ:Val) (Q2:aE) (bF bH bI bJ bK bL:Val) (bM bN:Option Val) (bO bU bP cP:Val) (di:Option Val) (gO Uw:Val) (m:MH):Prop:=ak c m (fun aa2=>ar c d aa2 "value" bW [cj] m (DK c d bR cj bZ Q2 bW bF bH bI bJ bK bL bM bN bO bU bP cP di gO Uw)) "value" bW
def DM (c:Cfg) (d:Nat) (Ux:Recv) (bU bW cj bR bZ:Val) (Q2:aE) (bF bH bI bJ bK bL:Val) (bM bN:Option Val) (bO bP cP:Val) (di:Option Val) (gO aa3:Val) (m:MH):Prop:=ar c d Ux "get" bU [aa3] m (DL c d bW cj bR bZ Q2 bF bH bI bJ bK bL bM bN bO bU bP cP di gO)
def t9 (c:Cfg) (d:Nat) (bW bU bR bZ bF bH bI bJ bK bL:Val) (bM bN:Option Val) (bO bP cP:Val) (di:Option Val) (gO cj:Val) (m:MH) (Q2:aE):Prop:=ak c m (fun Ux=>ak c m (fun aa4=>ar c d aa4 "name" bW [cj] m (DM c d Ux bU bW cj bR bZ Q2 bF bH bI bJ bK bL bM bN bO bP cP di gO)) "name" bW) "get" bU
def DN (Q2:aE) (Ly Lz LB LD LF LG LH LJ LK:Val) (LM LN LO LP:Option Val) (LQ LR LU Il:Val) (LV LW LX:Option Val) (aa5:Val) (m:MH):Prop:=Q2 none [some Ly,some Lz,some LB,some LD,some LF,some LG,some aa5,some LH,some LJ,some LK,LM,LN,LO,LP,some LQ,some LR,some LU,some Il,LV,LW,LX] m
def DO (Q2:aE) (Ly Lz LB LD LF LG LH LJ LK:Val) (LM LN LO LP:Option Val) (LQ LR LU Il:Val) (LV LW LX:Option Val) (QS:Val) (m:MH):Prop:=aY m (DN Q2 Ly Lz LB LD LF LG LH LJ LK LM LN LO LP LQ LR LU Il LV LW LX) .Add QS Il
def DP (c:Cfg) (d:Nat) (gb gj gk sP uc iD N7 qe qP dQ:Val) (kZ jQ lg js:Option Val) (iM gr gc Uy:Val) (lh lj dG:Option Val) (Q2:aE) (aa6:Val) (m:MH):Prop:=dc (bA c d 58 (aa (af 60)) (cF (subB (cF (ai (af 60)) 4)) 5)) aa6 [some gb,some gj,some gk,some sP,some uc,some iD,some N7,some qe,some qP,some dQ,kZ,jQ,lg,js,some iM,some gr,some gc,some Uy,lh,lj,dG] m (dO (aa (af 60)) (aO c d 59 (aa (af 60)) ((subB (cF (ai (af 60)) 4)).drop 6) (Ad (aa (af 60)) Q2)))
def DQ (c:Cfg) (d:Nat) (gb dQ gj gk sP uc iD N7 qe qP:Val) (kZ jQ lg js:Option Val) (iM gr gc:Val) (lh lj dG:Option Val) (Q2:aE) (Uy:Val) (m:MH):Prop:=ak c m (fun aa7=>ar c d aa7 "attributes" gb [dQ] m (DP c d gb gj gk sP uc iD N7 qe qP dQ kZ jQ lg js iM gr gc Uy lh lj dG Q2)) "attributes" gb
def lu (c:Cfg) (d:Nat) (gb dQ gj gk sP uc iD qe qP:Val) (kZ jQ lg js:Option Val) (iM gr gc:Val) (lh lj dG:Option Val) (Q2:aE) (N7:Val) (m:MH):Prop:=aH m (.list []) (DQ c d gb dQ gj gk sP uc iD N7 qe qP kZ jQ lg js iM gr gc lh lj dG Q2)
def DR (N8 gc:Val) (acc:List Val) (Q1:List Val→MH→Prop) (m:MH):Prop:=aF .NotIn N8 gc m fun aa8=>br aa8 (acc.length<bw∧Q1 (acc++[N8]) m) (Q1 acc m)
def DS (gc gr N8:Val) (acc:List Val) (m:MH) (Q1:List Val→MH→Prop):Prop:=ay m (fun aa9 m=>ay m (fun aaa m=>aF .Eq aaa (.str "required") m fun aab=>br aab (DR N8 gc acc Q1 m) (Q1 acc m)) aa9 (.int 4)) gr N8
def DT (c:Cfg) (d:Nat) (gb dQ gj gk sP uc iD qe qP:Val) (kZ jQ lg js:Option Val) (iM gr gc:Val) (lh lj dG:Option Val) (Q2:aE) (Uz UA aac:Val) (m:MH):Prop:=eX m (fun aad m=>aY m (fun aae m=>aY m (lu c d gb dQ gj gk sP uc iD qe qP kZ jQ lg js iM gr gc lh lj dG Q2) .Add Uz aae) .Mult UA aad) "len" [aac]
def DU (c:Cfg) (d:Nat) (dQ gc gr gb gj gk sP uc iD qe qP:Val) (kZ jQ lg js:Option Val) (iM:Val) (lh lj dG:Option Val) (Q2:aE) (Uz:Val) (m:MH):Prop:=aH m (.list [dQ]) (fun UA m=>cw (DS gc gr) gr [] m (fun acc m=>aH m (.list acc) (DT c d gb dQ gj gk sP uc iD qe qP kZ jQ lg js iM gr gc lh lj dG Q2 Uz UA)))
def DV (c:Cfg) (d:Nat) (dQ gc gr gb gj gk sP uc iD qe qP:Val) (kZ jQ lg js:Option Val) (iM:Val) (lh lj dG:Option Val) (Q2:aE) (AQ N9 aaf:Val) (m:MH):Prop:=aY m (fun aag m=>aY m (DU c d dQ gc gr gb gj gk sP uc iD qe qP kZ jQ lg js iM lh lj dG Q2) .Add AQ aag) .Mult N9 aaf
def DW (c:Cfg) (d:Nat) (gb dQ gc gr gj gk sP uc iD qe qP:Val) (kZ jQ lg js:Option Val) (iM:Val) (lh lj dG:Option Val) (Q2:aE) (AQ N9 aah:Val) (m:MH):Prop:=aq c d "_law_content_wrong" [gb,dQ,aah] m (DV c d dQ gc gr gb gj gk sP uc iD qe qP kZ jQ lg js iM lh lj dG Q2 AQ N9)
def DX (c:Cfg) (d:Nat) (dQ sP iM gb gr gj gk uc iD qe qP:Val) (kZ jQ lg js lh lj dG:Option Val) (Q2:aE) (AQ gc:Val) (m:MH):Prop:=aH m (.list [dQ]) (fun N9 m=>aX c "_law_content_wrong"=true∧(ak c m (fun aai=>ar c d aai "get" sP [iM] m (DW c d gb dQ gc gr gj gk sP uc iD qe qP kZ jQ lg js iM lh lj dG Q2 AQ N9)) "get" sP))
def DY (c:Cfg) (d:Nat) (gb aaj:Val) (acc:List Val) (m:MH) (Q1:List Val→MH→Prop):Prop:=ak c m (fun aak=>ar c d aak "name" gb [aaj] m (fun aal m=>acc.length<bw∧Q1 (acc++[aal]) m)) "name" gb
def DZ (c:Cfg) (d:Nat) (gb dQ sP iM gr gj gk uc iD qe qP:Val) (kZ jQ lg js lh lj dG:Option Val) (Q2:aE) (AQ aam:Val) (m:MH):Prop:=cw (DY c d gb) aam [] m (fun acc m=>aH m (.list acc) (DX c d dQ sP iM gb gr gj gk uc iD qe qP kZ jQ lg js lh lj dG Q2 AQ))
def lA (c:Cfg) (d:Nat) (gb dQ sP gj gk uc iD qe qP:Val) (kZ jQ lg js lh lj dG:Option Val) (Q2:aE) (AQ iM gr:Val) (m:MH):Prop:=ak c m (fun aan=>ar c d aan "attributes" gb [dQ] m (DZ c d gb dQ sP iM gr gj gk uc iD qe qP kZ jQ lg js lh lj dG Q2 AQ)) "attributes" gb
def D0 (c:Cfg) (d:Nat) (gb dQ sP gj gk uc iD qe qP:Val) (kZ jQ lg js lh lj dG:Option Val) (Q2:aE) (AQ UB aao:Val) (m:MH):Prop:=xI (fun iM gr=>lA c d gb dQ sP gj gk uc iD qe qP kZ jQ lg js lh lj dG Q2 AQ iM gr m) (.tup [UB,aao])
def D7 (c:Cfg) (d:Nat) (gb dQ sP gj gk uc iD qe qP:Val) (kZ jQ lg js lh lj dG:Option Val) (Q2:aE) (AQ UB:Val) (m:MH):Prop:=P7 (fun i=>e8 m (fun aap m=>cw (Ds c d gb dQ) aap [] m (fun acc m=>xK m (D0 c d gb dQ sP gj gk uc iD qe qP kZ jQ lg js lh lj dG Q2 AQ UB) acc)) uc .none .none (.int (-i))) (.int 1)
def lB (c:Cfg) (d:Nat) (gb sP gj gk uc iD qe qP:Val) (kZ jQ lg js lh lj dG:Option Val) (AQ dQ:Val) (m:MH) (Q2:aE):Prop:=ak c m (fun aaq=>ar c d aaq "name" gb [dQ] m (D7 c d gb dQ sP gj gk uc iD qe qP kZ jQ lg js lh lj dG Q2 AQ)) "name" gb
def D8 (Q:VQ) (QT:Val) (m:MH):Prop:=Q QT m
def D9 (c:Cfg) (d:Nat) (rH X5 Vy rD rG sM sN EY Ib:Val) (zi Ic X6 X7 X8 X9 Ya Yb Yc Yd Ye Vz:Option Val) (Q:VQ) (m:MH):Prop:=dc (bA c d 59 (aa (af 60)) (cF (ai (af 60)) 4)) rH [some X5,some Vy,some rD,some rG,some sM,some rH,some sN,some EY,some Ib,zi,Ic,X6,X7,X8,X9,Ya,Yb,Yc,Yd,Ye,Vz] m (dO (aa (af 60)) (aO c d 60 (aa (af 60)) ((ai (af 60)).drop 5) (bY Q)))
def Ea (c:Cfg) (d:Nat) (x1 ah aW cH fT jt x2:Val) (Q:VQ) (y5 y6:Val) (m:MH):Prop:=dc (bA c d 59 (aa (af 60)) (cF (ai (af 60)) 3)) x1 [some ah,some aW,some cH,some fT,some jt,some x1,some x2,some y5,some y6,none,none,none,none,none,none,none,none,none,none,none,none] m (dO (aa (af 60)) (aO c d 60 (aa (af 60)) ((ai (af 60)).drop 4) (bY Q)))
def lC (c:Cfg) (d:Nat) (x1 ah aW cH fT jt:Val) (Q:VQ) (x2:Val) (m:MH):Prop:=aH m (.list []) (fun x3 m=>aH m (.list []) (fun x4 m=>xI (fun y5 y6=>Ea c d x1 ah aW cH fT jt x2 Q y5 y6 m) (.tup [x3,x4])))
def Eb (c:Cfg) (d:Nat) (cH x1 ah aW fT jt:Val) (Q:VQ) (aar:Val) (m:MH):Prop:=aF .NotEq aar cH m fun aas=>br aas (ay m (fun aat m=>aH m (.list [aat]) (lC c d x1 ah aW cH fT jt Q)) x1 (.int 0)) (aH m (.list []) (lC c d x1 ah aW cH fT jt Q))
def Ec (c:Cfg) (d:Nat) (ah cH aW fT jt:Val) (Q:VQ) (x1:Val) (m:MH):Prop:=ak c m (fun aau=>ay m (fun aav m=>ar c d aau "name" ah [aav] m (Eb c d cH x1 ah aW fT jt Q)) x1 (.int 0)) "name" ah
theorem LY {c:Cfg} {d:Nat} {m:MH} {Q:VQ}:bf c d (af 60) [ah,aW,cH,fT,jt] m Q=(aX c "_law_walk"=true∧(aq c d "_law_walk" [ah,aW] m (Ec c d ah cH aW fT jt Q))):=by kernel_rfl
theorem Ed {c:Cfg} {d:Nat} {m:MH} {nR v7 v8 v9 v10 v11 df yS Ai uJ:Val} {gL dD WS wK PJ wL sL yr Av vc qN AP:Option Val} {Q2:aE}:(bA c d 59 (aa (af 60)) (cF (ai (af 60)) 3) nR [some v7,some v8,some v9,some v10,some v11,some df,some yS,some Ai,some uJ,gL,dD,WS,wK,PJ,wL,sL,yr,Av,vc,qN,AP] m Q2)=(tZ c d v7 v11 v8 v9 v10 df yS uJ dD wK wL sL yr Av vc qN AP Ai nR m Q2):=by kernel_rfl
theorem Ee {c:Cfg} {d:Nat} {m:MH} {cj bW bF bH bI bJ bK cP bR bZ bL:Val} {aaw bM aax bN:Option Val} {bO bU bP gO:Val} {aay di aaz:Option Val} {Q2:aE}:(bA c d 58 (aa (af 60)) (cF (subB (cF (ai (af 60)) 4)) 5) cj [some bW,some bF,some bH,some bI,some bJ,some bK,some cP,some bR,some bZ,some bL,aaw,bM,aax,bN,some bO,some bU,some bP,some gO,aay,di,aaz] m Q2)=(t9 c d bW bU bR bZ bF bH bI bJ bK bL bM bN bO bP cP di gO cj m Q2):=by kernel_rfl
theorem Ef {c:Cfg} {d:Nat} {m:MH} {Q2:aE} {Ly Lz LB LD LF LG QS LH LJ LK:Val} {LM LN LO LP:Option Val} {LQ LR LU Il:Val} {LV LW LX:Option Val}:(dO (aa (af 60)) (aO c d 59 (aa (af 60)) ((subB (cF (ai (af 60)) 4)).drop 6) (Ad (aa (af 60)) Q2)) none [some Ly,some Lz,some LB,some LD,some LF,some LG,some QS,some LH,some LJ,some LK,LM,LN,LO,LP,some LQ,some LR,some LU,some Il,LV,LW,LX] m)=(DO Q2 Ly Lz LB LD LF LG LH LJ LK LM LN LO LP LQ LR LU Il LV LW LX QS m):=by kernel_rfl
theorem Eg {c:Cfg} {d:Nat} {m:MH} {dQ gb gj gk sP uc iD AQ qe qP:Val} {o89 kZ jQ lg js ZG W0 W2 W3 lh lj dG:Option Val} {Q2:aE}:(bA c d 59 (aa (af 60)) (cF (ai (af 60)) 4) dQ [some gb,some gj,some gk,some sP,some uc,some iD,some AQ,some qe,some qP,o89,kZ,jQ,lg,js,ZG,W0,W2,W3,lh,lj,dG] m Q2)=(lB c d gb sP gj gk uc iD qe qP kZ jQ lg js lh lj dG AQ dQ m Q2):=by kernel_rfl
theorem Eh {c:Cfg} {d:Nat} {m:MH} {Q:VQ} {aaA aaB aaC aaD aaE aaF QT aaG aaH:Val} {aaI aaJ aaK aaL aaM aaN aaO aaP aaQ aaR aaS aaT:Option Val}:(dO (aa (af 60)) (aO c d 60 (aa (af 60)) ((ai (af 60)).drop 5) (bY Q)) none [some aaA,some aaB,some aaC,some aaD,some aaE,some aaF,some QT,some aaG,some aaH,aaI,aaJ,aaK,aaL,aaM,aaN,aaO,aaP,aaQ,aaR,aaS,aaT] m)=(D8 Q QT m):=by kernel_rfl
theorem Ei {c:Cfg} {d:Nat} {m:MH} {Q:VQ} {X5 Vy rD rG sM rH sN EY Ib:Val} {zi Ic X6 X7 X8 X9 Ya Yb Yc Yd Ye Vz:Option Val}:(dO (aa (af 60)) (aO c d 60 (aa (af 60)) ((ai (af 60)).drop 4) (bY Q)) none [some X5,some Vy,some rD,some rG,some sM,some rH,some sN,some EY,some Ib,zi,Ic,X6,X7,X8,X9,Ya,Yb,Yc,Yd,Ye,Vz] m)=(D9 c d rH X5 Vy rD rG sM sN EY Ib zi Ic X6 X7 X8 X9 Ya Yb Yc Yd Ye Vz Q m):=by kernel_rfl
def UC (c4:Val) (acc:List Val) (m:MH) (Q1:List Val→MH→Prop):Prop:=xI (fun y12 y13=>acc.length<bw∧Q1 (acc++[y12]) m) c4
def UD (Q2:aE) (kL oz mK v30 qc gJ oy p6 Mo:Val) (Ge:Option Val) (m:MH):Prop:=Q2 none [some kL,some oz,some mK,some v30,some qc,some gJ,some oy,some p6,some Mo,Ge] m
def UE (Q2:aE) (kL oz mK v30 qc gJ oy p6 Mo:Val) (Ge:Option Val) (Jx:Val) (m:MH):Prop:=fu (bX Jx) (UD Q2 kL oz mK v30 qc gJ oy p6 Mo Ge m)
def UG (c:Cfg) (d:Nat) (v30 kL oz mK qc gJ oy p6:Val) (Ge:Option Val) (Mo:Val) (m:MH) (Q2:aE):Prop:=ak c m (fun k38=>ay m (fun Mp m=>ar c d k38 "declare_element" v30 [Mo,Mp,(.int 0)] m (UE Q2 kL oz mK v30 qc gJ oy p6 Mo Ge)) oy Mo) "declare_element" v30
def UH (Q2:aE) (uK sO kx C5 PM PN PO PQ:Val) (PR:Option Val) (Ej:Val) (m:MH):Prop:=Q2 none [some uK,some sO,some kx,some C5,some PM,some PN,some PO,some PQ,PR,some Ej] m
def UI (Q2:aE) (uK sO kx C5 PM PN PO PQ:Val) (PR:Option Val) (Ej Zw:Val) (m:MH):Prop:=fu (bX Zw) (UH Q2 uK sO kx C5 PM PN PO PQ PR Ej m)
def UJ (c:Cfg) (d:Nat) (W8:Recv) (C5 x63 x64:Val) (Q2:aE) (uK sO kx PM PN PO PQ:Val) (PR:Option Val) (Ej x69:Val) (m:MH):Prop:=ar c d W8 "declare_attribute" C5 [x63,x64,x69] m (UI Q2 uK sO kx C5 PM PN PO PQ PR Ej)
def UK (c:Cfg) (d:Nat) (C5 uK sO kx PM PN PO PQ:Val) (PR:Option Val) (Ej:Val) (m:MH) (Q2:aE):Prop:=ak c m (fun W8=>ay m (fun x63 m=>ay m (fun x64 m=>aX c "AttributeRule"=true∧(ay m (fun x65 m=>ay m (fun x66 m=>ay m (fun x67 m=>ay m (fun Zv m=>aq c d "AttributeRule" [x65,x66,x67,Zv] m (UJ c d W8 C5 x63 x64 Q2 uK sO kx PM PN PO PQ PR Ej)) Ej (.int 5)) Ej (.int 4)) Ej (.int 3)) Ej (.int 2))) Ej (.int 1)) Ej (.int 0)) "declare_attribute" C5
def Oa (x84:Val) (acc:List Val) (m:MH) (Q1:List Val→MH→Prop):Prop:=xI (fun y85 y86=>acc.length<bw∧Q1 (acc++[y85]) m) x84
def QU (c:Cfg) (d:Nat) (QV VA Gg zX:Val) (Q:VQ) (LZ Zs:Val) (m:MH):Prop:=aX c "_law_due"=true∧(ao m (fun x88 m=>aq c d "_law_due" [QV,VA,x88,Gg,zX] m (fun x91 m=>aF .Eq Zs x91 m fun b90=>Q (.bool b90) m)) LZ "root")
def QW (c:Cfg) (d:Nat) (QV VA Gg zX:Val) (Q:VQ) (LZ x83:Val) (m:MH):Prop:=cw (Oa) x83 [] m (fun acc m=>aH m (.list acc) (QU c d QV VA Gg zX Q LZ))
def QX (c:Cfg) (d:Nat) (QV LZ Gg zX:Val) (Q:VQ) (VA:Val) (m:MH):Prop:=aX c "check"=true∧(aq c d "check" [QV,VA,LZ] m (QW c d QV VA Gg zX Q LZ))
def QY (c:Cfg) (d:Nat) (VB LZ Gg zX:Val) (Q:VQ) (QV:Val) (m:MH):Prop:=aX c "_law_document"=true∧(aq c d "_law_document" [VB,QV,(.str "a")] m (QX c d QV LZ Gg zX Q))
def Jz (c:Cfg) (d:Nat) (VB LZ Gg zX:Val) (Q:VQ) (m:MH):Prop:=aX c "Tree"=true∧(aq c d "Tree" [] m (QY c d VB LZ Gg zX Q))
def JA (c:Cfg) (d:Nat) (vr zf zg H8 QM QZ Q0 CU:Val) (UL Q3:Option Val) (Q:VQ) (m:MH):Prop:=dc (bA c d 59 (aa (af 61)) (cF (ai (af 61)) 10)) vr [some zf,some zg,some H8,some QM,some QZ,some Q0,some CU,some vr,UL,Q3] m (dO (aa (af 61)) (aO c d 60 (aa (af 61)) ((ai (af 61)).drop 11) (bY Q)))
def Q4 (c:Cfg) (d:Nat) (gS aP x1 y4 x6 x7:Val) (Q:VQ) (NT Mn:Val) (m:MH):Prop:=dc (bA c d 59 (aa (af 61)) (cF (ai (af 61)) 9)) gS [some aP,some x1,some y4,some Mn,some x6,some x7,some gS,some NT,none,none] m (dO (aa (af 61)) (aO c d 60 (aa (af 61)) ((ai (af 61)).drop 10) (bY Q)))
def Q5 (c:Cfg) (d:Nat) (gS aP x1 y4 x6 x7:Val) (Q:VQ) (F2 xi:Val) (m:MH):Prop:=xI (fun NT Mn=>Q4 c d gS aP x1 y4 x6 x7 Q NT Mn m) (.tup [F2,xi])
def Q6 (c:Cfg) (d:Nat) (gS aP x1 y4 x6 x7:Val) (Q:VQ) (F2 te:Val) (m:MH):Prop:=aq c d "Dtd" [te] m (Q5 c d gS aP x1 y4 x6 x7 Q F2)
def Q7 (c:Cfg) (d:Nat) (x1 gS aP y4 x6 x7:Val) (Q:VQ) (F2:Val) (m:MH):Prop:=aX c "Dtd"=true∧(aX c "_law_one"=true∧(aH m (.list [(.str "a"),(.str "a"),(.str "b")]) (fun H7 m=>aq c d "_law_one" [x1,H7] m (Q6 c d gS aP x1 y4 x6 x7 Q F2))))
def Ek (c:Cfg) (d:Nat) (x1 gS aP y4 x6 x7:Val) (Q:VQ) (m:MH):Prop:=aX c "_law_rules"=true∧(aq c d "_law_rules" [x1] m (Q7 c d x1 gS aP y4 x6 x7 Q))
def Q8 (c:Cfg) (d:Nat) (x1 gS aP y4 x6 x7:Val) (Q:VQ) (xe:Val) (m:MH):Prop:=bb m xe (fun m=>Ek c d x1 gS aP y4 x6 x7 Q m) gS (.str "c")
def Q9 (c:Cfg) (d:Nat) (x1 gS aP y4 x6 x7:Val) (Q:VQ) (dh:Val) (m:MH):Prop:=aF .Eq dh (.int 0) m fun ZA=>br ZA (aX c "_law_model"=true∧(aq c d "_law_model" [x1] m (Q8 c d x1 gS aP y4 x6 x7 Q))) (Ek c d x1 gS aP y4 x6 x7 Q m)
def Ra (c:Cfg) (d:Nat) (x1 aP y4 x6 x7:Val) (Q:VQ) (gS:Val) (m:MH):Prop:=aX c "_law_take"=true∧(aq c d "_law_take" [x1,(.int 2)] m (Q9 c d x1 gS aP y4 x6 x7 Q))
def Rb (c:Cfg) (d:Nat) (x1 aP y4 x6 x7:Val) (Q:VQ) (x92 x93:Val) (m:MH):Prop:=dE m (Ra c d x1 aP y4 x6 x7 Q) [((.str "a"),x92),((.str "b"),x93)]
def JB (c:Cfg) (d:Nat) (x1 aP y4 x6 x7:Val) (Q:VQ) (x92:Val) (m:MH):Prop:=aX c "_law_model"=true∧(aq c d "_law_model" [x1] m (Rb c d x1 aP y4 x6 x7 Q x92))
def Rc (c:Cfg) (d:Nat) (x7:Val) (Q:VQ) (x1 aP y4 x6 iJ:Val) (m:MH):Prop:=aH m (.list [x7]) (fun cV m=>aF .NotEq iJ cV m fun Ub=>br Ub (Q (.bool false) m) (aX c "_law_model"=true∧(aq c d "_law_model" [x1] m (JB c d x1 aP y4 x6 x7 Q))))
def Rd (c:Cfg) (d:Nat) (x7:Val) (Q:VQ) (x1 aP y4 x6 hO:Val) (m:MH):Prop:=cw (UC) hO [] m (fun acc m=>aH m (.list acc) (Rc c d x7 Q x1 aP y4 x6))
def Rf (c:Cfg) (d:Nat) (y4 x6 y5 x7:Val) (Q:VQ) (x1 aP:Val) (m:MH):Prop:=aX c "check"=true∧(aq c d "check" [y4,x6,y5] m (Rd c d x7 Q x1 aP y4 x6))
def Rh (c:Cfg) (d:Nat) (y4 x6 y5 x7:Val) (Q:VQ) (x1 aP x9:Val) (m:MH):Prop:=fu (bX x9) (Rf c d y4 x6 y5 x7 Q x1 aP m)
def Ri (c:Cfg) (d:Nat) (y5 y4 x6:Val) (Q:VQ) (x1 aP x7:Val) (m:MH):Prop:=ak c m (fun k8=>ar c d k8 "declare_element" y5 [(.str "b"),(.tup [(.str "empty")]),(.int 0)] m (Rh c d y4 x6 y5 x7 Q x1 aP)) "declare_element" y5
def Rj (c:Cfg) (d:Nat) (y4 y5:Val) (Q:VQ) (x1 aP x6:Val) (m:MH):Prop:=ak c m (fun k94=>ar c d k94 "add_element" y4 [x6,(.str "b"),(.str ""),(.str "b")] m (Ri c d y5 y4 x6 Q x1 aP)) "add_element" y4
def Rk (c:Cfg) (d:Nat) (Q:VQ) (x1 aP y4 y5:Val) (m:MH):Prop:=ak c m (fun k95=>ar c d k95 "new_root" y4 [] m (Rj c d y4 y5 Q x1 aP)) "new_root" y4
def Rm (c:Cfg) (d:Nat) (Q:VQ) (x1 aP x2 x3:Val) (m:MH):Prop:=xI (fun y4 y5=>Rk c d Q x1 aP y4 y5 m) (.tup [x2,x3])
def Rn (c:Cfg) (d:Nat) (Q:VQ) (x1 aP x2:Val) (m:MH):Prop:=aX c "Dtd"=true∧(aq c d "Dtd" [(.str "a")] m (Rm c d Q x1 aP x2))
def Ro (c:Cfg) (d:Nat) (Q:VQ) (aP x1:Val) (m:MH):Prop:=aX c "Tree"=true∧(aq c d "Tree" [] m (Rn c d Q x1 aP))
theorem elaw {c:Cfg} {d:Nat} {aP:Val} {m:MH} {Q:VQ}:bf c d (af 61) [aP] m Q=(aX c "_law_pool"=true∧(aq c d "_law_pool" [aP,(.int 0)] m (Ro c d Q aP))):=by kernel_rfl
theorem Rq {c:Cfg} {d:Nat} {m:MH} {Mo kL oz mK v30 qc gJ oy p6:Val} {PG Ge:Option Val} {Q2:aE}:(bA c d 59 (aa (af 61)) (cF (ai (af 61)) 9) Mo [some kL,some oz,some mK,some v30,some qc,some gJ,some oy,some p6,PG,Ge] m Q2)=(UG c d v30 kL oz mK qc gJ oy p6 Ge Mo m Q2):=by kernel_rfl
theorem Rr {c:Cfg} {d:Nat} {m:MH} {Ej uK sO kx C5 PM PN PO PQ:Val} {PR o60:Option Val} {Q2:aE}:(bA c d 59 (aa (af 61)) (cF (ai (af 61)) 10) Ej [some uK,some sO,some kx,some C5,some PM,some PN,some PO,some PQ,PR,o60] m Q2)=(UK c d C5 uK sO kx PM PN PO PQ PR Ej m Q2):=by kernel_rfl
theorem Rt {c:Cfg} {d:Nat} {m:MH} {Q:VQ} {v71 VB v73 LZ v75 Vs Gg zX:Val} {Vz o80:Option Val}:(dO (aa (af 61)) (aO c d 60 (aa (af 61)) ((ai (af 61)).drop 11) (bY Q)) none [some v71,some VB,some v73,some LZ,some v75,some Vs,some Gg,some zX,Vz,o80] m)=(Jz c d VB LZ Gg zX Q m):=by kernel_rfl
theorem Ru {c:Cfg} {d:Nat} {m:MH} {Q:VQ} {zf zg H8 QM QZ Q0 CU vr:Val} {UL Q3:Option Val}:(dO (aa (af 61)) (aO c d 60 (aa (af 61)) ((ai (af 61)).drop 10) (bY Q)) none [some zf,some zg,some H8,some QM,some QZ,some Q0,some CU,some vr,UL,Q3] m)=(JA c d vr zf zg H8 QM QZ Q0 CU UL Q3 Q m):=by kernel_rfl
def hQ (aI:Val) (Q:VQ) (ab:Val) (m:MH):Prop:=aS m aI (fun m=>Q .none m) ab "value"
def hU (Gv aI:Val) (Q:VQ) (ab:Val) (m:MH):Prop:=aS m Gv (hQ aI Q ab) ab "mode"
def ic (Gv aI:Val) (Q:VQ) (ab zx:Val) (m:MH):Prop:=eX m (fun x1 m=>aS m x1 (hU Gv aI Q ab) ab "choices") "tuple" [zx]
theorem ju {c:Cfg} {d:Nat} {m:MH} {Q:VQ}:bf c d (a7 18 0) [ab,c6,zx,Gv,aI] m Q=(aS m c6 (ic Gv aI Q ab zx) ab "kind"):=by kernel_rfl
def lD (Q:VQ) (m:MH):Prop:=Q .none m
def lE (y7:Val) (Q:VQ) (ab:Val) (m:MH):Prop:=aS m y7 (lD Q) ab "last"
def lF (y6 y7:Val) (Q:VQ) (ab:Val) (m:MH):Prop:=aS m y6 (lE y7 Q ab) ab "first"
def lG (Q:VQ) (ab y5 y6 y7:Val) (m:MH):Prop:=aS m y5 (lF y6 y7 Q ab) ab "is_nullable"
def lH (Q:VQ) (ab x4:Val) (m:MH):Prop:=Hi (fun y5 y6 y7=>lG Q ab y5 y6 y7 m) x4
def lI (c:Cfg) (d:Nat) (ab au:Val) (Q:VQ) (m:MH):Prop:=ak c m (fun k3=>ar c d k3 "read" ab [au] m (lH Q ab)) "read" ab
def lJ (c:Cfg) (d:Nat) (ab au:Val) (Q:VQ) (m:MH):Prop:=dE m (fun x2 m=>aS m x2 (lI c d ab au Q) ab "follow") []
theorem oP {c:Cfg} {d:Nat} {m:MH} {Q:VQ}:bf c d (a7 26 0) [ab,au] m Q=(aH m (.list []) (fun x1 m=>aS m x1 (lJ c d ab au Q) ab "names")):=by kernel_rfl
def eP (c:Cfg) (d:Nat) (ab:Val) (Q:VQ) (au:Val) (Hl:Option Val) (m:MH):Prop:=ak c m (fun k13=>Hh Hl m (fun iJ m=>ay m (fun cV m=>ar c d k13 "marked" ab [iJ,cV] m (Q)) au (.int 2))) "marked" ab
def rI (c:Cfg) (d:Nat) (ab:Val) (Q:VQ) (au hO:Val) (m:MH):Prop:=eP c d ab Q au (some hO) m
def rJ (c:Cfg) (d:Nat) (x7 ab:Val) (Q:VQ) (au:Val) (m:MH):Prop:=aH m (.list [x7]) (fun wI m=>aH m (.list [x7]) (fun gS m=>rI c d ab Q au (.tup [(.bool false),wI,gS]) m))
def rK (c:Cfg) (d:Nat) (ab:Val) (Q:VQ) (au x7:Val) (m:MH):Prop:=aH m (.list []) (fun x8 m=>ao m (fun x9 m=>bb m x8 (rJ c d x7 ab Q au) x9 x7) ab "follow")
def rM (c:Cfg) (d:Nat) (ab:Val) (Q:VQ) (au:Val) (m:MH):Prop:=ao m (fun dh m=>eX m (rK c d ab Q au) "len" [dh]) ab "names"
def rN (c:Cfg) (d:Nat) (ab:Val) (Q:VQ) (au x6:Val) (m:MH):Prop:=fu (bX x6) (rM c d ab Q au m)
def rO (c:Cfg) (d:Nat) (ab:Val) (Q:VQ) (au F2:Val) (m:MH):Prop:=eP c d ab Q au (some F2) m
def rP (c:Cfg) (d:Nat) (ab:Val) (Q:VQ) (au xi:Val) (m:MH):Prop:=eP c d ab Q au (some xi) m
theorem fM {c:Cfg} {d:Nat} {m:MH} {Q:VQ}:bf c d (a7 26 1) [ab,au] m Q=(ay m (fun x1 m=>aF .Eq x1 (.str "name") m fun b2=>br b2 (ao m (fun x3 m=>ak c m (fun k4=>ay m (fun x5 m=>ar c d k4 "append" x3 [x5] m (rN c d ab Q au)) au (.int 1)) "append" x3) ab "names") (ay m (fun p5 m=>aF .Eq p5 (.str "seq") m fun ZC=>br ZC (ak c m (fun k22=>ay m (fun te m=>ar c d k22 "read_row" ab [te] m (rO c d ab Q au)) au (.int 1)) "read_row" ab) (ak c m (fun k25=>ay m (fun xj m=>ar c d k25 "read_choice" ab [xj] m (rP c d ab Q au)) au (.int 1)) "read_choice" ab)) au (.int 0))) au (.int 0)):=by kernel_rfl
def fg (Q2:aE) (v6 v7 v9 EW cV jc jd jv nS:Val) (m:MH):Prop:=Q2 none [some v6,some v7,some nS,some v9,some EW,some cV,some jc,some jd,some jv] m
def lK (Q2:aE) (v6 v7 v9 EW cV jc jd jv v8:Val) (m:MH):Prop:=jF (fun b=>br b (fg Q2 v6 v7 v9 EW cV jc jd jv jc m) (fg Q2 v6 v7 v9 EW cV jc jd jv (.bool false) m)) v8
def lL (Q2:aE) (v6 v7 v9 EW cV jc jd jv v8 nR:Val) (m:MH):Prop:=fu (bX nR) (lK Q2 v6 v7 v9 EW cV jc jd jv v8 m)
def dH (c:Cfg) (d:Nat) (jv:Val) (Q2:aE) (v6 v7 v9 cV jc jd v8 EW:Val) (m:MH):Prop:=aX c "add_all"=true∧(aq c d "add_all" [EW,jv] m (lL Q2 v6 v7 v9 EW cV jc jd jv v8))
def lM (c:Cfg) (d:Nat) (jv:Val) (Q2:aE) (v6 v7 v9 cV jc jd v8 xj:Val) (m:MH):Prop:=dH c d jv Q2 v6 v7 v9 cV jc jd v8 xj m
def dI (c:Cfg) (d:Nat) (jv:Val) (Q2:aE) (v6 v7 v9 cV jc jd v8 v10:Val) (m:MH):Prop:=jF (fun ZD=>br (!ZD) (aH m (.list []) (lM c d jv Q2 v6 v7 v9 cV jc jd v8)) (dH c d jv Q2 v6 v7 v9 cV jc jd v8 v10 m)) jc
def lN (c:Cfg) (d:Nat) (jv:Val) (Q2:aE) (v6 v7 v9 cV jc jd v8 v10:Val) (m:MH):Prop:=dI c d jv Q2 v6 v7 v9 cV jc jd v8 v10 m
def lO (c:Cfg) (d:Nat) (jv:Val) (Q2:aE) (v6 v7 v9 cV jc jd v8 v10 xi:Val) (m:MH):Prop:=fu (bX xi) (lN c d jv Q2 v6 v7 v9 cV jc jd v8 v10 m)
def lP (c:Cfg) (d:Nat) (v9 jd jv:Val) (Q2:aE) (v6 v7 cV jc v8 v10:Val) (m:MH):Prop:=jF (fun QQ=>br QQ (aX c "add_all"=true∧(aq c d "add_all" [v9,jd] m (lO c d jv Q2 v6 v7 v9 cV jc jd v8 v10))) (dI c d jv Q2 v6 v7 v9 cV jc jd v8 v10 m)) v8
def jR (c:Cfg) (d:Nat) (v9 jd jv:Val) (Q2:aE) (v6 v7 cV jc v8 v10 H7:Val) (m:MH):Prop:=fu (bX H7) (lP c d v9 jd jv Q2 v6 v7 cV jc v8 v10 m)
def eT (c:Cfg) (d:Nat) (v6 v10 v9:Val) (Q2:aE) (v7 cV v8 jc jd jv:Val) (m:MH):Prop:=ak c m (fun k21=>ar c d k21 "join" v6 [v10,jd] m (jR c d v9 jd jv Q2 v6 v7 cV jc v8 v10)) "join" v6
def jS (c:Cfg) (d:Nat) (v6 v10 v9:Val) (Q2:aE) (v7 cV v8 gS:Val) (m:MH):Prop:=Hi (fun jc jd jv=>eT c d v6 v10 v9 Q2 v7 cV v8 jc jd jv m) gS
def jT (c:Cfg) (d:Nat) (v6 v10 v9 v7 v8 cV:Val) (m:MH) (Q2:aE):Prop:=ak c m (fun Ue=>ar c d Ue "read" v6 [cV] m (jS c d v6 v10 v9 Q2 v7 cV v8)) "read" v6
def jU (Q:VQ) (gJ oy p6:Val) (m:MH):Prop:=Q (.tup [gJ,oy,p6]) m
def jV (c:Cfg) (d:Nat) (dJ ab:Val) (Q:VQ) (y3 y4 y5:Val) (m:MH):Prop:=dc (bA c d 59 (aa (a7 26 2)) (cF (ai (a7 26 2)) 1)) dJ [some ab,some dJ,some y3,some y4,some y5,none,none,none,none] m (dO (aa (a7 26 2)) (aO c d 60 (aa (a7 26 2)) ((ai (a7 26 2)).drop 2) (bY Q)))
theorem oQ {c:Cfg} {d:Nat} {m:MH} {Q:VQ}:bf c d (a7 26 2) [ab,dJ] m Q=(aH m (.list []) (fun x1 m=>aH m (.list []) (fun x2 m=>Hi (fun y3 y4 y5=>jV c d dJ ab Q y3 y4 y5 m) (.tup [(.bool true),x1,x2])))):=by kernel_rfl
theorem jW {c:Cfg} {d:Nat} {m:MH} {cV v6 v7 v8 v9 v10:Val} {NJ Hl EX Ur:Option Val} {Q2:aE}:(bA c d 59 (aa (a7 26 2)) (cF (ai (a7 26 2)) 1) cV [some v6,some v7,some v8,some v9,some v10,NJ,Hl,EX,Ur] m Q2)=(jT c d v6 v10 v9 v7 v8 cV m Q2):=by kernel_rfl
theorem jX {c:Cfg} {d:Nat} {m:MH} {Q:VQ} {v30 qc gJ oy p6:Val} {PG Ge SA o38:Option Val}:(dO (aa (a7 26 2)) (aO c d 60 (aa (a7 26 2)) ((ai (a7 26 2)).drop 2) (bY Q)) none [some v30,some qc,some gJ,some oy,some p6,PG,Ge,SA,o38] m)=(jU Q gJ oy p6 m):=by kernel_rfl
def ek (Q2:aE) (v6 v7 v9 v10 cV jc jd jv te:Val) (m:MH):Prop:=Q2 none [some v6,some v7,some te,some v9,some v10,some cV,some jc,some jd,some jv] m
def iN (Q2:aE) (v6 v7 v9 v10 cV jc jd jv v8:Val) (m:MH):Prop:=jF (fun b=>br b (ek Q2 v6 v7 v9 v10 cV jc jd jv (.bool true) m) (ek Q2 v6 v7 v9 v10 cV jc jd jv jc m)) v8
def iO (Q2:aE) (v6 v7 v9 v10 cV jc jd jv v8 H7:Val) (m:MH):Prop:=fu (bX H7) (iN Q2 v6 v7 v9 v10 cV jc jd jv v8 m)
def iP (c:Cfg) (d:Nat) (v10 jv:Val) (Q2:aE) (v6 v7 v9 cV jc jd v8:Val) (m:MH):Prop:=aX c "add_all"=true∧(aq c d "add_all" [v10,jv] m (iO Q2 v6 v7 v9 v10 cV jc jd jv v8))
def iQ (c:Cfg) (d:Nat) (v10 jv:Val) (Q2:aE) (v6 v7 v9 cV jc jd v8 F2:Val) (m:MH):Prop:=fu (bX F2) (iP c d v10 jv Q2 v6 v7 v9 cV jc jd v8 m)
def et (c:Cfg) (d:Nat) (v9 v10:Val) (Q2:aE) (v6 v7 cV v8 jc jd jv:Val) (m:MH):Prop:=aX c "add_all"=true∧(aq c d "add_all" [v9,jd] m (iQ c d v10 jv Q2 v6 v7 v9 cV jc jd v8))
def iR (c:Cfg) (d:Nat) (v9 v10:Val) (Q2:aE) (v6 v7 cV v8 gS:Val) (m:MH):Prop:=Hi (fun jc jd jv=>et c d v9 v10 Q2 v6 v7 cV v8 jc jd jv m) gS
def iS (c:Cfg) (d:Nat) (v6 v9 v10 v7 v8 cV:Val) (m:MH) (Q2:aE):Prop:=ak c m (fun Ue=>ar c d Ue "read" v6 [cV] m (iR c d v9 v10 Q2 v6 v7 cV v8)) "read" v6
def iT (Q:VQ) (vE kL oz:Val) (m:MH):Prop:=Q (.tup [vE,kL,oz]) m
def ie (c:Cfg) (d:Nat) (dJ ab:Val) (Q:VQ) (y3 y4 y5:Val) (m:MH):Prop:=dc (bA c d 59 (aa (a7 26 3)) (cF (ai (a7 26 3)) 1)) dJ [some ab,some dJ,some y3,some y4,some y5,none,none,none,none] m (dO (aa (a7 26 3)) (aO c d 60 (aa (a7 26 3)) ((ai (a7 26 3)).drop 2) (bY Q)))
theorem jY {c:Cfg} {d:Nat} {m:MH} {Q:VQ}:bf c d (a7 26 3) [ab,dJ] m Q=(aH m (.list []) (fun x1 m=>aH m (.list []) (fun x2 m=>Hi (fun y3 y4 y5=>ie c d dJ ab Q y3 y4 y5 m) (.tup [(.bool false),x1,x2])))):=by kernel_rfl
theorem ig {c:Cfg} {d:Nat} {m:MH} {cV v6 v7 v8 v9 v10:Val} {NJ Hl EX Ur:Option Val} {Q2:aE}:(bA c d 59 (aa (a7 26 3)) (cF (ai (a7 26 3)) 1) cV [some v6,some v7,some v8,some v9,some v10,NJ,Hl,EX,Ur] m Q2)=(iS c d v6 v9 v10 v7 v8 cV m Q2):=by kernel_rfl
theorem ij {c:Cfg} {d:Nat} {m:MH} {Q:VQ} {CI PL vE kL oz:Val} {Zx Zy Uc Zz:Option Val}:(dO (aa (a7 26 3)) (aO c d 60 (aa (a7 26 3)) ((ai (a7 26 3)).drop 2) (bY Q)) none [some CI,some PL,some vE,some kL,some oz,Zx,Zy,Uc,Zz] m)=(iT Q vE kL oz m):=by kernel_rfl
def d3 (Q:VQ) (y3 y2 x7:Val) (m:MH):Prop:=eX m (fun x8 m=>eX m (fun x9 m=>Q (.tup [x7,x8,x9]) m) "list" [y3]) "list" [y2]
def d4 (Q:VQ) (y3 y2 ue y1:Val) (m:MH):Prop:=jF (fun b=>br b (d3 Q y3 y2 (.bool true) m) (aF .In ue (.tup [(.str "?"),(.str "*")]) m fun FT=>d3 Q y3 y2 (.bool FT) m)) y1
def oR (Q:VQ) (y3 y2 ue y1 x6:Val) (m:MH):Prop:=fu (bX x6) (d4 Q y3 y2 ue y1 m)
def oS (c:Cfg) (d:Nat) (ue ab:Val) (Q:VQ) (y1 y2 y3:Val) (m:MH):Prop:=aF .In ue (.tup [(.str "*"),(.str "+")]) m fun b4=>br b4 (ak c m (fun k5=>ar c d k5 "join" ab [y3,y2] m (oR Q y3 y2 ue y1)) "join" ab) (d4 Q y3 y2 ue y1 m)
theorem rQ {c:Cfg} {d:Nat} {m:MH} {Q:VQ}:bf c d (a7 26 4) [ab,UM,ue] m Q=(Hi (fun y1 y2 y3=>oS c d ue ab Q y1 y2 y3 m) UM):=by kernel_rfl
def rR (Q2:aE) (v1 v2 v3 x5:Val) (m:MH):Prop:=Q2 none [some v1,some v2,some v3,some x5] m
def rS (Q2:aE) (v1 v2 v3 x5 x8:Val) (m:MH):Prop:=fu (bX x8) (rR Q2 v1 v2 v3 x5 m)
def rT (c:Cfg) (d:Nat) (v3 v1 v2 x5:Val) (m:MH) (Q2:aE):Prop:=aX c "add_all"=true∧(ao m (fun x6 m=>ay m (fun x7 m=>aq c d "add_all" [x7,v3] m (rS Q2 v1 v2 v3 x5)) x6 x5) v1 "follow")
def rU (Q:VQ) (m:MH):Prop:=Q .none m
theorem vO {c:Cfg} {d:Nat} {m:MH} {Q:VQ}:bf c d (a7 26 5) [ab,SK,de] m Q=(dc (bA c d 59 (aa (a7 26 5)) (cF (ai (a7 26 5)) 0)) SK [some ab,some SK,some de,none] m (dO (aa (a7 26 5)) (aO c d 60 (aa (a7 26 5)) ((ai (a7 26 5)).drop 1) (bY Q)))):=by kernel_rfl
theorem qg {c:Cfg} {d:Nat} {m:MH} {x5 v1 v2 v3:Val} {o4:Option Val} {Q2:aE}:(bA c d 59 (aa (a7 26 5)) (cF (ai (a7 26 5)) 0) x5 [some v1,some v2,some v3,o4] m Q2)=(rT c d v3 v1 v2 x5 m Q2):=by kernel_rfl
theorem qh {c:Cfg} {d:Nat} {m:MH} {Q:VQ} {v9 v10 v11:Val} {Hl:Option Val}:(dO (aa (a7 26 5)) (aO c d 60 (aa (a7 26 5)) ((ai (a7 26 5)).drop 1) (bY Q)) none [some v9,some v10,some v11,Hl] m)=(rU Q m):=by kernel_rfl
theorem qi {c:Cfg} {d:Nat} {m:MH} {Q:VQ}:bf c d (a7 26 6) [ab,rV] m Q=(ao m (fun x1 m=>aY m (fun x2 m=>ay m (Q) x1 x2) .Sub rV (.int 1)) ab "names"):=by kernel_rfl
def oU (rV:Val) (Q:VQ) (ab x1:Val) (m:MH):Prop:=aF .Eq rV x1 m fun b2=>br b2 (ao m (Q) ab "first") (ao m (fun x3 m=>ay m (Q) x3 rV) ab "follow")
theorem rW {c:Cfg} {d:Nat} {m:MH} {Q:VQ}:bf c d (a7 26 7) [ab,rV] m Q=(Hh (p9 c.K "START") m (oU rV Q ab)):=by kernel_rfl
def rX (v4:Val) (acc:List Val) (Q1:List Val→MH→Prop) (hO eS:Val) (m:MH):Prop:=aF .Eq eS v4 m fun NC=>br NC (acc.length<bw∧Q1 (acc++[hO]) m) (Q1 acc m)
def rY (c:Cfg) (d:Nat) (v2 v4 hO:Val) (acc:List Val) (m:MH) (Q1:List Val→MH→Prop):Prop:=ak c m (fun WO=>ar c d WO "name_at" v2 [hO] m (rX v4 acc Q1 hO)) "name_at" v2
def rZ (Q2:aE) (v2 v3 v4 v5 x7:Val) (m:MH):Prop:=Q2 none [some v2,some v3,some v4,some v5,some x7] m
def r3 (Q2:aE) (v2 v3 v4 v5 x7 cV:Val) (m:MH):Prop:=fu (bX cV) (rZ Q2 v2 v3 v4 v5 x7 m)
def r4 (c:Cfg) (d:Nat) (v5:Val) (Q2:aE) (v2 v3 v4 x7 iJ:Val) (m:MH):Prop:=aq c d "add_all" [v5,iJ] m (r3 Q2 v2 v3 v4 v5 x7)
def r5 (c:Cfg) (d:Nat) (v2 v4 v5:Val) (Q2:aE) (v3 x7 x9:Val) (m:MH):Prop:=cw (rY c d v2 v4) x9 [] m (fun acc m=>aH m (.list acc) (r4 c d v5 Q2 v2 v3 v4 x7))
def r6 (c:Cfg) (d:Nat) (v2 v4 v5 v3 x7:Val) (m:MH) (Q2:aE):Prop:=aX c "add_all"=true∧(ak c m (fun k8=>ar c d k8 "behind" v2 [x7] m (r5 c d v2 v4 v5 Q2 v3 x7)) "behind" v2)
def r7 (Q:VQ) (gI:Val) (m:MH):Prop:=eX m (Q) "tuple" [gI]
def r8 (c:Cfg) (d:Nat) (r9 ab aN:Val) (Q:VQ) (x1:Val) (m:MH):Prop:=dc (bA c d 59 (aa (a7 26 9)) (cF (ai (a7 26 9)) 1)) r9 [some ab,some r9,some aN,some x1,none] m (dO (aa (a7 26 9)) (aO c d 60 (aa (a7 26 9)) ((ai (a7 26 9)).drop 2) (bY Q)))
theorem vP {c:Cfg} {d:Nat} {m:MH} {Q:VQ}:bf c d (a7 26 9) [ab,r9,aN] m Q=(aH m (.list []) (r8 c d r9 ab aN Q)):=by kernel_rfl
theorem qj {c:Cfg} {d:Nat} {m:MH} {x7 v2 v3 v4 v5:Val} {o6:Option Val} {Q2:aE}:(bA c d 59 (aa (a7 26 9)) (cF (ai (a7 26 9)) 1) x7 [some v2,some v3,some v4,some v5,o6] m Q2)=(r6 c d v2 v4 v5 v3 x7 m Q2):=by kernel_rfl
theorem qk {c:Cfg} {d:Nat} {m:MH} {Q:VQ} {xR xk Bw gI:Val} {PJ:Option Val}:(dO (aa (a7 26 9)) (aO c d 60 (aa (a7 26 9)) ((ai (a7 26 9)).drop 2) (bY Q)) none [some xR,some xk,some Bw,some gI,PJ] m)=(r7 Q gI m):=by kernel_rfl
def gd (Q2:aE) (v1 v2 x4:Val) (m:MH):Prop:=Q2 (some (.bool true)) [some v1,some v2,some x4] m
def oV (Q2:aE) (v1 v2 x4:Val) (m:MH):Prop:=ao m (fun x9 m=>jF (fun FT=>br FT (gd Q2 v1 v2 x4 m) (Q2 none [some v1,some v2,some x4] m)) x9) v1 "is_nullable"
def oW (x4:Val) (Q2:aE) (v1 v2 x7:Val) (m:MH):Prop:=aF .Eq x4 x7 m fun b8=>br b8 (oV Q2 v1 v2 x4 m) (Q2 none [some v1,some v2,some x4] m)
def oX (c:Cfg) (x4:Val) (Q2:aE) (v1 v2:Val) (m:MH):Prop:=Hh (p9 c.K "START") m (oW x4 Q2 v1 v2)
def oY (c:Cfg) (v1 v2 x4:Val) (m:MH) (Q2:aE):Prop:=ao m (fun x5 m=>aF .In x4 x5 m fun b6=>br b6 (gd Q2 v1 v2 x4 m) (oX c x4 Q2 v1 v2 m)) v1 "last"
def oZ (Q:VQ) (m:MH):Prop:=Q (.bool false) m
theorem sa {c:Cfg} {d:Nat} {m:MH} {Q:VQ}:bf c d (a7 26 10) [ab,r9] m Q=(dc (bA c d 59 (aa (a7 26 10)) (cF (ai (a7 26 10)) 0)) r9 [some ab,some r9,none] m (dO (aa (a7 26 10)) (aO c d 60 (aa (a7 26 10)) ((ai (a7 26 10)).drop 1) (bY Q)))):=by kernel_rfl
theorem mY {c:Cfg} {d:Nat} {m:MH} {x4 v1 v2:Val} {o3:Option Val} {Q2:aE}:(bA c d 59 (aa (a7 26 10)) (cF (ai (a7 26 10)) 0) x4 [some v1,some v2,o3] m Q2)=(oY c v1 v2 x4 m Q2):=by kernel_rfl
theorem mZ {c:Cfg} {d:Nat} {m:MH} {Q:VQ} {v11 df:Val} {EX:Option Val}:(dO (aa (a7 26 10)) (aO c d 60 (aa (a7 26 10)) ((ai (a7 26 10)).drop 1) (bY Q)) none [some v11,some df,EX] m)=(oZ Q m):=by kernel_rfl
def nh (Q2:aE) (v2 v3 x6 x7:Val) (m:MH):Prop:=aF .Eq x7 (.tup []) m fun b8=>br b8 (Q2 (some (.bool false)) [some v2,some v3,some x7,some x6] m) (Q2 none [some v2,some v3,some x7,some x6] m)
def nu (c:Cfg) (d:Nat) (v2 v4 v3 x6:Val) (m:MH) (Q2:aE):Prop:=ak c m (fun k9=>ar c d k9 "step" v2 [v4,x6] m (nh Q2 v2 v3 x6)) "step" v2
def ny (c:Cfg) (d:Nat) (v10 df:Val) (Q:VQ) (m:MH):Prop:=ak c m (fun Zm=>ar c d Zm "is_end" v10 [df] m (Q)) "is_end" v10
def nA (c:Cfg) (d:Nat) (cG ab:Val) (Q:VQ) (x1:Val) (m:MH):Prop:=dc (bA c d 59 (aa (a7 26 12)) (cF (ai (a7 26 12)) 1)) cG [some ab,some cG,some x1,none] m (dO (aa (a7 26 12)) (aO c d 60 (aa (a7 26 12)) ((ai (a7 26 12)).drop 2) (bY Q)))
def nB (c:Cfg) (d:Nat) (cG ab:Val) (Q:VQ) (cV:Val) (m:MH):Prop:=nA c d cG ab Q (.tup [cV]) m
theorem ql {c:Cfg} {d:Nat} {m:MH} {Q:VQ}:bf c d (a7 26 12) [ab,cG] m Q=(Hh (p9 c.K "START") m (nB c d cG ab Q)):=by kernel_rfl
theorem lQ {c:Cfg} {d:Nat} {m:MH} {x6 v2 v3 v4:Val} {o5:Option Val} {Q2:aE}:(bA c d 59 (aa (a7 26 12)) (cF (ai (a7 26 12)) 1) x6 [some v2,some v3,some v4,o5] m Q2)=(nu c d v2 v4 v3 x6 m Q2):=by kernel_rfl
theorem lR {c:Cfg} {d:Nat} {m:MH} {Q:VQ} {v10 v11 df:Val} {EX:Option Val}:(dO (aa (a7 26 12)) (aO c d 60 (aa (a7 26 12)) ((ai (a7 26 12)).drop 2) (bY Q)) none [some v10,some v11,some df,EX] m)=(ny c d v10 df Q m):=by kernel_rfl
def pb (Q:VQ) (ab:Val) (m:MH):Prop:=dE m (fun x2 m=>aS m x2 (fun m=>Q .none m) ab "taken") []
def pd (Q:VQ) (ab:Val) (m:MH):Prop:=dE m (fun x1 m=>aS m x1 (pb Q ab) ab "automata") []
def pe (cf:Val) (Q:VQ) (ab:Val) (m:MH):Prop:=aS m cf (pd Q ab) ab "dtd"
theorem sb {c:Cfg} {d:Nat} {m:MH} {Q:VQ}:bf c d (a7 34 0) [ab,ah,cf] m Q=(aS m ah (pe cf Q ab) ab "tree"):=by kernel_rfl
def fG (Q:VQ) (aN ab:Val) (m:MH):Prop:=ao m (fun x5 m=>ay m (Q) x5 aN) ab "automata"
def nD (Q:VQ) (aN ab x3:Val) (m:MH):Prop:=ao m (fun x4 m=>bb m x3 (fun m=>fG Q aN ab m) x4 aN) ab "automata"
theorem qm {c:Cfg} {d:Nat} {m:MH} {Q:VQ}:bf c d (a7 34 1) [ab,aN,au] m Q=(ao m (fun x1 m=>aF .NotIn aN x1 m fun b2=>br b2 (aX c "Automaton"=true∧(aq c d "Automaton" [au] m (nD Q aN ab))) (fG Q aN ab m)) ab "automata"):=by kernel_rfl
def dw (c:Cfg) (d:Nat) (ab aR x1:Val) (Q:VQ) (o5:Option Val) (m:MH):Prop:=Hh o5 m (fun x6 m=>ak c m (fun k7=>ar c d k7 "attributes" ab [aR,x1] m (fun x9 m=>aY m (Q) .Add x6 x9)) "attributes" ab)
def qn (c:Cfg) (d:Nat) (ab aR x1:Val) (Q:VQ) (x4:Val) (m:MH):Prop:=dw c d ab aR x1 Q (some x4) m
def qo (c:Cfg) (d:Nat) (ab aR x1:Val) (Q:VQ) (eS:Val) (m:MH):Prop:=dw c d ab aR x1 Q (some eS) m
def qp (aR cV:Val) (acc:List Val) (m:MH) (Q1:List Val→MH→Prop):Prop:=acc.length<bw∧Q1 (acc++[(.tup [aR,cV])]) m
def gz (c:Cfg) (d:Nat) (aR ab x1:Val) (Q:VQ) (iJ:Val) (m:MH):Prop:=cw (qp aR) iJ [] m (fun acc m=>aH m (.list acc) (qo c d ab aR x1 Q))
def gA (c:Cfg) (d:Nat) (aR ab x1:Val) (Q:VQ) (x2:Val) (m:MH):Prop:=aF .Is x2 .none m fun b3=>br b3 (aY m (fun hO m=>aY m (fun c4 m=>aH m (.list [(.tup [aR,c4])]) (qn c d ab aR x1 Q)) .Add hO (.str " is not declared")) .Add (.str "the element ") x1) (ak c m (fun k13=>ar c d k13 "content" ab [aR,x1,x2] m (gz c d aR ab x1 Q)) "content" ab)
def qq (c:Cfg) (d:Nat) (aR ab:Val) (Q:VQ) (x1:Val) (m:MH):Prop:=ao m (fun wI m=>ak c m (fun Zl=>ar c d Zl "model" wI [x1] m (gA c d aR ab x1 Q)) "model" wI) ab "dtd"
theorem uf {c:Cfg} {d:Nat} {m:MH} {Q:VQ}:bf c d (a7 34 2) [ab,aR] m Q=(ao m (fun dh m=>ak c m (fun Ua=>ar c d Ua "name" dh [aR] m (qq c d aR ab Q)) "name" dh) ab "tree"):=by kernel_rfl
def gB (aN bC fw:Val) (acc:List Val) (m:MH) (Q1:List Val→MH→Prop):Prop:=ay m (fun iJ m=>aF .NotIn fw iJ m fun WT=>br WT (aY m (fun wI m=>aY m (fun gS m=>acc.length<bw∧Q1 (acc++[gS]) m) .Add wI aN) .Add fw (.str " may not stand in ")) (Q1 acc m)) bC (.int 1)
def qr (Q2:aE) (vE kL oz mK v30 tw gJ:Val) (m:MH):Prop:=aY m (fun Un m=>aH m (.list [Un]) (fun Us m=>Q2 (some Us) [some vE,some kL,some oz,some mK,some v30,some tw,some gJ] m)) .Add (.str "text may not stand in ") oz
def gC (Q2:aE) (vE kL oz mK v30 tw gJ:Val) (m:MH):Prop:=Q2 none [some vE,some kL,some oz,some mK,some v30,some tw,some gJ] m
def qt (Q2:aE) (vE kL oz mK v30 tw gJ Uo:Val) (m:MH):Prop:=jF (fun b42=>br (!b42) (qr Q2 vE kL oz mK v30 tw gJ m) (gC Q2 vE kL oz mK v30 tw gJ m)) Uo
def qu (c:Cfg) (d:Nat) (Q2:aE) (vE kL oz mK v30 tw gJ Jx:Val) (m:MH):Prop:=aq c d "is_blank" [Jx] m (qt Q2 vE kL oz mK v30 tw gJ)
def qv (c:Cfg) (d:Nat) (tw:Val) (Q2:aE) (vE kL oz mK v30 gJ:Val) (m:MH):Prop:=aX c "is_blank"=true∧(ao m (fun Mm m=>ak c m (fun Zo=>ar c d Zo "value" Mm [tw] m (qu c d Q2 vE kL oz mK v30 tw gJ)) "value" Mm) vE "tree")
def qw (c:Cfg) (d:Nat) (tw:Val) (Q2:aE) (vE kL oz mK v30 gJ W4:Val) (m:MH):Prop:=aF .Eq W4 (.str "text") m fun b37=>br b37 (qv c d tw Q2 vE kL oz mK v30 gJ m) (gC Q2 vE kL oz mK v30 tw gJ m)
def qy (c:Cfg) (d:Nat) (vE kL oz mK v30 gJ tw:Val) (m:MH) (Q2:aE):Prop:=ao m (fun SH m=>ak c m (fun k35=>ar c d k35 "kind" SH [tw] m (qw c d tw Q2 vE kL oz mK v30 gJ)) "kind" SH) vE "tree"
def qz (Q:VQ) (m:MH):Prop:=aH m (.list []) (Q)
def pf (c:Cfg) (d:Nat) (Q:VQ) (aN x1 ab aR bC hO H7:Val) (m:MH):Prop:=jF (fun QQ=>br (!QQ) (aY m (fun xi m=>aY m (fun Ml m=>aH m (.list [Ml]) (Q)) .Add xi (.str " do not follow its model")) .Add (.str "the elements in ") aN) (dc (bA c d 59 (aa (a7 34 3)) (cF (ai (a7 34 3)) 6)) x1 [some ab,some aR,some aN,some bC,some x1,none,some hO] m (dO (aa (a7 34 3)) (aO c d 60 (aa (a7 34 3)) ((ai (a7 34 3)).drop 7) (bY Q))))) H7
def pg (c:Cfg) (d:Nat) (hO:Val) (Q:VQ) (aN x1 ab aR bC xe:Val) (m:MH):Prop:=ak c m (fun k21=>ar c d k21 "accepts" xe [hO] m (pf c d Q aN x1 ab aR bC hO)) "accepts" xe
def dg (c:Cfg) (d:Nat) (aN bC:Val) (Q:VQ) (ab x1 aR hO:Val) (m:MH):Prop:=ay m (fun c4 m=>aF .Eq c4 (.str "mixed") m fun Zn=>br Zn (cw (gB aN bC) hO [] m (fun acc m=>aH m (.list acc) (Q))) (ak c m (fun k18=>ay m (fun p5 m=>ar c d k18 "automaton" ab [aN,p5] m (pg c d hO Q aN x1 ab aR bC)) bC (.int 1)) "automaton" ab)) bC (.int 0)
def ph (c:Cfg) (d:Nat) (N4:Val) (acc:List Val) (Q1:List Val→MH→Prop) (ab x55:Val) (m:MH):Prop:=aF .Eq x55 (.str "element") m fun b56=>br b56 (ao m (fun Bx m=>ak c m (fun k58=>ar c d k58 "name" Bx [N4] m (fun WY m=>acc.length<bw∧Q1 (acc++[WY]) m)) "name" Bx) ab "tree") (Q1 acc m)
def gf (c:Cfg) (d:Nat) (ab N4:Val) (acc:List Val) (m:MH) (Q1:List Val→MH→Prop):Prop:=ao m (fun x53 m=>ak c m (fun k54=>ar c d k54 "kind" x53 [N4] m (ph c d N4 acc Q1 ab)) "kind" x53) ab "tree"
def pj (c:Cfg) (d:Nat) (Q:VQ) (aN ab bC aR x1:Val) (m:MH):Prop:=ay m (fun x2 m=>aF .Eq x2 (.str "any") m fun b3=>br b3 (aH m (.list []) (Q)) (ay m (fun x4 m=>aF .Eq x4 (.str "empty") m fun b5=>br b5 (aH m (.list []) (fun x6 m=>aF .Eq x1 x6 m fun b7=>br b7 (aH m (.list []) (Q)) (aY m (fun x8 m=>aY m (fun x9 m=>aH m (.list [x9]) (Q)) .Add x8 (.str " must be empty")) .Add (.str "the element ") aN))) (cw (gf c d ab) x1 [] m (fun acc m=>aH m (.list acc) (dg c d aN bC Q ab x1 aR)))) bC (.int 0))) bC (.int 0)
theorem ug {c:Cfg} {d:Nat} {m:MH} {Q:VQ}:bf c d (a7 34 3) [ab,aR,aN,bC] m Q=(ao m (fun Ej m=>ak c m (fun W8=>ar c d W8 "children" Ej [aR] m (pj c d Q aN ab bC aR)) "children" Ej) ab "tree"):=by kernel_rfl
theorem pn {c:Cfg} {d:Nat} {m:MH} {tw vE kL oz mK v30:Val} {Uc:Option Val} {gJ:Val} {Q2:aE}:(bA c d 59 (aa (a7 34 3)) (cF (ai (a7 34 3)) 6) tw [some vE,some kL,some oz,some mK,some v30,Uc,some gJ] m Q2)=(qy c d vE kL oz mK v30 gJ tw m Q2):=by kernel_rfl
theorem pq {c:Cfg} {d:Nat} {m:MH} {Q:VQ} {QZ Q0 CU vr vt:Val} {Q3:Option Val} {uK:Val}:(dO (aa (a7 34 3)) (aO c d 60 (aa (a7 34 3)) ((ai (a7 34 3)).drop 7) (bY Q)) none [some QZ,some Q0,some CU,some vr,some vt,Q3,some uK] m)=(qz Q m):=by kernel_rfl
def lS (Q2:aE) (v8 v9 v10 v11 df dh p5 xe:Val) (gL dD:Option Val) (m:MH):Prop:=Q2 none [some v8,some v9,some v10,some v11,some df,some dh,some p5,some xe,gL,dD] m
def lT (Q2:aE) (v8 v9 v10 v11 df dh p5 xe:Val) (gL dD:Option Val) (te:Val) (m:MH):Prop:=fu (bX te) (lS Q2 v8 v9 v10 v11 df dh p5 xe gL dD m)
def lU (c:Cfg) (d:Nat) (v11 dh:Val) (Q2:aE) (v8 v9 v10 df p5:Val) (gL dD:Option Val) (xe:Val) (m:MH):Prop:=aF .IsNot xe .none m fun Zk=>br Zk (ak c m (fun k22=>ar c d k22 "append" v11 [(.tup [dh,xe])] m (lT Q2 v8 v9 v10 v11 df dh p5 xe gL dD)) "append" v11) (Q2 none [some v8,some v9,some v10,some v11,some df,some dh,some p5,some xe,gL,dD] m)
def lV (c:Cfg) (d:Nat) (WQ:Recv) (v8 v10 p5 v11 dh:Val) (Q2:aE) (v9 df:Val) (gL dD:Option Val) (EW:Val) (m:MH):Prop:=ar c d WQ "attribute" v8 [v10,p5,EW] m (lU c d v11 dh Q2 v8 v9 v10 df p5 gL dD)
def lW (c:Cfg) (d:Nat) (dh v8 v10 p5 v11:Val) (Q2:aE) (v9 df:Val) (gL dD:Option Val) (m:MH):Prop:=ak c m (fun WQ=>ao m (fun Ml m=>ak c m (fun k26=>ar c d k26 "value" Ml [dh] m (lV c d WQ v8 v10 p5 v11 dh Q2 v9 df gL dD)) "value" Ml) v8 "tree") "attribute" v8
def lX (c:Cfg) (d:Nat) (dh v8 v10 v11:Val) (Q2:aE) (v9 df:Val) (gL dD:Option Val) (p5:Val) (m:MH):Prop:=bb m dh (lW c d dh v8 v10 p5 v11 Q2 v9 df gL dD) df p5
def fh (c:Cfg) (d:Nat) (v8 v10 v11 v9 df:Val) (gL dD:Option Val) (dh:Val) (m:MH) (Q2:aE):Prop:=ao m (fun nR m=>ak c m (fun k29=>ar c d k29 "name" nR [dh] m (lX c d dh v8 v10 v11 Q2 v9 df gL dD)) "name" nR) v8 "tree"
def lY (qc N3:Val) (acc:List Val) (m:MH) (Q1:List Val→MH→Prop):Prop:=aY m (fun Un m=>aY m (fun Us m=>acc.length<bw∧Q1 (acc++[(.tup [qc,Us])]) m) .Add Un (.str " lacks")) .Add (.str "the attribute ") N3
def lZ (qc:Val) (Q:VQ) (oy Uo:Val) (m:MH):Prop:=cw (lY qc) Uo [] m (fun acc m=>aH m (.list acc) (fun WZ m=>aY m (Q) .Add WZ oy))
def jZ (Um p6:Val) (acc:List Val) (Q1:List Val→MH→Prop) (m:MH):Prop:=aF .NotIn Um p6 m fun b51=>br b51 (acc.length<bw∧Q1 (acc++[Um]) m) (Q1 acc m)
def j0 (p6 Jx Um:Val) (acc:List Val) (m:MH) (Q1:List Val→MH→Prop):Prop:=ay m (fun W7 m=>ao m (fun x49 m=>aF .Eq x49 (.str "required") m fun b50=>br b50 (jZ Um p6 acc Q1 m) (Q1 acc m)) W7 "mode") Jx Um
def j4 (p6 qc:Val) (Q:VQ) (oy Jx:Val) (m:MH):Prop:=cw (j0 p6 Jx) Jx [] m (fun acc m=>aH m (.list acc) (lZ qc Q oy))
def eU (c:Cfg) (d:Nat) (gJ p6 qc:Val) (Q:VQ) (oy v30:Val) (m:MH):Prop:=ao m (fun N4 m=>ak c m (fun ZI=>ar c d ZI "rules" N4 [gJ] m (j4 p6 qc Q oy)) "rules" N4) v30 "dtd"
def j5 (c:Cfg) (d:Nat) (ab aR aN y3 y4:Val) (Q:VQ) (x7:Val) (m:MH):Prop:=dc (bA c d 59 (aa (a7 34 4)) (cF (ai (a7 34 4)) 1)) x7 [some ab,some aR,some aN,some y3,some y4,none,none,none,none,none] m (dO (aa (a7 34 4)) (aO c d 60 (aa (a7 34 4)) ((ai (a7 34 4)).drop 2) (bY Q)))
def j6 (c:Cfg) (d:Nat) (aR ab aN:Val) (Q:VQ) (y3 y4:Val) (m:MH):Prop:=ao m (fun x5 m=>ak c m (fun k6=>ar c d k6 "attributes" x5 [aR] m (j5 c d ab aR aN y3 y4 Q)) "attributes" x5) ab "tree"
theorem pA {c:Cfg} {d:Nat} {m:MH} {Q:VQ}:bf c d (a7 34 4) [ab,aR,aN] m Q=(aH m (.list []) (fun x1 m=>dE m (fun x2 m=>xI (fun y3 y4=>j6 c d aR ab aN Q y3 y4 m) (.tup [x1,x2])) [])):=by kernel_rfl
theorem j7 {c:Cfg} {d:Nat} {m:MH} {dh v8 v9 v10 v11 df:Val} {EX Ur W6 gL dD:Option Val} {Q2:aE}:(bA c d 59 (aa (a7 34 4)) (cF (ai (a7 34 4)) 1) dh [some v8,some v9,some v10,some v11,some df,EX,Ur,W6,gL,dD] m Q2)=(fh c d v8 v10 v11 v9 df gL dD dh m Q2):=by kernel_rfl
theorem j8 {c:Cfg} {d:Nat} {m:MH} {Q:VQ} {v30 qc gJ oy p6:Val} {PG Ge SA o38 o39:Option Val}:(dO (aa (a7 34 4)) (aO c d 60 (aa (a7 34 4)) ((ai (a7 34 4)).drop 2) (bY Q)) none [some v30,some qc,some gJ,some oy,some p6,PG,Ge,SA,o38,o39] m)=(eU c d gJ p6 qc Q oy v30 m):=by kernel_rfl
def nE (x4:Val) (Q:VQ) (x5 ab:Val) (m:MH):Prop:=ao m (fun x9 m=>aF .In x4 x9 m fun FT=>br FT (aY m (fun c4 m=>aY m (Q) .Add c4 (.str " stands twice")) .Add (.str "the ID ") x4) (ao m (fun eS m=>bb m (.bool true) (fun m=>Q x5 m) eS x4) ab "taken")) ab "taken"
def nF (x4:Val) (Q:VQ) (x5 ab x1:Val) (m:MH):Prop:=ao m (fun x7 m=>aF .Eq x7 (.str "ID") m fun b8=>br b8 (nE x4 Q x5 ab m) (Q x5 m)) x1 "kind"
def nG (x4:Val) (Q:VQ) (ab x1 x5:Val) (m:MH):Prop:=aF .Is x5 .none m fun b6=>br b6 (nF x4 Q x5 ab x1 m) (Q x5 m)
def nH (c:Cfg) (d:Nat) (x1:Val) (Q:VQ) (ab x4:Val) (m:MH):Prop:=aX c "fits"=true∧(aq c d "fits" [x1,x4] m (nG x4 Q ab x1))
def nJ (c:Cfg) (d:Nat) (Q:VQ) (aN aI ab x1:Val) (m:MH):Prop:=aF .Is x1 .none m fun b2=>br b2 (aY m (fun x3 m=>aY m (Q) .Add x3 (.str " is not declared")) .Add (.str "the attribute ") aN) (aX c "normalised"=true∧(ao m (fun fw m=>aq c d "normalised" [fw,aI] m (nH c d x1 Q ab)) x1 "kind"))
theorem qA {c:Cfg} {d:Nat} {m:MH} {Q:VQ}:bf c d (a7 34 5) [ab,aM,aN,aI] m Q=(ao m (fun iJ m=>ak c m (fun WJ=>ar c d WJ "rule" iJ [aM,aN] m (nJ c d Q aN aI ab)) "rule" iJ) ab "dtd"):=by kernel_rfl
def vQ (Q:VQ) (ab:Val) (m:MH):Prop:=dE m (fun x3 m=>aS m x3 (fun m=>Q .none m) ab "notations") []
def vR (Q:VQ) (ab:Val) (m:MH):Prop:=dE m (fun x2 m=>aS m x2 (vQ Q ab) ab "attributes") []
def vS (Q:VQ) (ab:Val) (m:MH):Prop:=dE m (fun x1 m=>aS m x1 (vR Q ab) ab "elements") []
theorem zy {c:Cfg} {d:Nat} {m:MH} {Q:VQ}:bf c d (a7 42 0) [ab,aW] m Q=(aS m aW (vS Q ab) ab "root"):=by kernel_rfl
theorem nK {c:Cfg} {d:Nat} {m:MH} {Q:VQ}:bf c d (a7 42 1) [ab,aN,bC,rV] m Q=(ao m (fun x1 m=>aF .In aN x1 m fun b2=>br b2 (False) (ao m (fun x3 m=>bb m bC (fun m=>Q .none m) x3 aN) ab "elements")) ab "elements"):=by kernel_rfl
def c7 (aN dA:Val) (Q:VQ) (x5:Val) (m:MH):Prop:=aF .NotIn aN x5 m fun b6=>br b6 (bb m dA (fun m=>Q .none m) x5 aN) (Q .none m)
def iU (aN dA:Val) (Q:VQ) (aM ab x3:Val) (m:MH):Prop:=ao m (fun x4 m=>bb m x3 (fun m=>c7 aN dA Q x3 m) x4 aM) ab "attributes"
def iV (aN dA:Val) (Q:VQ) (aM ab x1:Val) (m:MH):Prop:=aF .Is x1 .none m fun b2=>br b2 (dE m (iU aN dA Q aM ab) []) (c7 aN dA Q x1 m)
theorem j9 {c:Cfg} {d:Nat} {m:MH} {Q:VQ}:bf c d (a7 42 2) [ab,aM,aN,dA] m Q=(ao m (fun x7 m=>ak c m (fun k8=>ar c d k8 "get" x7 [aM] m (iV aN dA Q aM ab)) "get" x7) ab "attributes"):=by kernel_rfl
theorem Gw {c:Cfg} {d:Nat} {m:MH} {Q:VQ}:bf c d (a7 42 4) [ab,aN] m Q=(ao m (fun x1 m=>ak c m (fun k2=>ar c d k2 "get" x1 [aN] m (Q)) "get" x1) ab "elements"):=by kernel_rfl
theorem Gx {c:Cfg} {d:Nat} {m:MH} {Q:VQ}:bf c d (a7 42 5) [ab,aM] m Q=(ao m (fun x1 m=>ak c m (fun k2=>dE m (fun x3 m=>ar c d k2 "get" x1 [aM,x3] m (Q)) []) "get" x1) ab "attributes"):=by kernel_rfl
def El (c:Cfg) (d:Nat) (aN:Val) (Q:VQ) (x2:Val) (m:MH):Prop:=ak c m (fun k3=>ar c d k3 "get" x2 [aN] m (Q)) "get" x2
theorem Im {c:Cfg} {d:Nat} {m:MH} {Q:VQ}:bf c d (a7 42 6) [ab,aM,aN] m Q=(ak c m (fun k1=>ar c d k1 "rules" ab [aM] m (El c d aN Q)) "rules" ab):=by kernel_rfl
def nM (c6 x1 x2:Val) (acc:List Val) (m:MH) (Q1:List Val→MH→Prop):Prop:=ay m (fun x3 m=>ao m (fun x4 m=>aF .Eq x4 c6 m fun b5=>br b5 (acc.length<bw∧Q1 (acc++[x2]) m) (Q1 acc m)) x3 "kind") x1 x2
def nN (c6:Val) (Q:VQ) (x1:Val) (m:MH):Prop:=cw (nM c6 x1) x1 [] m (fun acc m=>aH m (.list acc) (Q))
theorem qB {c:Cfg} {d:Nat} {m:MH} {Q:VQ}:bf c d (a7 42 7) [ab,aM,c6] m Q=(ak c m (fun k6=>ar c d k6 "rules" ab [aM] m (nN c6 Q)) "rules" ab):=by kernel_rfl
def xu (Q:VQ) (x1:Val) (m:MH):Prop:=aH m (.list []) (fun x2 m=>aF .NotEq x1 x2 m fun b3=>br b3 (ay m (Q) x1 (.int 0)) (Q .none m))
theorem AR {c:Cfg} {d:Nat} {m:MH} {Q:VQ}:bf c d (a7 42 8) [ab,aM] m Q=(ak c m (fun k4=>ar c d k4 "names_of_kind" ab [aM,(.str "ID")] m (xu Q)) "names_of_kind" ab):=by kernel_rfl
def pB (Q:VQ) (ab:Val) (m:MH):Prop:=aH m (.list []) (fun x3 m=>aS m x3 (fun m=>Q .none m) ab "namespaces")
def pC (Q:VQ) (ab:Val) (m:MH):Prop:=aH m (.list []) (fun x2 m=>aS m x2 (pB Q ab) ab "attributes")
def pD (Q:VQ) (ab:Val) (m:MH):Prop:=aH m (.list []) (fun x1 m=>aS m x1 (pC Q ab) ab "children")
def pE (aZ:Val) (Q:VQ) (ab:Val) (m:MH):Prop:=aS m aZ (pD Q ab) ab "parent"
def pF (aI aZ:Val) (Q:VQ) (ab:Val) (m:MH):Prop:=aS m aI (pE aZ Q ab) ab "value"
def pG (cQ aI aZ:Val) (Q:VQ) (ab:Val) (m:MH):Prop:=aS m cQ (pF aI aZ Q ab) ab "local"
def pH (gP cQ aI aZ:Val) (Q:VQ) (ab:Val) (m:MH):Prop:=aS m gP (pG cQ aI aZ Q ab) ab "uri"
def pI (aN gP cQ aI aZ:Val) (Q:VQ) (ab:Val) (m:MH):Prop:=aS m aN (pH gP cQ aI aZ Q ab) ab "name"
theorem sd {c:Cfg} {d:Nat} {m:MH} {Q:VQ}:bf c d (a7 45 0) [ab,c6,aN,gP,cQ,aI,aZ] m Q=(aS m c6 (pI aN gP cQ aI aZ Q ab) ab "kind"):=by kernel_rfl
theorem xv {c:Cfg} {d:Nat} {ab:Val} {m:MH} {Q:VQ}:bf c d (a7 46 0) [ab] m Q=(aH m (.list []) (fun x1 m=>aS m x1 (fun m=>Q .none m) ab "rows")):=by kernel_rfl
def vT (Q:VQ) (ab:Val) (m:MH):Prop:=ao m (fun x5 m=>eX m (fun x6 m=>aY m (Q) .Sub x6 (.int 1)) "len" [x5]) ab "rows"
def vU (c:Cfg) (d:Nat) (k2:Recv) (x1:Val) (Q:VQ) (ab x3:Val) (m:MH):Prop:=ar c d k2 "append" x1 [x3] m (fun x7 m=>fu (bX x7) (vT Q ab m))
theorem zA {c:Cfg} {d:Nat} {m:MH} {Q:VQ}:bf c d (a7 46 1) [ab,c6,aN,gP,cQ,aI,aZ] m Q=(ao m (fun x1 m=>ak c m (fun k2=>aX c "NodeRow"=true∧(aq c d "NodeRow" [c6,aN,gP,cQ,aI,aZ] m (vU c d k2 x1 Q ab))) "append" x1) ab "rows"):=by kernel_rfl
def Em (Q:VQ) (aR ab:Val) (m:MH):Prop:=ao m (fun x5 m=>ay m (Q) x5 aR) ab "rows"
theorem Io {c:Cfg} {d:Nat} {m:MH} {Q:VQ}:bf c d (a7 46 2) [ab,aR] m Q=(aF .LtE (.int 0) aR m fun b1=>br b1 (ao m (fun x2 m=>eX m (fun x3 m=>aF .Lt aR x3 m fun b4=>br (!b4) (False) (Em Q aR ab m)) "len" [x2]) ab "rows") (False)):=by kernel_rfl
theorem xw {c:Cfg} {d:Nat} {ab:Val} {m:MH} {Q:VQ}:bf c d (a7 46 3) [ab] m Q=(ak c m (fun k1=>ar c d k1 "new_row" ab [(.str "root"),(.str ""),(.str ""),(.str ""),(.str ""),.none] m (Q)) "new_row" ab):=by kernel_rfl
def sh (c:Cfg) (d:Nat) (aZ:Val) (Q:VQ) (ab x7:Val) (m:MH):Prop:=aF .IsNot aZ .none m fun b8=>br b8 (ao m (fun x9 m=>ay m (fun hO m=>ao m (fun c4 m=>ak c m (fun WM=>ar c d WM "append" c4 [x7] m (fun iJ m=>fu (bX iJ) (Q x7 m))) "append" c4) hO "children") x9 aZ) ab "rows") (Q x7 m)
def ik (c:Cfg) (d:Nat) (ab c6 aN gP cQ aI aZ:Val) (Q:VQ) (m:MH):Prop:=ak c m (fun WJ=>ar c d WJ "new_row" ab [c6,aN,gP,cQ,aI,aZ] m (sh c d aZ Q ab)) "new_row" ab
def si (c:Cfg) (d:Nat) (x4 ab c6 aN gP cQ aI aZ:Val) (Q:VQ) (x5:Val) (m:MH):Prop:=aF .NotIn x4 x5 m fun b6=>br b6 (False) (ik c d ab c6 aN gP cQ aI aZ Q m)
def sj (c:Cfg) (d:Nat) (ab c6 aN gP cQ aI aZ:Val) (Q:VQ) (x3:Val) (m:MH):Prop:=ao m (fun x4 m=>Hh (p9 c.K "PARENTS") m (si c d x4 ab c6 aN gP cQ aI aZ Q)) x3 "kind"
def sk (c:Cfg) (d:Nat) (ab aZ c6 aN gP cQ aI:Val) (Q:VQ) (m:MH):Prop:=ak c m (fun k2=>ar c d k2 "row" ab [aZ] m (sj c d ab c6 aN gP cQ aI aZ Q)) "row" ab
theorem vV {c:Cfg} {d:Nat} {m:MH} {Q:VQ}:bf c d (a7 46 4) [ab,aZ,c6,aN,gP,cQ,aI] m Q=(aF .IsNot aZ .none m fun b1=>br b1 (sk c d ab aZ c6 aN gP cQ aI Q m) (ik c d ab c6 aN gP cQ aI aZ Q m)):=by kernel_rfl
theorem sm {c:Cfg} {d:Nat} {m:MH} {Q:VQ}:bf c d (a7 46 5) [ab,aZ,aN,gP,cQ] m Q=(ak c m (fun k1=>ar c d k1 "add_child" ab [aZ,(.str "element"),aN,gP,cQ,(.str "")] m (Q)) "add_child" ab):=by kernel_rfl
theorem xx {c:Cfg} {d:Nat} {m:MH} {Q:VQ}:bf c d (a7 46 6) [ab,aZ,aI] m Q=(ak c m (fun k1=>ar c d k1 "add_child" ab [aZ,(.str "text"),(.str ""),(.str ""),(.str ""),aI] m (Q)) "add_child" ab):=by kernel_rfl
theorem sr {c:Cfg} {d:Nat} {m:MH} {Q:VQ}:bf c d (a7 46 7) [ab,aZ,aI] m Q=(ak c m (fun k1=>ar c d k1 "add_child" ab [aZ,(.str "comment"),(.str ""),(.str ""),(.str ""),aI] m (Q)) "add_child" ab):=by kernel_rfl
def pJ (Q:VQ) (x1:Val) (m:MH):Prop:=ao m (fun x2 m=>aF .NotEq x2 (.str "element") m fun b3=>br b3 (False) (Q x1 m)) x1 "kind"
theorem su {c:Cfg} {d:Nat} {m:MH} {Q:VQ}:bf c d (a7 46 9) [ab,aM] m Q=(ak c m (fun k4=>ar c d k4 "row" ab [aM] m (pJ Q)) "row" ab):=by kernel_rfl
def mf (Q2:aE) (eS v3 v4 v5 v6 v7 v8 v9 fw:Val) (m:MH):Prop:=Q2 (some eS) [some v3,some v4,some v5,some v6,some v7,some v8,some v9,some eS,some fw] m
def mi (v8:Val) (Q2:aE) (eS v3 v4 v5 v6 v7 v9 fw:Val) (m:MH):Prop:=aS m v8 (mf Q2 eS v3 v4 v5 v6 v7 v8 v9 fw) fw "value"
def mj (v5 v8:Val) (Q2:aE) (eS v3 v4 v6 v7 v9 fw:Val) (m:MH):Prop:=aS m v5 (mi v8 Q2 eS v3 v4 v5 v6 v7 v9 fw) fw "name"
def fj (Q2:aE) (v3 v4 v5 v6 v7 v8 v9 eS fw:Val) (m:MH):Prop:=Q2 none [some v3,some v4,some v5,some v6,some v7,some v8,some v9,some eS,some fw] m
def ml (v7 v5 v8:Val) (Q2:aE) (eS v3 v4 v6 v9 fw:Val) (m:MH):Prop:=ao m (fun wI m=>aF .Eq wI v7 m fun b17=>br b17 (mj v5 v8 Q2 eS v3 v4 v6 v7 v9 fw m) (fj Q2 v3 v4 v5 v6 v7 v8 v9 eS fw m)) fw "local"
def mn (v6 v7 v5 v8:Val) (Q2:aE) (eS v3 v4 v9 fw:Val) (m:MH):Prop:=ao m (fun iJ m=>aF .Eq iJ v6 m fun WT=>br WT (ml v7 v5 v8 Q2 eS v3 v4 v6 v9 fw m) (fj Q2 v3 v4 v5 v6 v7 v8 v9 eS fw m)) fw "uri"
def mq (v6 v7 v5 v8 v3 v4 v9 eS:Val) (m:MH) (Q2:aE):Prop:=ao m (fun dh m=>ay m (mn v6 v7 v5 v8 Q2 eS v3 v4 v9) dh eS) v3 "rows"
def mr (c:Cfg) (d:Nat) (Q:VQ) (PL nR:Val) (m:MH):Prop:=ao m (fun nS m=>ak c m (fun WW=>ar c d WW "append" nS [nR] m (fun SG m=>fu (bX SG) (Q nR m))) "append" nS) PL "attributes"
def mu (c:Cfg) (d:Nat) (gI jD uI qb CI v20:Val) (Q:VQ) (PL:Val) (m:MH):Prop:=ak c m (fun W5=>ar c d W5 "new_row" gI [(.str "attribute"),jD,uI,qb,CI,v20] m (mr c d Q PL)) "new_row" gI
def kb (c:Cfg) (d:Nat) (ab aM aN gP cQ aI:Val) (Q:VQ) (x1:Val) (m:MH):Prop:=ao m (fun x2 m=>dc (bA c d 59 (aa (a7 46 10)) (cF (ai (a7 46 10)) 1)) x2 [some ab,some aM,some aN,some gP,some cQ,some aI,some x1,none,none] m (dO (aa (a7 46 10)) (aO c d 60 (aa (a7 46 10)) ((ai (a7 46 10)).drop 2) (bY Q)))) x1 "attributes"
theorem pK {c:Cfg} {d:Nat} {m:MH} {Q:VQ}:bf c d (a7 46 10) [ab,aM,aN,gP,cQ,aI] m Q=(ak c m (fun ZH=>ar c d ZH "element_row" ab [aM] m (kb c d ab aM aN gP cQ aI Q)) "element_row" ab):=by kernel_rfl
theorem kc {c:Cfg} {d:Nat} {m:MH} {eS v3 v4 v5 v6 v7 v8 v9:Val} {ou NJ:Option Val} {Q2:aE}:(bA c d 59 (aa (a7 46 10)) (cF (ai (a7 46 10)) 1) eS [some v3,some v4,some v5,some v6,some v7,some v8,some v9,ou,NJ] m Q2)=(mq v6 v7 v5 v8 v3 v4 v9 eS m Q2):=by kernel_rfl
theorem kf {c:Cfg} {d:Nat} {m:MH} {Q:VQ} {gI v20 jD uI qb CI PL:Val} {qN AP:Option Val}:(dO (aa (a7 46 10)) (aO c d 60 (aa (a7 46 10)) ((ai (a7 46 10)).drop 2) (bY Q)) none [some gI,some v20,some jD,some uI,some qb,some CI,some PL,qN,AP] m)=(mu c d gI jD uI qb CI v20 Q PL m):=by kernel_rfl
theorem Gy {c:Cfg} {d:Nat} {m:MH} {Q:VQ}:bf c d (a7 46 13) [ab,aR] m Q=(ak c m (fun k1=>ar c d k1 "row" ab [aR] m (fun x3 m=>ao m (Q) x3 "kind")) "row" ab):=by kernel_rfl
theorem Gz {c:Cfg} {d:Nat} {m:MH} {Q:VQ}:bf c d (a7 46 14) [ab,aR] m Q=(ak c m (fun k1=>ar c d k1 "row" ab [aR] m (fun x3 m=>ao m (Q) x3 "name")) "row" ab):=by kernel_rfl
theorem En {c:Cfg} {d:Nat} {m:MH} {Q:VQ}:bf c d (a7 46 17) [ab,aR] m Q=(ak c m (fun k1=>ar c d k1 "row" ab [aR] m (fun x3 m=>ao m (Q) x3 "value")) "row" ab):=by kernel_rfl
def uh (Q:VQ) (x2:Val) (m:MH):Prop:=ao m (fun x3 m=>eX m (Q) "list" [x3]) x2 "children"
theorem xy {c:Cfg} {d:Nat} {m:MH} {Q:VQ}:bf c d (a7 46 19) [ab,aR] m Q=(ak c m (fun k1=>ar c d k1 "row" ab [aR] m (uh Q)) "row" ab):=by kernel_rfl
def qC (Q:VQ) (x2:Val) (m:MH):Prop:=ao m (fun x3 m=>eX m (Q) "list" [x3]) x2 "attributes"
theorem uj {c:Cfg} {d:Nat} {m:MH} {Q:VQ}:bf c d (a7 46 20) [ab,aR] m Q=(ak c m (fun k1=>ar c d k1 "row" ab [aR] m (qC Q)) "row" ab):=by kernel_rfl
def MH.Le (m m':MH):Prop:=∀a o,m a=some o→m' a=some o
theorem MH.Le.refl (m:MH):MH.Le m m:=fun zz zz e=>e
theorem MH.Le.trans {a b c:MH} (x:MH.Le a b) (y:MH.Le b c):MH.Le a c:=fun p o e=>y p o (x p o e)
theorem MH.Le.set {m:MH} {a:Addr} {o:MO} (h:m a=none):MH.Le m (m.set a o):=fun b o' e=>(MH.ae m o fun q=>by rw [q,h] at e;exact a8 e).trans e
section
variable {c:Cfg} {d:Nat} {m:MH} {Q:VQ} {a:Addr} {C x:Str} {fs:List (Str×Val)} {vs:List Val} {p q:Prop} {b:Bool}
theorem dj (e:b=true) (h:p):br b p q:=by subst e;exact h
theorem cI (e:b=false) (h:q):br b p q:=by subst e;exact h
theorem bc (e:m a=some (.inst C fs)) (n:fs.lookup x=none) (ok:B8 c C x=true) (k:cb c d C x (.ref a::vs) m Q):ak c m (fun k=>ar c d k x (.ref a) vs m Q) x (.ref a):=.inst e n ok k
theorem cJ {n:Nat} (h:n<1000):n<bw:=Nat.lt_trans h (by decide)
theorem fU {n:Nat} (h:n<bw):(n:Int)<bw:=Int.ofNat_lt.mpr h
theorem xA {l:List Val} (e:m a=some (.list l)) (h:l.length<bw) (q:Q (.int l.length) m):eX m Q "len" [.ref a]:=.len (.seq (.list e) h q)
theorem pL {l:List Val} {i:Nat} {v:Val} (e:m a=some (.list l)) (h:i<bw) (g:l[i]? =some v) (q:Q v m):ay m Q (.ref a) (.int i):=.seq (.list e) (Int.natCast_nonneg i) (fU h) g q
end
structure aG where
 kind:Str
 name:Str
 uri:Str
 loc:Str
 value:Str
 parent:Val
 children:List Nat
 attrs:List Nat
noncomputable def aB (l:List Nat):List Val:=l.map fun (n:Nat)=>Val.int (n:Int)
noncomputable def BA (r:aG) (ch at' ns:Addr):List (Str×Val):=[("kind",.str r.kind),("name",.str r.name),("uri",.str r.uri),("local",.str r.loc),("value",.str r.value),("parent",r.parent),
 ("children",.ref ch),("attributes",.ref at'),("namespaces",.ref ns)]
structure RowA (mh:MH) (a ch at' ns:Addr) (r:aG):Prop where
 me:mh a=some (.inst "NodeRow" (BA r ch at' ns))
 ch:mh ch=some (.list (aB r.children))
 at':mh at'=some (.list (aB r.attrs))
 lc:r.children.length<1000
 la:r.attrs.length<1000
def GA (mh:MH) (a:Addr) (r:aG):Prop:=∃ch at' ns,RowA mh a ch at' ns r
structure W9 (mh:MH) (t L:Addr) (as:List Addr) (rows:List aG):Prop where
 me:mh t=some (.inst "Tree" [("rows",.ref L)])
 ls:mh L=some (.list (as.map Val.ref))
 len:as.length=rows.length
 lt:rows.length<1000
 row:∀{i:Nat} {r:aG},rows[i]? =some r→∃a:Addr,as[i]? =some a∧GA mh a r
def bq (mh:MH) (t:Addr) (rows:List aG):Prop:=∃L as,W9 mh t L as rows
theorem GA.mono {m m':MH} (k:MH.Le m m') {a:Addr} {r:aG}:GA m a r→GA m' a r:=(by rintro ⟨ch,at',ns,h⟩;exact ⟨ch,at',ns,k _ _ h.me,k _ _ h.ch,k _ _ h.at',h.lc,h.la⟩)
theorem bq.mono {m m':MH} (k:MH.Le m m') {t:Addr} {rows:List aG}:bq m t rows→bq m' t rows:=
 (by rintro ⟨L,as,T⟩;exact ⟨L,as,k _ _ T.me,k _ _ T.ls,T.len,T.lt,fun e=>(by obtain ⟨a,x,y⟩:=T.row e;exact ⟨a,x,y.mono k⟩)⟩)
section
variable {c:Cfg} {D:Nat} {mh:MH} {Q:VQ} {t:Addr} {rows:List aG} {i:Nat} {r:aG}
theorem Ob (F:cp c) (hD:0<D) {L a:Addr} {as:List Addr} (me:mh t=some (.inst "Tree" [("rows",.ref L)])) (ls:mh L=some (.list (as.map Val.ref))) (lt:as.length<1000) (ha:as[i]? =some a) (h:Q (.ref a) mh):cb c D "Tree" "row" [.ref t,.int (i:Int)] mh Q:=by
 have uX:=(List.getElem?_eq_some_iff.mp ha).1
 have hl:(as.map Val.ref).length=as.length:=List.length_map ..
 exact (F.m 29).has.go F hD rfl Io (PZ.int (dj (decide_eq_true (Int.natCast_nonneg i)) (ao.mk me rfl rfl (xA ls (hl▸cJ lt)
  (PY.mk (cI (by rw [hl];exact (congrArg (!·) (decide_eq_true (Int.ofNat_lt.mpr uX)))) (ao.mk me rfl rfl (pL ls (cJ (Nat.lt_trans uX lt)) (by rw [List.getElem?_map,ha];rfl) h))))))))
theorem s_row (F:cp c) (hD:0<D) (T:bq mh t rows) (hi:rows[i]? =some r) (h:∀a,GA mh a r→Q (.ref a) mh):cb c D "Tree" "row" [.ref t,.int (i:Int)] mh Q:=by
 obtain ⟨L,as,T⟩:=T
 obtain ⟨a,ha,hr⟩:=T.row hi
 exact Ob F hD T.me T.ls (T.len▸T.lt) ha (h a hr)
theorem Eo {x:Str} {v:Val} {S:Stmt} (F:cp c) (hD:1<D) (T:bq mh t rows) (hi:rows[i]? =some r) (hv:∀ch at' ns,(BA r ch at' ns).lookup x=some v) (hx:(fW "NodeRow").contains x=true) (M:CG c "Tree" x S)
 (e:bf c 1 S [.ref t,.int (i:Int)] mh Q=(ak c mh (fun k1=>ar c 1 k1 "row" (.ref t) [.int (i:Int)] mh (fun x3 m=>ao m Q x3 x)) "row" (.ref t))) (hl:(FQ S).length=2) (h:Q v mh):
 cb c D "Tree" x [.ref t,.int (i:Int)] mh Q:=
 M.has.go F hD hl e (bc T.choose_spec.choose_spec.me rfl (F.m 29).ok (s_row F (by decide) T hi (by rintro a ⟨ch,at',ns,R⟩;exact ao.mk R.me hx (hv ..) h)))
theorem sv (F:cp c) (hD:1<D) (T:bq mh t rows) (hi:rows[i]? =some r) (h:Q (.str r.kind) mh):cb c D "Tree" "kind" [.ref t,.int (i:Int)] mh Q:=Eo F hD T hi (fun zz zz zz=>rfl) rfl (F.m 37) Gy rfl h
theorem eD (F:cp c) (hD:1<D) (T:bq mh t rows) (hi:rows[i]? =some r) (h:Q (.str r.name) mh):cb c D "Tree" "name" [.ref t,.int (i:Int)] mh Q:=Eo F hD T hi (fun zz zz zz=>rfl) rfl (F.m 38) Gz rfl h
theorem mv (F:cp c) (hD:1<D) (T:bq mh t rows) (hi:rows[i]? =some r) (h:Q (.str r.value) mh):cb c D "Tree" "value" [.ref t,.int (i:Int)] mh Q:=Eo F hD T hi (fun zz zz zz=>rfl) rfl (F.m 39) En rfl h
theorem Rv {l:List Nat} (h:l.length<1000):(aB l).length<bw:=by rw [aB,List.length_map];exact cJ h
theorem d5 (F:cp c) (hD:1<D) (T:bq mh t rows) (hi:rows[i]? =some r) (h:aH mh (.list (aB r.children)) Q):cb c D "Tree" "children" [.ref t,.int (i:Int)] mh Q:=
 (F.m 40).has.go F hD rfl xy (bc T.choose_spec.choose_spec.me rfl (F.m 29).ok (s_row F (by decide) T hi (by rintro a ⟨ch,at',ns,R⟩;exact ao.mk R.me rfl rfl (.list (.list R.ch) (Rv R.lc) h))))
theorem dK (F:cp c) (hD:1<D) (T:bq mh t rows) (hi:rows[i]? =some r) (h:aH mh (.list (aB r.attrs)) Q):cb c D "Tree" "attributes" [.ref t,.int (i:Int)] mh Q:=
 (F.m 41).has.go F hD rfl uj (bc T.choose_spec.choose_spec.me rfl (F.m 29).ok (s_row F (by decide) T hi (by rintro a ⟨ch,at',ns,R⟩;exact ao.mk R.me rfl rfl (.list (.list R.at') (Rv R.la) h))))
end
theorem SM {α:Type} {g e:α→Val} {f:α→Bool} {l:List α} {acc0:List Val} (J:MH→Prop) {turn:Val→List Val→MH→(List Val→MH→Prop)→Prop} {src:Val} {full:List Val} {st:Option MO} {m:MH} {Q:List Val→MH→Prop}
 (hj:J m) (hw:∀m,J m→Walk m src full st) (hf:full=l.map g) (hl:acc0.length+l.length<bw) (ht:∀x∈l,∀(acc:List Val) m (K:List Val→MH→Prop),J m→acc.length<bw→(∀m',J m'→K (bif f x then acc++[e x] else acc) m')→turn (g x) acc m K)
 (he:∀m,J m→Q (acc0++(l.filter f).map e) m):cw turn src acc0 m Q:=by
 subst hf
 refine ⟨l.map g,st,?_⟩
 suffices ∀(k:List α) (acc:List Val) m,(∀x∈k,x∈l)→acc.length+k.length≤acc0.length+l.length→J m→(∀m,J m→Q (acc++(k.filter f).map e) m)→i4 (fun m=>Walk m src (l.map g) st) turn (k.map g) acc m Q from this l acc0 m (fun zz h=>h) (Nat.le_refl _) hj he
 intro k
 induction k with
 | nil=>exact fun acc m zz zz j h=>⟨hw m j,List.append_nil acc▸h m j⟩
 | cons x k ih=>
   intro acc m hk hn j h
   have hn:acc.length+(k.length+1)≤acc0.length+l.length:=hn
   refine ⟨hw m j,ht x (hk x (List.mem_cons_self ..)) acc m _ j (Nat.lt_of_lt_of_le (Nat.lt_add_of_pos_right (Nat.succ_pos _)) (Nat.le_trans hn (Nat.le_of_lt hl))) fun m' j'=>ih _ m' (fun y hy=>hk y (List.mem_cons_of_mem _ hy)) ?_ j' ?_⟩
   ·cases f x with
    | true=>rw [cond_true,List.length_append];exact Nat.le_trans (Nat.le_of_eq (Nat.add_right_comm ..)) hn
    | false=>exact Nat.le_trans (Nat.add_le_add_left (Nat.le_succ _) _) hn
   ·cases c:f x with
    | true=>rw [List.filter_cons_of_pos c] at h;rw [cond_true,List.append_assoc];exact h
    | false=>rw [List.filter_cons_of_neg (by rw [c];decide)] at h;exact h
theorem Oc {α:Type} {g e:α→Val} {f:α→Bool} {l:List α} (J:MH→Prop) {turn:Val→List Val→MH→(List Val→MH→Prop)→Prop} {src:Val} {full:List Val} {st:Option MO} {m:MH} {Q:List Val→MH→Prop}
 (hj:J m) (hw:∀m,J m→Walk m src full st) (hf:full=l.map g) (hl:l.length<bw) (ht:∀x∈l,∀(acc:List Val) m (K:List Val→MH→Prop),J m→acc.length<bw→(∀m',J m'→K (bif f x then acc++[e x] else acc) m')→turn (g x) acc m K)
 (he:∀m,J m→Q ((l.filter f).map e) m):cw turn src [] m Q:=SM (acc0:=[]) J hj hw hf (Nat.lt_of_le_of_lt (Nat.le_of_eq (Nat.zero_add _)) hl) ht he
theorem dx {α:Type} {g e:α→Val} {f:α→Bool} {l:List α} {turn:Val→List Val→MH→(List Val→MH→Prop)→Prop} {src:Val} {full:List Val} {st:Option MO} {m:MH} {Q:List Val→MH→Prop}
 (hw:Walk m src full st) (hf:full=l.map g) (hl:l.length<bw) (ht:∀x∈l,∀(acc:List Val) (K:List Val→MH→Prop),acc.length<bw→K (bif f x then acc++[e x] else acc) m→turn (g x) acc m K)
 (he:Q ((l.filter f).map e) m):cw turn src [] m Q:=
 Oc (·=m) rfl (fun zz j=>j▸hw) hf hl (fun x hx acc m' K j ha hK=>by subst j;exact ht x hx acc K ha (hK _ rfl)) fun zz j=>j▸he
theorem cY {β γ:Type} (g:β→γ) (x:Str):∀(l:List (Str×β)),(l.map fun p=>(p.1,g p.2)).lookup x=(l.lookup x).map g
 | []=>rfl
 | (y,b)::l=>by
   rw [List.map_cons,List.lookup_cons,List.lookup_cons,cY g x l]
   cases x == y<;>rfl
theorem lookup_mem {β:Type} {p:Str×β}:∀{l:List (Str×β)},(l.map (·.1)).Nodup→p∈l→l.lookup p.1=some p.2
 | (y,b)::l,h,hp=>by
   rw [List.map_cons,List.nodup_cons] at h
   rw [List.lookup_cons]
   rcases List.mem_cons.mp hp with rfl | hp
   ·rw [beq_self_eq_true]
   ·rw [beq_eq_false_iff_ne.mpr fun (q:p.1=y)=>h.1 (q▸List.mem_map_of_mem (f:=(·.1)) hp)];exact lookup_mem h.2 hp
theorem of_lookup {β:Type} {x:Str} {b:β} {l:List (Str×β)} (h:l.lookup x=some b):(x,b)∈l:=mem_of_lookup h
structure dB where
 kind:Str
 eN:List Str
 mode:Str
 value:Val
noncomputable def UN (r:dB):List (Str×Val):=[("kind",.str r.kind),("choices",.tup (aw r.eN)),("mode",.str r.mode),("value",r.value)]
def sx (mh:MH) (a:Addr) (r:dB):Prop:=mh a=some (.inst "AttributeRule" (UN r))
noncomputable abbrev RL:=List (Str×dB×Addr)
structure UO (mh:MH) (a:Addr) (l:RL) (ep:Nat):Prop where
 me:mh a=some (.ax (l.map fun p=>(p.1,.ref p.2.2)) ep)
 ru:∀p∈l,sx mh p.2.2 p.2.1
 nd:(l.map (·.1)).Nodup
 lt:l.length<1000
def eg (mh:MH) (a:Addr) (rs:List (Str×dB)):Prop:=∃l ep,UO mh a l ep∧rs=l.map fun p=>(p.1,p.2.1)
structure cv where
 root:Str
 jw:List (Str×Val)
 rules:Str→List (Str×dB)
def JC (mh:MH) (as:List (Str×Val)) (rs:List (Str×dB)) (x:Str):Prop:=(as.lookup x=none∧rs=[])∨∃q,as.lookup x=some (.ref q)∧eg mh q rs
structure DtdA (mh:MH) (d:Addr) (D:cv) (e a n:Addr) (ep ap:Nat) (as:List (Str×Val)):Prop where
 me:mh d=some (.inst "Dtd" [("root",.str D.root),("elements",.ref e),("attributes",.ref a),("notations",.ref n)])
 el:mh e=some (.ax D.jw ep)
 at':mh a=some (.ax as ap)
 ru:∀x,JC mh as (D.rules x) x
def ew (mh:MH) (d:Addr) (D:cv):Prop:=∃e a n ep ap as,DtdA mh d D e a n ep ap as
def NLK (m m':MH):Prop:=∀{a o},(∀l,o≠ .list l)→m a=some o→m' a=some o
theorem MH.Le.PS {m m':MH} (k:MH.Le m m'):NLK m m':=fun zz e=>k _ _ e
theorem eg.keep {m m':MH} {a rs} (k:∀{o},m a=some o→m' a=some o) (ki:∀{x C fs},m x=some (.inst C fs)→m' x=some (.inst C fs)):eg m a rs→eg m' a rs:=(by rintro ⟨l,ep,h,e⟩;exact ⟨l,ep,⟨k h.me,fun p hp=>ki (h.ru p hp),h.nd,h.lt⟩,e⟩)
theorem eg.PS {m m':MH} (k:NLK m m') {a rs} (h:eg m a rs):eg m' a rs:=
 let ⟨z1,z2,h',z3⟩:=h
 h.keep (fun e=>k (fun zz q=>by rw [h'.me,q] at e;cases e) e) (k fun zz q=>nomatch q)
theorem eg.mono {m m':MH} (k:MH.Le m m') {a rs}:eg m a rs→eg m' a rs:=eg.PS k.PS
theorem ew.PS {m m':MH} (k:NLK m m') {d D}:ew m d D→ew m' d D:=(by rintro ⟨e,a,n,ep,ap,as,h⟩;exact ⟨e,a,n,ep,ap,as,k (fun zz q=>nomatch q) h.me,k (fun zz q=>nomatch q) h.el,k (fun zz q=>nomatch q) h.at',fun x=>(h.ru x).imp id (by rintro ⟨q,e,r⟩;exact ⟨q,e,r.PS k⟩)⟩)
theorem ew.mono {m m':MH} (k:MH.Le m m') {d D}:ew m d D→ew m' d D:=ew.PS k.PS
noncomputable def cv.rule (V:cv) (x y:Str):Option dB:=(V.rules x).lookup y
section
variable {c:Cfg} {D:Nat} {mh:MH} {Q:VQ} {d:Addr} {V:cv} {x:Str}
theorem Rw {d:Nat} {a:Addr} {es:List (Str×Val)} {ep:Nat} (e:mh a=some (.ax es ep)) (h:Q ((es.lookup x).getD .none) mh):ak c mh (fun k=>ar c d k "get" (.ref a) [.str x] mh Q) "get" (.ref a):=.ax e (jm.one (.str e) h)
theorem Rx (F:cp c) (hD:0<D) (T:ew mh d V) (h:Q ((V.jw.lookup x).getD .none) mh):cb c D "Dtd" "model" [.ref d,.str x] mh Q:=by
 obtain ⟨e,a,n,ep,ap,l,T⟩:=T
 exact (F.m 21).has.go F hD rfl Gw (ao.mk T.me rfl rfl (Rw T.el h))
theorem Ep (F:cp c) (hD:0<D) (T:ew mh d V) (h:∀a aD,MH.Le mh aD→eg aD a (V.rules x)→Q (.ref a) aD):cb c D "Dtd" "rules" [.ref d,.str x] mh Q:=by
 obtain ⟨e,a,n,ep,ap,l,T⟩:=T
 refine (F.m 22).has.go F hD rfl Gx (ao.mk T.me rfl rfl (.ax T.at' (dE.mk rfl fun ep0 zz b hb=>?_)))
 have hle:MH.Le mh (mh.set b (.ax [] ep0)):=MH.Le.set hb
 refine jm.two (.str (hle _ _ T.at')) ?_
 rcases T.ru x with ⟨e1,e2⟩ | ⟨q,e1,R⟩
 ·rw [e1];exact h b _ hle (e2▸⟨[],ep0,⟨MH.set_same ..,fun zz h=>(nomatch h),List.nodup_nil,by decide⟩,rfl⟩)
 ·rw [e1];exact h q _ hle (R.mono hle)
theorem Oe (F:cp c) (hD:1<D) (T:ew mh d V) {y:Str} (h:∀v aD,MH.Le mh aD→((V.rule x y=none∧v= .none)∨∃a r,V.rule x y=some r∧v= .ref a∧sx aD a r)→Q v aD):cb c D "Dtd" "rule" [.ref d,.str x,.str y] mh Q:=by
 have me:=T.choose_spec.choose_spec.choose_spec.choose_spec.choose_spec.choose_spec.me
 refine (F.m 23).has.go F hD rfl Im (bc me rfl (F.m 22).ok (Ep F (by decide) T fun a aD hle ⟨l,ep,R,e⟩=>Rw R.me (h _ _ hle ?_)))
 have hv:V.rule x y=(l.lookup y).map (·.1):=by unfold cv.rule;rw [e,cY fun q:dB×Addr=>q.1]
 rw [cY fun q:dB×Addr=>Val.ref q.2,hv]
 cases hl:l.lookup y with
 | none=>exact .inl ⟨rfl,rfl⟩
 | some q=>exact .inr ⟨q.2,q.1,rfl,rfl,R.ru _ (of_lookup hl)⟩
theorem xB (F:cp c) (hD:1<D) (T:ew mh d V) {k:Str} (h:∀b aD,MH.Le mh aD→aD b=some (.list (aw (((V.rules x).filter fun p=>p.2.kind=k).map (·.1))))→Q (.ref b) aD):cb c D "Dtd" "names_of_kind" [.ref d,.str x,.str k] mh Q:=by
 have me:=T.choose_spec.choose_spec.choose_spec.choose_spec.choose_spec.choose_spec.me
 refine (F.m 24).has.go F hD rfl qB (bc me rfl (F.m 22).ok (Ep F (by decide) T fun a aD hle ⟨l,ep,R,e⟩=>?_))
 refine dx (l:=l) (g:=fun p=>.str p.1) (e:=fun p=>.str p.1) (f:=fun p=>decide (p.2.1.kind=k)) (.ax R.me) (List.map_map ..) (cJ R.lt) (fun p hp acc K hn hK=>?_) fun b hb=>h b _ (hle.trans (.set hb)) ?_
 ·refine .ax R.me (by rw [cY fun q:dB×Addr=>Val.ref q.2,lookup_mem R.nd hp];rfl) (ao.mk (R.ru p hp) rfl rfl (cM.str ?_))
  cases hb:decide (p.2.1.kind=k) with
  | true=>rw [hb] at hK;exact ⟨hn,hK⟩
  | false=>rw [hb] at hK;exact hK
 ·rw [MH.set_same,e,List.filter_map,List.map_map,aw,List.map_map];rfl
noncomputable def cv.vW (V:cv) (x:Str):Option Str:=(((V.rules x).filter fun p=>p.2.kind=("ID":Str)).map (·.1)).head?
noncomputable def Ry:Option Str→Val
 | none=>.none
 | some s=>.str s
theorem L0 (F:cp c) (hD:2<D) (T:ew mh d V) (h:∀aD,MH.Le mh aD→Q (Ry (V.vW x)) aD):cb c D "Dtd" "id_name" [.ref d,.str x] mh Q:=by
 have me:=T.choose_spec.choose_spec.choose_spec.choose_spec.choose_spec.choose_spec.me
 refine (F.m 25).has.go F hD rfl AR (bc me rfl (F.m 24).ok (xB F (by decide) T fun b aD hle hb a ha=>?_))
 have c8:MH.Le mh (aD.set a (.list [])):=hle.trans (.set ha)
 have hb:=(MH.Le.set (o:=.list []) ha) _ _ hb
 refine cM.nil hb (MH.set_same ..) ?_
 unfold cv.vW at h
 cases hl:((V.rules x).filter fun p=>p.2.kind=("ID":Str)).map (·.1) with
 | nil=>rw [hl] at h;exact h _ c8
 | cons y r=>rw [hl] at h hb;exact pL (i:=0) hb (by decide) rfl (h _ c8)
end
theorem vX {b r:Bool} {P:Bool→Prop} {rest:Prop} (h:P (b || r)) (k:P r→rest):jF (fun b=>br b (P true) rest) (.bool b):=.mk (by cases b;exact k h;exact h)
theorem Of {b r:Bool} {P:Bool→Prop} {rest:Prop} (h:P (b&&r)) (k:P r→rest):br b rest (P false):=by cases b;exact h;exact k h
theorem JD {b r:Bool} {P:Bool→Prop} {rest:Prop} (h:P (b&&r)) (k:P r→rest):jF (fun b=>br b rest (P false)) (.bool b):=.mk (Of h k)
theorem Og {b r:Bool} {P:Bool→Prop} {rest:Prop} (h:P (b&&r)) (k:b=true→P r→rest):jF (fun b=>br b rest (P false)) (.bool b):=.mk (by cases b;exact h;exact k rfl h)
theorem Rz {s:Str} (h:s.cps.toList=[]):s="":=by
 obtain ⟨a⟩:=s
 obtain rfl:=(Array.toList_eq_nil_iff.mp h:a=#[])
 rfl
noncomputable def spS:Str:=" \t\n\r"
noncomputable def um (x:Str):Bool:=PySem.Txt.contains spS x&& !decide (x="")
noncomputable def GB (a x b:Str):Bool:=(!decide (x.cps.toList<a.cps.toList))&&(!decide (b.cps.toList<x.cps.toList))
theorem btw {a x z:Str} {G:Bool→Prop} (k:G (GB a x z)):PZ (fun b=>br b (PZ (fun b'=>G b') (.str x) (.str z)) (G false)) (.str a) (.str x):=.str (Of k fun k=>.str k)
noncomputable def zB (x:Str):Bool:=GB "a" x "z" || (GB "A" x "Z" || (decide (x="_") || decide (x=":")))
noncomputable def xS (x:Str):Bool:=zB x || (GB "0" x "9" || (decide (x="-") || decide (x=".")))
def ascii (s:Str):Prop:=∀n∈s.cps.toList,n<128
noncomputable def signOf (n:Nat):Str:=⟨#[n]⟩
noncomputable def signs (s:Str):List Str:=s.cps.toList.map signOf
noncomputable def Er (s:Str):Bool:=(signs s).all xS&& !decide (s="")
noncomputable def JE (s:Str):Bool:=!decide (s="")&&(match signs s with
 | []=>false
 | x::_=>zB x&&Er s)
noncomputable def iq (s:Str):Bool:=(signs s).all um
theorem Oh {α:Type} {g:α→Val} {l:List α} {p:α→Bool} {turn:Val→St→MH→aE→Prop} {src:Val} {full:List Val} {st:Option MO} {vs:St} {m:MH} {Q:aE} (H:St→Prop) (hw:Walk m src full st) (hf:full=l.map g)
 (ht:∀x∈l,∀vs K,H vs→(∀mD,H mD→br (!p x) (K (some (.bool false)) mD m) (K none mD m))→turn (g x) vs m K) (hi:H vs) (h:∀vs,H vs→Q (bif l.all p then none else some (.bool false)) vs m):dc turn src vs m Q:=by
 subst hf
 refine ⟨l.map g,st,?_⟩
 suffices ∀(k:List α) (vs:St),(∀x∈k,x∈l)→H vs→(∀vs,H vs→Q (bif k.all p then none else some (.bool false)) vs m)→E8 (fun m=>Walk m src (l.map g) st) turn (k.map g) vs m Q from this l vs (fun zz h=>h) hi h
 intro k
 induction k with
 | nil=>exact fun vs zz hv h=>⟨hw,h vs hv⟩
 | cons x k ih=>
   intro vs hk hv h
   refine ⟨hw,ht x (hk x (List.mem_cons_self ..)) vs _ hv fun mD Yf=>?_⟩
   have h:∀vs,H vs→Q (bif p x&&k.all p then none else some (.bool false)) vs m:=h
   cases hp:p x with
   | true=>rw [hp] at h;exact ih mD (fun y hy=>hk y (List.mem_cons_of_mem _ hy)) Yf h
   | false=>rw [hp] at h;exact h mD Yf
section
variable {c:Cfg} {D:Nat} {mh:MH} {Q:VQ} {x s:Str} {k:Nat}
theorem wM (F:cp c) (hD:0<D) (h:Q (.bool (um x)) mh):aq c D "is_space" [.str x] mh Q:=
 (F.f 0).has.go F hD rfl K3 (fX (F.g 0) (mJ.ss (JD (P:=fun b=>Q (.bool b) mh) h fun h=>cM.str h)))
theorem sy (F:cp c) (hD:0<D) (h:Q (.bool (GB "a" x "z")) mh):aq c D "is_small_letter" [.str x] mh Q:=
 (F.f 1).has.go F hD rfl u6 (btw (G:=fun b=>Q (.bool b) mh) h)
theorem ordS {d:Nat} (h:Q (.int (k:Int)) mh):eX mh Q "ord" [.str (signOf k)]:=.ord rfl h
theorem SN (hk:k<128):decide ((k:Int)<128)=true:=decide_eq_true (Int.ofNat_lt.mpr hk)
theorem kg (F:cp c) (hD:1<D) (hk:k<128) (h:Q (.bool (zB (signOf k))) mh):aq c D "is_name_start" [.str (signOf k)] mh Q:=
 (F.f 2).has.go F hD rfl yH (.ord rfl (fX (F.g 4) (PY.mk (dj (SN hk) ⟨(F.f 1).ok,sy F (by decide) (vX (P:=fun b=>Q (.bool b) mh) h fun h=>
  btw (G:=fun b=>jF _ (.bool b)) (vX (P:=fun b=>Q (.bool b) mh) h fun h=>cM.str (vX (P:=fun b=>Q (.bool b) mh) h fun h=>cM.str h)))⟩))))
theorem xC (F:cp c) (hD:2<D) (hk:k<128) (h:Q (.bool (xS (signOf k))) mh):aq c D "is_name_char" [.str (signOf k)] mh Q:=
 (F.f 3).has.go F hD rfl Ae ⟨(F.f 2).ok,kg F (by decide) hk (vX (P:=fun b=>Q (.bool b) mh) h fun h=>.ord rfl (fX (F.g 4) (PY.mk (dj (SN hk)
  (btw (G:=fun b=>jF _ (.bool b)) (vX (P:=fun b=>Q (.bool b) mh) h fun h=>cM.str (vX (P:=fun b=>Q (.bool b) mh) h fun h=>cM.str h)))))))⟩
theorem BB (p:Str→Bool):(signs s).all p=s.cps.toList.all fun n=>p (signOf n):=List.all_map ..
theorem qR (F:cp c) (hD:3<D) (hs:ascii s) (h:Q (.bool (Er s)) mh):aq c D "is_nmtoken" [.str s] mh Q:=by
 refine (F.f 4).has.go F hD rfl FU (Oh (p:=fun n=>xS (signOf n)) (fun vs=>∃j,vs=[some (.str s),j]) .str rfl ?_ ⟨none,rfl⟩ ?_)
 ·rintro n hn _ K ⟨j,rfl⟩ hK
  exact yI.mpr ⟨(F.f 3).ok,xC F (by decide) (hs n hn) (.mk (hK _ ⟨_,rfl⟩))⟩
 ·rintro _ ⟨j,rfl⟩
  unfold Er at h
  rw [BB] at h
  cases ha:s.cps.toList.all fun n=>xS (signOf n) with
  | true=>rw [ha] at h;exact yJ.mpr (cM.str h)
  | false=>rw [ha] at h;exact h
theorem GC (F:cp c) (hD:1<D) (h:Q (.bool (iq s)) mh):aq c D "is_blank" [.str s] mh Q:=by
 refine (F.f 8).has.go F hD rfl K4 (Oh (p:=fun n=>um (signOf n)) (fun vs=>∃j,vs=[some (.str s),j]) .str rfl ?_ ⟨none,rfl⟩ ?_)
 ·rintro n hn _ K ⟨j,rfl⟩ hK
  exact CJ.mpr ⟨(F.f 0).ok,wM F (by decide) (.mk (hK _ ⟨_,rfl⟩))⟩
 ·rintro _ ⟨j,rfl⟩
  unfold iq at h
  rw [BB] at h
  cases ha:s.cps.toList.all fun n=>um (signOf n) with
  | true=>rw [ha] at h;exact CL.mpr h
  | false=>rw [ha] at h;exact h
theorem Ip (F:cp c) (hD:4<D) (hs:ascii s) (h:Q (.bool (JE s)) mh):aq c D "is_name" [.str s] mh Q:=by
 refine (F.f 5).has.go F hD rfl NB (cM.str (Og (P:=fun b=>Q (.bool b) mh) h fun hb h=>?_))
 cases hn:s.cps.toList with
 | nil=>rw [Rz hn] at hb;exact absurd hb (by decide)
 | cons n ns=>
   unfold signs at h
   rw [hn] at h
   exact ⟨(F.f 2).ok,.str (Int.le_refl 0) (by decide) (by rw [←Array.getElem?_toList,hn];rfl) (kg F (by decide) (hs n (by rw [hn];exact List.mem_cons_self ..)) (JD (P:=fun b=>Q (.bool b) mh) h fun h=>⟨(F.f 4).ok,qR F (by decide) hs h⟩))⟩
end
theorem forL {α:Type} {g:α→Val} {l:List α} (I:List α→St→MH→Prop) {turn:Val→St→MH→aE→Prop} {src:Val} {full:List Val} {st:Option MO} {vs:St} {m:MH} {Q:aE} (hf:full=l.map g) (hw:∀pre vs m,I pre vs m→Walk m src full st)
 (ht:∀pre x d9 vs m (K:aE),l=pre++x::d9→I pre vs m→(∀mD m',I (pre++[x]) mD m'→K none mD m')→(∀v mD m',Q (some v) mD m'→K (some v) mD m')→turn (g x) vs m K)
 (hi:I [] vs m) (he:∀vs m,I l vs m→Q none vs m):dc turn src vs m Q:=by
 subst hf
 refine ⟨l.map g,st,?_⟩
 suffices ∀(d9 pre:List α) (vs:St) (m:MH),l=pre++d9→I pre vs m→E8 (fun m=>Walk m src (l.map g) st) turn (d9.map g) vs m Q from this l [] vs m rfl hi
 intro d9
 induction d9 with
 | nil=>intro pre vs m e h;rw [List.append_nil] at e;exact ⟨hw _ _ _ h,he _ _ (e▸h)⟩
 | cons x d9 ih=>exact fun pre vs m e h=>⟨hw _ _ _ h,ht pre x d9 vs m _ e h (fun mD m' h'=>ih (pre++[x]) mD m' (e.trans (List.append_cons ..)) h') fun v mD m' q=>q⟩
noncomputable def UP (s:Str) (b i:Nat):Str:=uO s (b:Int) (i:Int)
noncomputable def sgn (s:Str) (i:Nat):Str:=signOf (s.cps[i]?.getD 0)
noncomputable def gu (s:Str) (q:Nat×List Str) (i:Nat):Nat×List Str:=
 bif decide (i=s.length) || um (sgn s i) then (i+1,if q.1<i then q.2++[UP s q.1 i] else q.2) else q
noncomputable def mw (s:Str) (l:List Nat):Nat×List Str:=l.foldl (gu s) (0,[])
noncomputable def bS (s:Str):List Str:=(mw s (List.range (s.length+1))).2
noncomputable def SO (s:Str) (i j:Nat):Bool:=decide ((Builtin.Str.strSliceIndices (some (i:Int)) (some (j:Int)) 1 s.length).length=s.length→uO s (i:Int) (j:Int)=s)&&decide ((uO s (i:Int) (j:Int)).length<10)
noncomputable def d6 (s:Str):Bool:=s.cps.toList.all (fun n=>decide (n<128))&&(decide (s.length<10)&&(List.range (s.length+1)).all fun i=>(List.range (s.length+1)).all (SO s i))
theorem d6.asc {s:Str} (h:d6 s=true):ascii s:=fun n hn=>of_decide_eq_true (List.all_eq_true.mp (aC h).1 n hn)
theorem d6.len {s:Str} (h:d6 s=true):s.length<10:=of_decide_eq_true (aC (aC h).2).1
theorem d6.cut {s:Str} (h:d6 s=true) {i j:Nat} (hi:i≤s.length) (hj:j≤s.length):SO s i j=true:=
 List.all_eq_true.mp (List.all_eq_true.mp (aC (aC h).2).2 i (List.mem_range.mpr (Nat.lt_succ_of_le hi))) j (List.mem_range.mpr (Nat.lt_succ_of_le hj))
theorem UQ {s:Str} {i:Nat} (h:i<s.length):s.cps[i]? =some (s.cps[i]?.getD 0):=by
 rw [Array.getElem?_eq_getElem (show i<s.cps.size from h)];rfl
theorem L1 {s:Str} {q:Nat×List Str} {i n:Nat} (hi:i<n) (hq:q.1≤n):(gu s q i).1≤n∧(gu s q i).2.length≤q.2.length+1:=by
 unfold gu
 cases decide (i=s.length) || um (sgn s i) with
 | false=>exact ⟨hq,Nat.le_succ _⟩
 | true=>
   refine ⟨hi,?_⟩
   show (if q.1<i then q.2++[UP s q.1 i] else q.2).length≤_
   split
   ·exact Nat.le_of_eq List.length_append
   ·exact Nat.le_succ _
theorem L3 {s:Str} (l:List Nat) {n:Nat} (h:∀i∈l,i<n):(mw s l).1≤n∧(mw s l).2.length≤l.length:=by
 suffices ∀(l:List Nat) (q:Nat×List Str),(∀i∈l,i<n)→q.1≤n→(l.foldl (gu s) q).1≤n∧(l.foldl (gu s) q).2.length≤q.2.length+l.length from
  ⟨(this l (0,[]) h (Nat.zero_le _)).1,Nat.le_trans (this l (0,[]) h (Nat.zero_le _)).2 (Nat.le_of_eq (Nat.zero_add _))⟩
 intro l
 induction l with
 | nil=>exact fun q zz h=>⟨h,Nat.le_refl _⟩
 | cons i l ih=>
   intro q h hq
   have hs:=L1 (s:=s) (h i (List.mem_cons_self ..)) hq
   have:=ih (gu s q i) (fun k hk=>h k (List.mem_cons_of_mem _ hk)) hs.1
   exact ⟨this.1,Nat.le_trans this.2 (Nat.le_trans (Nat.add_le_add_right hs.2 _) (Nat.le_of_eq (Nat.add_right_comm ..)))⟩
section
variable {c:Cfg} {d D:Nat} {mh m:MH} {Q:VQ} {s:Str} {b:Addr}
theorem MH.Le.ir {m m':MH} {a:Addr} {o:MO} (l:MH.Le m m') (h:m a=none):MH.Le m (m'.set a o):=fun b o' e=>(MH.ae m' o fun q=>by rw [q,h] at e;exact a8 e).trans (l _ _ e)
theorem je {d:Nat} {a:Addr} {l:List Val} {v:Val} (e:m a=some (.list l)) (h:l.length<bw) (q:Q .none (m.set a (.list (l++[v])))):ak c m (fun k=>ar c d k "append" (.ref a) [v] m Q) "append" (.ref a):=.list e rfl (.append e h q)
theorem L4 {Q2:aE} (hs:d6 s=true) {i bg:Nat} {fd:List Str} (hi:i≤s.length) (hg:bg≤i) (hb:mh b=none) (hl:fd.length<bw) (hle:MH.Le mh m) (hm:m b=some (.list (aw fd)))
 (k:∀m',MH.Le mh m'→m' b=some (.list (aw (if bg<i then fd++[UP s bg i] else fd)))→Q2 none [some (.str s),some (.ref b),some (.int ((i+1:Nat):Int)),some (.int (i:Int))] m'):
 fe c d (.int (i:Int)) (.int (bg:Int)) (.ref b) Q2 (.str s) m:=by
 refine PY.mk ?_
 by_cases h:bg<i
 ·rw [if_pos h] at k
  have hc:=aC (d6.cut hs (Nat.le_trans hg hi) hi)
  refine dj (decide_eq_true (Int.ofNat_lt.mpr h)) (.list hm rfl (.str (Nat.lt_trans (d6.len hs) (by decide)) (of_decide_eq_true hc.1) (Nat.lt_trans (of_decide_eq_true hc.2) (by decide)) (.append hm (by rw [aw,List.length_map];exact hl) ?_)))
  exact aY.uM (k _ (hle.ir hb) (by rw [MH.set_same,aw,aw,List.map_append];rfl))
 ·rw [if_neg h] at k
  exact cI (decide_eq_false fun q=>h (Int.ofNat_lt.mp q)) (aY.uM (k _ hle hm))
theorem fp (F:cp c) (hD:1<D) (hs:d6 s=true) (h:∀b aD,MH.Le mh aD→mh b=none→aD b=some (.list (aw (bS s)))→Q (.ref b) aD):aq c D "space_split" [.str s] mh Q:=by
 have hlen:s.length<bw:=Nat.lt_trans (d6.len hs) (by decide)
 have l1:s.length+1<bw:=Nat.lt_trans (Nat.succ_lt_succ (d6.len hs)) (by decide)
 refine (F.f 6).has.go F hD rfl CH fun b hb=>.mk (.len (.str hlen (.uM (.range (Int.natCast_nonneg (s.length+1)) (fU l1) ?_))))
 refine forL (l:=List.range (s.length+1)) (fun pre vs m=>MH.Le mh m∧(∃j,vs=[some (.str s),some (.ref b),some (.int ((mw s pre).1:Int)),j])∧m b=some (.list (aw (mw s pre).2)))
  (g:=fun (i:Nat)=>.int (i:Int)) rfl (fun zz zz zz zz=>.xG (Int.natCast_nonneg (s.length+1)) (fU l1)) ?_ ⟨.set hb,⟨none,rfl⟩,MH.set_same ..⟩ ?_
 ·rintro pre i d9 _ m K e ⟨hle,⟨j,rfl⟩,hm⟩ hK _
  have hi:i<s.length+1:=List.mem_range.mp (e▸List.mem_append_right _ (List.mem_cons_self ..))
  have hf:=L3 (s:=s) (n:=i) pre fun k hk=>by
   have:=List.pairwise_lt_range (n:=s.length+1)
   rw [e] at this
   exact (List.pairwise_append.mp this).2.2 k hk i (List.mem_cons_self ..)
  have RA:pre.length<bw:=Nat.lt_of_le_of_lt (by have:=congrArg List.length e;rw [List.length_range,List.length_append] at this;exact this▸Nat.le_add_right ..) l1
  have Yg:mw s (pre++[i])=gu s (mw s pre) i:=by unfold mw;rw [List.foldl_append];rfl
  have cut:(decide (i=s.length) || um (sgn s i))=true→fe c 1 (.int (i:Int)) (.int ((mw s pre).1:Int)) (.ref b) K (.str s) m:=fun EV=>
   L4 hs (Nat.le_of_lt_succ hi) hf.1 hb (Nat.lt_of_le_of_lt hf.2 RA) hle hm fun m' l' h'=>hK _ _ ⟨l',⟨_,by rw [Yg];unfold gu;rw [EV];rfl⟩,by rw [Yg];unfold gu;rw [EV];exact h'⟩
  refine xg.mpr (.len (.str hlen (cM.int ?_)))
  by_cases hl:i=s.length
  ·exact dj (decide_eq_true (congrArg Int.ofNat hl)) (cut (by rw [decide_eq_true hl];rfl))
  ·refine cI (decide_eq_false fun q=>hl (Int.ofNat_inj.mp q)) ⟨(F.f 0).ok,.str (Int.natCast_nonneg i) (fU (Nat.lt_of_lt_of_le hi (Nat.le_of_lt l1))) (UQ (Nat.lt_of_le_of_ne (Nat.le_of_lt_succ hi) hl)) (wM F (by decide) (.mk ?_))⟩
   show br (um (sgn s i)) _ _
   cases hsp:um (sgn s i) with
   | true=>exact cut (by rw [hsp,Bool.or_true])
   | false=>exact hK _ _ ⟨hle,⟨_,by rw [Yg];unfold gu;rw [hsp,decide_eq_false hl];rfl⟩,by rw [Yg];unfold gu;rw [hsp,decide_eq_false hl];exact hm⟩
 ·rintro _ m ⟨hle,⟨j,rfl⟩,hm⟩
  exact xh.mpr (h b m hle hb hm)
end
noncomputable def zC (l:List Str):Nat:=(l.map (·.length)).sum
noncomputable def cC (v:Str):Bool:=d6 v&&((bS v).all d6&&(decide (zC (bS v)+(bS v).length<100)&&decide ((bS v).length<10)))
noncomputable def fH (s:Str):Str:=PySem.Txt.join " " (bS s)
noncomputable def eG (k v:Str):Str:=if k="CDATA" then v else fH v
noncomputable def d7 (k v:Str):List Str:=if (["IDREFS","ENTITIES","NMTOKENS"]:List Str).contains k then bS v else [v]
noncomputable def uq (k w:Str):Bool:=if (["NMTOKEN","NMTOKENS"]:List Str).contains k then Er w else JE w
noncomputable def Oi (r:dB) (v:Str):Bool:=
 if r.kind="CDATA" then true
 else if (["enumeration","notation"]:List Str).contains r.kind then r.eN.contains v
 else !(d7 r.kind v).isEmpty&&(d7 r.kind v).all (uq r.kind)
noncomputable def Es (r:dB) (v:Str):Bool:=match r.value with
 | .str x=>!decide (v=x)
 | _=>false
noncomputable def BC (r:dB) (v:Str):Bool:=if r.mode="fixed"∧Es r v=true then false else Oi r v
structure Et (r:dB):Prop where
 fixed:r.mode="fixed"→∃x,r.value= .str x∧x.length<1000
 kl:r.kind.length<1000
 cl:zC r.eN+r.eN.length<1000
theorem cg:∀(l:List Str),fS (aw l)=some l
 | []=>rfl
 | x::l=>by rw [show fS (aw (x::l))=(fS (aw l)).map (x::·) from rfl,cg l];rfl
theorem cC.s {v:Str} (h:cC v=true):d6 v=true:=(aC h).1
theorem cC.w {v:Str} (h:cC v=true):∀w∈bS v,d6 w=true:=List.all_eq_true.mp (aC (aC h).2).1
theorem cC.l {v:Str} (h:cC v=true):zC (bS v)+(bS v).length<100:=of_decide_eq_true (aC (aC (aC h).2).2).1
theorem cC.n {v:Str} (h:cC v=true):(bS v).length<10:=of_decide_eq_true (aC (aC (aC h).2).2).2
theorem AS (k:Str) {v:Str} (h:cC v=true):∀w∈d7 k v,d6 w=true:=by
 unfold d7;split
 ·exact cC.w h
 ·exact fun w hw=>(List.mem_singleton.mp hw).symm▸cC.s h
theorem GD (a b:Str):(a++b).length=a.length+b.length:=Str.length_append a b
theorem Oj (sep:Str) (l:List Str):(PySem.Txt.join sep l).length≤(l.map (·.length)).sum+l.length * sep.length:=by
 show (PySem.Builtin.Str.glued sep l).length≤_
 rw [StrLaws.glued_eq_join];exact StrLaws.join_length_le sep l
section
variable {c:Cfg} {d D:Nat} {mh m:MH} {Q:VQ} {k s:Str}
theorem iW {x y:Str} {n k:Nat} (hx:x.length<n) (hy:y.length<k) (q:(x++y).length<n+k→Q (.str (x++y)) m) (h:n+k≤bw:=by decide):aY m Q .Add (.str x) (.str y):=
 .VX (Nat.lt_of_lt_of_le (Nat.add_lt_add hx hy) h) (q (GD x y▸Nat.add_lt_add hx hy))
theorem JF {d:Nat} {v:Val} {l:List Str} {n:Nat} (e:jE m v (aw l)) (h:zC l+l.length<n) (q:(PySem.Txt.join " " l).length<n→Q (.str (PySem.Txt.join " " l)) m) (hn:n≤bw:=by decide):uN m Q "join" " " [v]:=
 have e1:(l.map (·.length)).sum+l.length * (" ":Str).length<n:=by rw [show (" ":Str).length=1 from rfl,Nat.mul_one];exact h
 .join e (cg l) (Nat.lt_of_lt_of_le e1 hn) (q (Nat.lt_of_le_of_lt (Oj " " l) e1))
theorem Eu (F:cp c) (hD:2<D) (hs:cC s=true) (h:∀aD,MH.Le mh aD→Q (.str (fH s)) aD):aq c D "collapsed" [.str s] mh Q:=
 (F.f 7).has.go F hD rfl H3 (.str rfl ⟨(F.f 6).ok,fp F (by decide) (cC.s hs) fun b m hle hb hm=>JF (d:=0) (.list hm) (cC.l hs) fun zz=>h _ hle⟩)
theorem AU (F:cp c) (hD:3<D) (hs:cC s=true) (h:∀aD,MH.Le mh aD→Q (.str (eG k s)) aD):aq c D "normalised" [.str k,.str s] mh Q:=by
 refine (F.f 9).has.go F hD rfl FY (cM.str ?_)
 unfold eG at h
 by_cases e:k="CDATA"
 ·rw [if_pos e] at h;exact dj (decide_eq_true e) (h _ (.refl _))
 ·rw [if_neg e] at h;exact cI (decide_eq_false e) ⟨(F.f 7).ok,Eu F (by decide) hs h⟩
theorem GF (F:cp c) (hD:2<D) (hs:cC s=true) (h:∀b aD,MH.Le mh aD→aD b=some (.list (aw (d7 k s)))→Q (.ref b) aD):aq c D "words_of" [.str k,.str s] mh Q:=by
 refine (F.f 10).has.go F hD rfl K5 (fX (F.g 1) (mJ.wR (cg ["IDREFS","ENTITIES","NMTOKENS"]) ?_))
 unfold d7 at h
 cases e:(["IDREFS","ENTITIES","NMTOKENS"]:List Str).contains k with
 | true=>rw [if_pos e] at h;exact ⟨(F.f 6).ok,fp F (by decide) (cC.s hs) fun b m hle zz hm=>h b m hle hm⟩
 | false=>rw [if_neg (by rw [e];decide)] at h;exact fun b hb=>h b _ (.set hb) (MH.set_same ..)
theorem Iq (F:cp c) (hD:5<D) (hs:d6 s=true) (h:Q (.bool (uq k s)) mh):aq c D "is_word" [.str k,.str s] mh Q:=by
 refine (F.f 11).has.go F hD rfl ND (mJ.wR (cg ["NMTOKEN","NMTOKENS"]) ?_)
 unfold uq at h
 cases e:(["NMTOKEN","NMTOKENS"]:List Str).contains k with
 | true=>rw [if_pos e] at h;exact ⟨(F.f 4).ok,qR F (by decide) (d6.asc hs) h⟩
 | false=>rw [if_neg (by rw [e];decide)] at h;exact ⟨(F.f 5).ok,Ip F (by decide) (d6.asc hs) h⟩
def Told (b:Bool) (v:Val):Prop:=bif b then v= .none else ∃t,v= .str t
theorem BE (F:cp c) {r:dB} {a:Addr} (hr:sx mh a r) (ho:Et r) (hs:cC s=true) (h:∀v aD,MH.Le mh aD→Told (Oi r s) v→Q v aD):CM c 6 Q (.str s) (.ref a) mh:=by
 refine ao.mk hr rfl rfl (cM.str ?_)
 unfold Oi at h
 by_cases h2:r.kind="CDATA"
 ·rw [if_pos h2] at h;exact dj (decide_eq_true h2) (h _ _ (.refl _) rfl)
 rw [if_neg h2] at h
 refine cI (decide_eq_false h2) (ao.mk hr rfl rfl (mJ.wR (cg ["enumeration","notation"]) ?_))
 cases h3:(["enumeration","notation"]:List Str).contains r.kind with
 | true=>
   rw [if_pos h3] at h
   refine ao.mk hr rfl rfl (mJ.wR (cg _) ?_)
   cases h4:r.eN.contains s with
   | true=>rw [h4] at h;exact h _ _ (.refl _) rfl
   | false=>
     rw [h4] at h
     exact ak.str rfl (ao.mk hr rfl rfl (JF (d:=0) .tup ho.cl fun hl=>iW (n:=20) (Nat.le_of_ble_eq_true rfl) hl fun zz=>h _ _ (.refl _) ⟨_,rfl⟩))
 | false=>
   rw [if_neg (by rw [h3];decide)] at h
   refine ⟨(F.f 10).ok,ao.mk hr rfl rfl (GF F (by decide) hs fun b m hle hb b2 rq=>?_)⟩
   have c8:MH.Le mh (m.set b2 (.list [])):=hle.trans (.set rq)
   have hb:=MH.Le.set (o:=.list []) rq _ _ hb
   have hr2:=c8 _ _ hr
   refine cM.nil hb (MH.set_same ..) ?_
   rw [show (aw (d7 r.kind s)).isEmpty=(d7 r.kind s).isEmpty from by cases d7 r.kind s<;>rfl]
   cases hw:(d7 r.kind s).isEmpty with
   | true=>rw [hw] at h;exact h _ _ c8 ⟨_,rfl⟩
   | false=>
     rw [hw] at h
     refine forL (l:=d7 r.kind s) (g:=.str) (fun pre vs m'=>m'=m.set b2 (.list [])∧(∃j,vs=[some (.ref a),some (.str s),some (.ref b),j])∧pre.all (uq r.kind)=true) rfl (fun zz zz zz h=>by rw [h.1];exact .list hb) ?_ ⟨rfl,⟨none,rfl⟩,rfl⟩ ?_
     ·rintro pre w d9 _ _ K e ⟨rfl,⟨j,rfl⟩,hp⟩ hK hV
      have hg:=AS r.kind hs w (e▸List.mem_append_right _ (List.mem_cons_self ..))
      refine NG.mpr ⟨(F.f 11).ok,ao.mk hr2 rfl rfl (Iq F (by decide) hg (.mk ?_))⟩
      cases hi:uq r.kind w with
      | true=>exact hK _ _ ⟨rfl,⟨_,rfl⟩,by rw [List.all_append,hp,List.all_cons,hi];rfl⟩
      | false=>
        refine ao.mk hr2 rfl rfl (iW (n:=40) (Nat.le_of_ble_eq_true rfl) ho.kl fun h1=>iW (k:=5) h1 (Nat.le_of_ble_eq_true rfl) fun h1=>iW h1 (d6.len hg) fun zz=>hV _ _ _ ?_)
        rw [e,List.all_append,List.all_cons,hi,Bool.false_and,Bool.and_false] at h
        exact h _ _ c8 ⟨_,rfl⟩
     ·rintro _ _ ⟨rfl,⟨j,rfl⟩,hp⟩
      rw [hp] at h
      exact NH.mpr (h _ _ c8 rfl)
theorem RB (F:cp c) (hD:6<D) {r:dB} {a:Addr} (hr:sx mh a r) (ho:Et r) (hs:cC s=true) (h:∀v aD,MH.Le mh aD→Told (BC r s) v→Q v aD):aq c D "fits" [.ref a,.str s] mh Q:=by
 refine (F.f 12).has.go F hD rfl WN (ao.mk hr rfl rfl (cM.str ?_))
 unfold BC at h
 by_cases h1:r.mode="fixed"
 ·obtain ⟨x,hx,UR⟩:=ho.fixed h1
  have hf:Es r s= !decide (s=x):=by unfold Es;rw [hx]
  refine dj (decide_eq_true h1) (ao.mk hr rfl (congrArg some hx) (cM.str ?_))
  rw [hf] at h
  cases h2:decide (s=x) with
  | false=>rw [h2,if_pos ⟨h1,rfl⟩] at h;exact ao.mk hr rfl (congrArg some hx) (iW (n:=40) (Nat.le_of_ble_eq_true rfl) UR fun zz=>h _ _ (.refl _) ⟨_,rfl⟩)
  | true=>rw [h2,if_neg fun e=>Bool.false_ne_true e.2] at h;exact BE F hr ho hs h
 ·rw [if_neg fun e=>h1 e.1] at h
  exact cI (decide_eq_false h1) (BE F hr ho hs h)
end
theorem Ol {I:Nat→St→MH→Prop} {VZ:St→MH→BQ→Prop} {body:St→MH→aE→Prop} {Q:aE} (ht:∀n vs m (K:aE),I n vs m→(∀n' mD m',n'<n→I n' mD m'→K none mD m')→VZ vs m fun b m1=>match b with
 | true=>body vs m1 K
 | false=>Q none vs m1):∀{k n:Nat} {vs:St} {m:MH},n<k→I n vs m→uR VZ body k vs m Q
 | 0,_,_,_,h,_=>absurd h (Nat.not_lt_zero _)
 | _+1,_,_,_,h,hI=>ht _ _ _ _ hI fun zz zz zz hn h'=>Ol ht (Nat.lt_of_lt_of_le hn (Nat.le_of_lt_succ h)) h'
noncomputable def Om:aG:=⟨"","","","","",.none,[],[]⟩
noncomputable def ag (rows:List aG) (i:Nat):aG:=rows[i]?.getD Om
theorem aQ {rows:List aG} {i:Nat} (h:i<rows.length):rows[i]? =some (ag rows i):=by
 rw [ag,List.getElem?_eq_getElem h];rfl
noncomputable def vY {β:Type} (g:Nat→List β→β) (rows:List aG):Nat→Nat→β
 | 0,i=>g i []
 | n+1,i=>g i ((ag rows i).children.map (vY g rows n))
noncomputable def Oo {β:Type} (g:Nat→List β→β) (rows:List aG) (i:Nat):β:=vY g rows (rows.length - i) i
noncomputable def nU (rows:List aG) (i:Nat):Bool:=decide ((ag rows i).kind="element")
noncomputable def fJ (rows:List aG):Nat→List Nat:=Oo (fun i l=>(if nU rows i=true then [i] else [])++l.flatten) rows
noncomputable def GG (rows:List aG):Nat→Nat:=Oo (fun zz l=>1+l.sum) rows
structure WF (rows:List aG):Prop where
 ch:∀i,∀k∈(ag rows i).children,i<k∧k<rows.length
 leaf:∀i,0<i→(ag rows i).kind≠"element"→(ag rows i).children=[]
 Yh:∀i,∀k∈(ag rows i).attrs,i<k∧k<rows.length
 pos:0<rows.length
 cnt:GG rows 0<5000
theorem bq.Oq {mh:MH} {t:Addr} {rows:List aG} (T:bq mh t rows) {i:Nat} (h:i<rows.length):(ag rows i).children.length<1000∧(ag rows i).attrs.length<1000:=
 let ⟨z1,z2,T⟩:=T
 let ⟨z1,z2,z3,z4,z5,R⟩:=T.row (aQ h)
 ⟨R.lc,R.la⟩
theorem bt (l:List Nat):(aB l).length=l.length:=List.length_map ..
theorem BF (l:List Nat):(aB l).reverse=aB l.reverse:=List.map_reverse.symm
theorem c9 (l l':List Nat):aB l++aB l'=aB (l++l'):=List.map_append.symm
section
variable {rows:List aG} {β:Type} {g:Nat→List β→β} {i:Nat}
theorem BG (W:WF rows):∀{n m i:Nat},rows.length - i≤n→rows.length - i≤m→i<rows.length→vY g rows n i=vY g rows m i
 | 0,_,_,h1,_,h=>absurd (Nat.sub_eq_zero_iff_le.mp (Nat.le_zero.mp h1)) (Nat.not_le_of_lt h)
 | _+1,0,_,_,h2,h=>absurd (Nat.sub_eq_zero_iff_le.mp (Nat.le_zero.mp h2)) (Nat.not_le_of_lt h)
 | n+1,m+1,i,h1,h2,h=>congrArg (g i) (List.map_congr_left fun k hk=>
  have w:=W.ch i k hk
  BG W (by omega) (by omega) w.2)
theorem JG (W:WF rows) (h:i<rows.length):Oo g rows i=g i ((ag rows i).children.map (Oo g rows)):=by
 have e:rows.length - i=(rows.length - i - 1)+1:=(Nat.sub_add_cancel (Nat.sub_pos_of_lt h)).symm
 unfold Oo
 rw [e]
 exact congrArg (g i) (List.map_congr_left fun k hk=>BG W (by have:=W.ch i k hk;omega) (Nat.le_refl _) (W.ch i k hk).2)
theorem kh (W:WF rows) (h:i<rows.length):fJ rows i=(if nU rows i=true then [i] else [])++(ag rows i).children.flatMap (fJ rows):=JG W h
theorem Ew (W:WF rows) (h:i<rows.length):GG rows i=1+((ag rows i).children.map (GG rows)).sum:=JG W h
theorem Ou (W:WF rows) (h:i<rows.length):1≤GG rows i:=Ew W h▸Nat.le_add_right ..
theorem zD {f:Nat→Nat}:∀{l:List Nat},(∀x∈l,1≤f x)→l.length≤(l.map f).sum
 | [],_=>Nat.le_refl _
 | x::l,h=>by
   rw [List.map_cons,List.sum_cons,Nat.add_comm]
   exact Nat.add_le_add (zD fun y hy=>h y (List.mem_cons_of_mem _ hy)) (h x (List.mem_cons_self ..))
noncomputable def dt (rows:List aG):List Nat:=(ag rows 0).children.flatMap (fJ rows)
structure WI (rows:List aG) (mh:MH) (b b2:Addr) (n:Nat) (m:MH) (fd st:List Nat):Prop where
 le:MH.Le mh m
 Cp:m b=some (.list (aB fd))
 at2:m b2=some (.list (aB st.reverse))
 eq:fd++st.flatMap (fJ rows)=dt rows
 lt:∀i∈st,0<i∧i<rows.length
 en:n=(st.map (GG rows)).sum
 bd:fd.length+n<5000
variable {c:Cfg} {D:Nat} {mh m:MH} {Q:VQ} {t b b2:Addr}
theorem L5 (F:cp c) (W:WF rows) (T:bq mh t rows) (hb:mh b=none) (rq:mh b2=none) (ne:b≠b2) {n:Nat} {fd st:List Nat} {x:Nat} {K:aE} (I:WI rows mh b b2 n m fd (x::st))
 (hK:∀n' m' (x:Val) J1 Pz,n'<n→WI rows mh b b2 n' m' J1 Pz→K none [some (.ref t),some (.int 0),some (.ref b),some (.ref b2),some x] m'):jP c 2 (.ref b2) (.ref t) (.ref b) (.int 0) m K:=by
 obtain ⟨L,as,TA⟩:=T
 have hx:=I.lt x (List.mem_cons_self ..)
 have hn:=I.en
 rw [List.map_cons,List.sum_cons,Ew W hx.2] at hn
 have hsl:=zD (f:=GG rows) fun y hy=>Ou W (I.lt y (List.mem_cons_of_mem _ hy)).2
 have bd:=I.bd
 have hlx:=(bq.Oq ⟨L,as,TA⟩ hx.2).1
 have Wb:m b2=some (.list (aB st.reverse++[.int (x:Int)])):=by rw [I.at2,List.reverse_cons,←c9];rfl
 have eq:=I.eq
 rw [List.flatMap_cons,kh W hx.2] at eq
 have jx:MH.Le mh (m.set b2 (.list (aB st.reverse))):=I.le.ir rq
 have e1:(m.set b2 (.list (aB st.reverse))) b=some (.list (aB fd)):=(MH.ae _ _ ne).trans I.Cp
 refine ak.list Wb rfl (.pop Wb (by rw [bt,List.length_reverse];unfold bw;omega) (bc (jx _ _ TA.me) rfl (F.m 37).ok (sv F (by decide) (bq.mono jx ⟨L,as,TA⟩) (aQ hx.2) (cM.str ?_))))
 have lt':∀i∈st,0<i∧i<rows.length:=fun i h=>I.lt i (List.mem_cons_of_mem _ h)
 cases hk:nU rows x with
 | false=>
   refine cI hk (hK _ _ _ fd st (by omega) ⟨jx,e1,MH.set_same ..,?_,lt',rfl,by omega⟩)
   rw [hk,W.leaf x hx.1 (of_decide_eq_false hk)] at eq
   exact eq
 | true=>
   have c8:=jx.ir (o:=.list (aB fd++[.int (x:Int)])) hb
   refine dj hk (je e1 (by rw [bt];unfold bw;omega) (ak.list ((MH.ae _ _ ne.symm).trans (MH.set_same ..)) rfl (bc (c8 _ _ TA.me) rfl (F.m 40).ok (d5 F (by decide) (bq.mono c8 ⟨L,as,TA⟩) (aQ hx.2) fun b3 h3=>P7.mk (.rev (MH.set_same ..) (Rv hlx) fun b4 h4=>?_)))))
   have kz:=(MH.Le.set (o:=.list (aB (ag rows x).children)) h3).trans (.set (o:=.list (aB (ag rows x).children).reverse) h4)
   have f1:=kz _ _ (MH.set_same ..)
   have f2:=kz _ _ ((MH.ae _ _ ne.symm).trans (MH.set_same ..))
   rw [BF] at kz f1 f2⊢
   have ne24:b4≠b2:=fun q=>by rw [q] at h4;exact bQ ((MH.Le.set h3) _ _ ((MH.ae _ _ ne.symm).trans (MH.set_same ..))) h4
   refine nW.extend f2 (MH.set_same ..) (by rw [bt,bt,List.length_reverse,List.length_reverse];unfold bw;omega) (hK ((((ag rows x).children++st).map (GG rows)).sum) _ _ (fd++[x]) ((ag rows x).children++st) ?_ ⟨?_,?_,?_,?_,fun i hi=>?_,rfl,?_⟩)
   ·rw [List.map_append,List.sum_append];omega
   ·exact MH.Le.ir (c8.trans kz) rq
   ·rw [MH.ae _ _ ne,←c9];exact f1
   ·rw [MH.set_same,c9,List.reverse_append]
   ·rw [hk] at eq;rw [List.flatMap_append,List.append_assoc];exact eq
   ·rcases List.mem_append.mp hi with q | q
    ·exact ⟨Nat.lt_of_le_of_lt (Nat.zero_le _) (W.ch x i q).1,(W.ch x i q).2⟩
    ·exact lt' i q
   ·rw [List.map_append,List.sum_append,List.length_append];show fd.length+1+_<5000;omega
theorem fN (F:cp c) (hD:2<D) (W:WF rows) (T:bq mh t rows) (h:∀b aD,MH.Le mh aD→mh b=none→aD b=some (.list (aB (dt rows)))→Q (.ref b) aD):aq c D "walk_elements" [.ref t,.int 0] mh Q:=by
 obtain ⟨L,as,TA⟩:=T
 have hcnt:=W.cnt
 rw [Ew W W.pos] at hcnt
 refine (F.f 14).has.go F hD rfl yR fun b hb=>?_
 have jx:MH.Le mh (mh.set b (.list [])):=.set hb
 refine bc (jx _ _ TA.me) rfl (F.m 40).ok (d5 (i:=0) F (by decide) (bq.mono jx ⟨L,as,TA⟩) (aQ W.pos) fun b1 h1=>P7.mk (.rev (MH.set_same ..) (Rv (bq.Oq ⟨L,as,TA⟩ W.pos).1) fun b2 h2=>xI.mk ⟨((ag rows 0).children.map (GG rows)).sum+1,?_⟩))
 have c8:=MH.Le.set (o:=.list (aB (ag rows 0).children)) h1
 have kz:=MH.Le.set (o:=.list (aB (ag rows 0).children).reverse) h2
 have ne:b≠b2:=fun q=>by rw [←q,c8 _ _ (MH.set_same ..)] at h2;exact c5 h2
 have z2:mh b2=none:=by
  cases e:mh b2 with
  | none=>rfl
  | some o=>exact bQ ((jx.trans c8) _ _ e) h2
 refine Ol (I:=fun n vs m=>(∃j,vs=[some (.ref t),some (.int 0),some (.ref b),some (.ref b2),j])∧∃fd st,WI rows mh b b2 n m fd st) ?_ (Nat.lt_succ_self _)
  ⟨⟨none,rfl⟩,[],(ag rows 0).children,(jx.trans c8).trans kz,kz _ _ (c8 _ _ (MH.set_same ..)),by rw [←BF];exact MH.set_same ..,rfl,fun i hi=>⟨Nat.lt_of_le_of_lt (Nat.zero_le _) (W.ch 0 i hi).1,(W.ch 0 i hi).2⟩,rfl,by show 0+_<5000;omega⟩
 rintro n _ m K ⟨⟨j,rfl⟩,fd,st,I⟩ hK
 refine tq.mpr fun a ha=>cM.nil ((MH.Le.set ha) _ _ I.at2) (MH.set_same ..) ?_
 cases st with
 | nil=>
   have e:=I.eq
   rw [List.flatMap_nil,List.append_nil] at e
   exact tu.mpr (h b _ (I.le.trans (.set ha)) hb (e▸(MH.Le.set ha) _ _ I.Cp))
 | cons x st=>
   rw [show (aB (x::st).reverse).isEmpty=false from by rw [List.reverse_cons,←c9];cases aB st.reverse<;>rfl]
   exact tp.mpr (L5 F W ⟨L,as,TA⟩ hb z2 ne ⟨I.le.trans (.set ha),(MH.Le.set ha) _ _ I.Cp,(MH.Le.set ha) _ _ I.at2,I.eq,I.lt,I.en,I.bd⟩ fun n' m' x J1 Pz hn I'=>hK n' _ m' hn ⟨⟨_,rfl⟩,J1,Pz,I'⟩)
end
theorem Ex {α:Type} {g:α→Val} {l:List α} {p:α→Bool} {turn:Val→St→MH→aE→Prop} {src:Val} {full:List Val} {st:Option MO} {vs:St} {m:MH} {Q:aE} (H:St→Prop) (R:α→Val→MH→Prop) (hw:Walk m src full st) (hf:full=l.map g)
 (ht:∀x∈l,∀vs K,H vs→(p x=true→∀v mD m',R x v m'→K (some v) mD m')→(p x=false→∀mD,H mD→K none mD m)→turn (g x) vs m K) (hi:H vs)
 (h1:∀x,l.find? p=some x→∀v vs m',R x v m'→Q (some v) vs m') (h0:l.find? p=none→∀vs,H vs→Q none vs m):dc turn src vs m Q:=by
 subst hf
 refine ⟨l.map g,st,?_⟩
 suffices ∀(k:List α) (vs:St),(∀x∈k,x∈l)→k.find? p=l.find? p→H vs→E8 (fun m=>Walk m src (l.map g) st) turn (k.map g) vs m Q from this l vs (fun zz h=>h) rfl hi
 intro k
 induction k with
 | nil=>exact fun vs zz e hv=>⟨hw,h0 e.symm vs hv⟩
 | cons x k ih=>
   intro vs hk e hv
   rw [List.find?_cons] at e
   exact ⟨hw,ht x (hk x (List.mem_cons_self ..)) vs _ hv (fun hp v mD m' r=>h1 x (by rw [hp] at e;exact e.symm) v mD m' r) fun hp mD Yf=>ih mD (fun y hy=>hk y (List.mem_cons_of_mem _ hy)) (by rw [hp] at e;exact e) Yf⟩
structure WV (rows:List aG):Prop extends WF rows where
 vals:∀i,∀k∈(ag rows i).attrs,cC (ag rows k).value=true
 an:∀i,(ag rows i).attrs.length≤10
noncomputable def pM (rows:List aG):Option Nat:=(ag rows 0).children.find? (nU rows)
noncomputable def optN:Option Nat→Val
 | none=>.none
 | some n=>.int (n:Int)
noncomputable def Ey (l:List Str):Option Str:=match l with
 | [x]=>some x
 | _=>none
noncomputable def mx (rows:List aG) (x:Str) (k:Nat):Bool:=decide ((ag rows k).name=x)
noncomputable def Ov (rows:List aG) (e:Nat) (nm:Str):Option Str:=((ag rows e).attrs.find? (mx rows nm)).bind fun k=>Ey (bS (ag rows k).value)
noncomputable def qS (rows:List aG) (V:cv) (e:Nat):Option Str:=(V.vW (ag rows e).name).bind (Ov rows e)
section
variable {rows:List aG} {c:Cfg} {D:Nat} {mh:MH} {Q:VQ} {d:Addr} {V:cv} {t:Addr}
noncomputable abbrev aL (n:Nat):Val:=.int (n:Int)
theorem bq.me {mh:MH} {t:Addr} (T:bq mh t rows):∃L:Addr,mh t=some (.inst "Tree" [("rows",.ref L)]):=(by obtain ⟨L,_,T⟩:=T;exact ⟨L,T.me⟩)
theorem Ez (F:cp c) (hD:2<D) (W:WF rows) (T:bq mh t rows) (h:∀aD,MH.Le mh aD→Q (optN (pM rows)) aD):aq c D "outermost" [.ref t,.int 0] mh Q:=by
 obtain ⟨L,me⟩:=T.me
 refine (F.f 19).has.go F hD rfl Ia (bc me rfl (F.m 40).ok (d5 (i:=0) F (by decide) T (aQ W.pos) fun b hb=>?_))
 have le:=MH.Le.set (o:=.list (aB (ag rows 0).children)) hb
 unfold pM at h
 refine Ex (g:=aL) (p:=nU rows) (fun vs=>∃j,vs=[some (.ref t),some (.int 0),j]) (fun x v m=>v=aL x∧MH.Le mh m) (.list (MH.set_same ..)) rfl ?_ ⟨none,rfl⟩ ?_ ?_
 ·rintro x hx _ K ⟨j,rfl⟩ hR hK
  refine Ar.mpr (bc (le _ _ me) rfl (F.m 37).ok (sv F (by decide) (T.mono le) (aQ (W.ch 0 x hx).2) (cM.str ?_)))
  cases e:nU rows x with
  | true=>exact dj e (hR e _ _ _ ⟨rfl,le⟩)
  | false=>exact cI e (hK e _ ⟨_,rfl⟩)
 ·rintro x e v vs m ⟨rfl,l'⟩
  rw [e] at h
  exact h _ l'
 ·rintro e _ ⟨j,rfl⟩
  rw [e] at h
  exact As.mpr (h _ le)
theorem Ow (F:cp c) (hD:3<D) (W:WV rows) (T:bq mh t rows) (TD:ew mh d V) {e:Nat} (Xa:e<rows.length) (h:∀aD,MH.Le mh aD→Q (Ry (qS rows V e)) aD):aq c D "id_of" [.ref t,.int (e:Int),.ref d] mh Q:=by
 obtain ⟨L,me⟩:=T.me
 obtain ⟨_,_,_,_,_,_,TA⟩:=id TD
 unfold qS at h
 refine (F.f 15).has.go F hD rfl Ud (.inst TA.me rfl (F.m 25).ok (bc me rfl (F.m 38).ok (eD F (by decide) T (aQ Xa) (L0 F (by decide) TD fun m0 hle=>?_))))
 cases hn:V.vW (ag rows e).name with
 | none=>rw [hn] at h;exact nQ.mk (h m0 hle)
 | some nm=>
   rw [hn] at h
   refine nQ.mk (bc (hle _ _ me) rfl (F.m 41).ok (dK F (by decide) (T.mono hle) (aQ Xa) fun b hb=>?_))
   have le:=hle.trans (MH.Le.set (o:=.list (aB (ag rows e).attrs)) hb)
   have h:∀aD,MH.Le mh aD→Q (Ry (Ov rows e nm)) aD:=h
   unfold Ov at h
   refine Ex (g:=aL) (p:=mx rows nm) (fun vs=>∃j1 j2,vs=[some (.ref t),some (.int (e:Int)),some (.ref d),some (.str nm),j1,j2]) (fun x v m=>v=Ry (Ey (bS (ag rows x).value))∧MH.Le mh m) (.list (MH.set_same ..)) rfl ?_ ⟨none,none,rfl⟩ ?_ ?_
   ·rintro x hx _ K ⟨j,j2,rfl⟩ hR hK
    have wx:=W.Yh e x hx
    refine K7.mpr (bc (le _ _ me) rfl (F.m 38).ok (eD F (by decide) (T.mono le) (aQ wx.2) (cM.str ?_)))
    cases e':mx rows nm x with
    | false=>exact cI e' (hK e' _ ⟨_,_,rfl⟩)
    | true=>
      have hv:=W.vals e x hx
      refine dj e' ⟨(F.f 6).ok,bc (le _ _ me) rfl (F.m 39).ok (mv F (by decide) (T.mono le) (aQ wx.2) (fp F (by decide) (cC.s hv) fun b2 m2 c8 zz VE=>xA VE (by rw [aw,List.length_map];exact Nat.lt_trans (cC.n hv) (by decide)) (cM.int ?_)))⟩
      have ret:=fun v q vs=>hR e' v vs m2 ⟨q,le.trans c8⟩
      revert VE ret
      rcases bS (ag rows x).value with _ | ⟨w,_ | ⟨w2,ws⟩⟩
      ·exact fun zz ret=>ret .none rfl _
      ·exact fun VE ret=>pL (i:=0) VE (by decide) rfl (ret _ rfl _)
      ·exact fun zz ret=>cI (decide_eq_false fun q=>Nat.succ_ne_zero _ (Nat.succ.inj (Int.ofNat_inj.mp q))) (ret .none rfl _)
   ·rintro x e' v vs m ⟨rfl,l'⟩
    rw [e'] at h
    exact h _ l'
   ·rintro e' _ ⟨j,j2,rfl⟩
    rw [e'] at h
    exact K8.mpr (h _ le)
end
theorem jy {σ α:Type} {g:α→Val} {l:List α} (V:σ→St) (I:List α→σ→MH→Prop) {turn:Val→St→MH→aE→Prop} {src:Val} {full:List Val} {st:Option MO} {vs:St} {m:MH} {Q:aE} (s0:σ) (hv:vs=V s0) (hf:full=l.map g) (hw:∀pre s m,I pre s m→Walk m src full st)
 (ht:∀pre x d9 s m (K:aE),l=pre++x::d9→I pre s m→(∀s' m',I (pre++[x]) s' m'→K none (V s') m')→(∀v mD m',Q (some v) mD m'→K (some v) mD m')→turn (g x) (V s) m K)
 (hi:I [] s0 m) (he:∀s m,I l s m→Q none (V s) m):dc turn src vs m Q:=by
 subst hv
 exact forL (fun pre vs m=>∃s,vs=V s∧I pre s m) hf ((by rintro _ _ _ ⟨_,_,h⟩;exact hw _ _ _ h)) ((by rintro pre x d9 vs m K e ⟨s,q,h⟩ hK hV;exact by subst q;exact ht pre x d9 s m K e h (fun s' m' h'=>hK _ _ ⟨s',rfl,h'⟩) hV)) ⟨_,rfl,hi⟩ (by rintro _ _ ⟨_,q,h⟩;exact by subst q;exact he _ _ h)
theorem RC {σ α β:Type} {g:α→Val} {e:β→Val} {f:α→List β} {l:List α} {acc0:List β} {b:Addr} {B:Nat} (V:σ→St) (J:MH→Prop) {turn:Val→St→MH→aE→Prop} {src:Val} {full:List Val} {st:Option MO} {vs:St} {m:MH} {Q:aE} (s0:σ) (hv:vs=V s0)
 (hf:full=l.map g) (hw:∀m,J m→Walk m src full st) (hB:(acc0++l.flatMap f).length≤B)
 (ht:∀x∈l,∀(acc:List β) s m (K:aE),(acc++f x).length≤B→J m→m b=some (.list (acc.map e))→(∀s' m' fx,f x=fx→J m'→m' b=some (.list ((acc++fx).map e))→K none (V s') m')→turn (g x) (V s) m K)
 (hj:J m) (hm:m b=some (.list (acc0.map e))) (he:∀s m,J m→m b=some (.list ((acc0++l.flatMap f).map e))→Q none (V s) m):dc turn src vs m Q:=by
 refine jy V (fun pre zz m=>J m∧m b=some (.list ((acc0++pre.flatMap f).map e))) s0 hv hf (fun zz zz zz h=>hw _ h.1) ?_ ⟨hj,by rw [List.flatMap_nil,List.append_nil];exact hm⟩ fun zz zz h=>he _ _ h.1 h.2
 intro pre x d9 s m K ee h hK _
 have eq:acc0++(pre++[x]).flatMap f=acc0++pre.flatMap f++f x:=by rw [List.flatMap_append,List.flatMap_cons,List.flatMap_nil,List.append_nil,List.append_assoc]
 refine ht x (ee▸List.mem_append_right _ (List.mem_cons_self ..)) _ s m K ?_ h.1 h.2 fun s' m' fx ef j' q'=>hK _ _ ⟨j',by rw [eq,ef];exact q'⟩
 rw [←eq]
 rw [ee,List.append_cons,List.flatMap_append,←List.append_assoc,List.length_append] at hB
 exact Nat.le_trans (Nat.le_add_right ..) hB
theorem qD {α:Type} {pre d9 l:List α} {x:α} (e:l=pre++x::d9):x∈l:=e▸List.mem_append_right _ (List.mem_cons_self ..)
theorem ur {α:Type} {pre d9 l:List α} {x:α} (e:l=pre++x::d9):pre.length<l.length:=by rw [e,List.length_append];exact Nat.lt_add_of_pos_right (Nat.succ_pos _)
structure K1 (mh:MH) (b:Addr) (l:List Val) (m:MH):Prop where
 le:MH.Le mh m
 Cp:m b=some (.list l)
theorem K1.keep {mh m m':MH} {b:Addr} {l:List Val} (k:K1 mh b l m) (h:MH.Le m m'):K1 mh b l m':=⟨k.le.trans h,h _ _ k.Cp⟩
theorem K1.set {mh m:MH} {b a:Addr} {l:List Val} {o:MO} (k:K1 mh b l m) (h:mh a=none) (ne:b≠a):K1 mh b l (m.set a o):=⟨k.le.ir h,(MH.ae _ _ ne).trans k.Cp⟩
theorem eH {m:MH} {a b:Addr} {o:MO} (h:m a=some o) (hb:m b=none):a≠b:=fun q=>by rw [q,hb] at h;exact a8 h
theorem EA {β:Type} (e:β→Val) {m:MH} {b:Addr} {l:List β} (x:β):(m.set b (.list (l.map e++[e x]))) b=some (.list ((l++[x]).map e)):=by rw [MH.set_same,List.map_append];rfl
theorem Ox {β:Type} {e:β→Val} {l l':List β} {B:Nat} (h:(l++l').length≤B) (hB:B<bw:=by decide):(l.map e).length<bw:=by
 rw [List.length_map];rw [List.length_append] at h;exact Nat.lt_of_le_of_lt (Nat.le_trans (Nat.le_add_right ..) h) hB
theorem zE {α:Type} [BEq α] [LawfulBEq α] [DecidableEq α] {k y:α} {v:Val} {es:List (α×Val)}:(es.map (fun p=>if p.1=k then (p.1,v) else p)).lookup y=if y=k then (es.lookup y).map fun zz=>v else es.lookup y:=by
 induction es with
 | nil=>rw [List.map_nil,List.lookup_nil];split<;>rfl
 | cons p_ es ih=>
   obtain ⟨x,u⟩:=p_
   have ih:=ih
   rw [List.map_cons,List.lookup_cons]
   by_cases hy:y=x
   ·subst hy
    by_cases hx:y=k
    ·rw [if_pos hx,if_pos hx,List.lookup_cons,beq_self_eq_true];rfl
    ·rw [if_neg hx,if_neg hx,List.lookup_cons,beq_self_eq_true]
   ·have e:=beq_eq_false_iff_ne.mpr hy
    by_cases hx:x=k
    ·rw [if_pos hx,List.lookup_cons,e];exact ih
    ·rw [if_neg hx,List.lookup_cons,e];exact ih
theorem lookup_putK {α:Type} [BEq α] [LawfulBEq α] [DecidableEq α] {k y:α} {v:Val} {es:List (α×Val)}:(putK k v es).lookup y=if y=k then some v else es.lookup y:=by
 unfold putK
 by_cases h:es.any (fun p=>decide (p.1=k))=true
 ·rw [if_pos h,zE]
  by_cases e:y=k
  ·rw [if_pos e,if_pos e]
   obtain ⟨p,hp,hk⟩:=List.any_eq_true.mp h
   cases hl:es.lookup y with
   | some u=>rfl
   | none=>exact absurd (e.trans (of_decide_eq_true hk).symm) (bne_iff_ne.mp (List.lookup_eq_none_iff.mp hl p hp))
  ·rw [if_neg e,if_neg e]
 ·rw [if_neg h,List.lookup_append,List.lookup_cons]
  by_cases e:y=k
  ·subst e
   rw [if_pos rfl,beq_self_eq_true,List.lookup_eq_none_iff.mpr fun p hp=>bne_iff_ne.mpr fun q=>h (List.any_eq_true.mpr ⟨p,hp,decide_eq_true q.symm⟩)];rfl
  ·rw [if_neg e,beq_eq_false_iff_ne.mpr e];exact Option.or_none
theorem kj {α:Type} [DecidableEq α] {k:α} {v:Val} {es:List (α×Val)}:(putK k v es).length≤es.length+1:=by
 unfold putK
 split
 ·exact Nat.le_trans (Nat.le_of_eq (List.length_map ..)) (Nat.le_succ _)
 ·exact Nat.le_of_eq List.length_append
theorem US {f g:Nat→Nat} {l:List Nat}:(∀x∈l,f x≤g x)→(l.map f).sum≤(l.map g).sum:=by
 induction l with
 | nil=>
   rintro _
   exact Nat.le_refl _
 | cons x l ih=>
   rintro h
   exact Nat.add_le_add (h x (List.mem_cons_self ..)) (ih fun y hy=>h y (List.mem_cons_of_mem _ hy))
theorem Xb (rows:List aG) (i:Nat):(if nU rows i=true then [i] else []).length≤1:=by split;exact Nat.le_refl _;exact Nat.zero_le _
theorem BH (rows:List aG):∀n i,(vY (fun i l=>(if nU rows i=true then [i] else [])++l.flatten) rows n i).length≤vY (fun zz l=>1+l.sum) rows n i
 | 0,i=>Nat.le_trans (Nat.le_of_eq (congrArg List.length (List.append_nil _))) (Xb rows i)
 | n+1,i=>by
   show (_++List.flatten _).length≤1+List.sum _
   rw [List.length_append,List.length_flatten,List.map_map]
   exact Nat.add_le_add (Xb rows i) (US fun k zz=>BH rows n k)
theorem BI {rows:List aG} (W:WF rows):(fJ rows 0).length<5000:=Nat.lt_of_le_of_lt (BH rows (rows.length - 0) 0) W.cnt
theorem gU {rows:List aG} (W:WF rows):(dt rows).length<5000:=by
 refine Nat.lt_of_le_of_lt ?_ (BI W)
 rw [kh W W.pos,List.length_append]
 exact Nat.le_add_left ..
theorem Oy {rows:List aG} (W:WF rows):∀n i,i<rows.length→∀e∈vY (fun i l=>(if nU rows i=true then [i] else [])++l.flatten) rows n i,e<rows.length∧nU rows e=true:=by
 have one:∀i,i<rows.length→∀e∈(if nU rows i=true then [i] else []),e<rows.length∧nU rows e=true:=fun i hi e he=>by
  by_cases q:nU rows i=true
  ·rw [if_pos q] at he;obtain rfl:=List.mem_singleton.mp he;exact ⟨hi,q⟩
  ·rw [if_neg q] at he;cases he
 intro n
 induction n with
 | zero=>exact fun i hi e he=>(List.mem_append.mp he).elim (one i hi e) fun h=>nomatch h
 | succ n ih=>
   refine fun i hi e he=>(List.mem_append.mp he).elim (one i hi e) fun h=>?_
   obtain ⟨l,hl,he⟩:=List.mem_flatten.mp h
   obtain ⟨k,hk,rfl⟩:=List.mem_map.mp hl
   exact ih k (W.ch i k hk).2 e he
theorem km {rows:List aG} (W:WF rows):∀e∈dt rows,e<rows.length∧nU rows e=true:=fun e he=>
 (by obtain ⟨k,hk,he⟩:=List.mem_flatMap.mp he;exact Oy W _ k (W.ch 0 k hk).2 e he)
noncomputable def GH (rows:List aG) (V:cv):List Str:=(dt rows).filterMap (qS rows V)
noncomputable def isRef (k:Str):Bool:=(["IDREF","IDREFS"]:List Str).contains k
noncomputable def eE (rows:List aG) (V:cv) (e k:Nat):List (Nat×Str):=match V.rule (ag rows e).name (ag rows k).name with
 | none=>[]
 | some r=>bif isRef r.kind then (bS (ag rows k).value).map fun w=>(k,w) else []
noncomputable def zF (rows:List aG) (V:cv) (e:Nat):List (Nat×Str):=(ag rows e).attrs.flatMap (eE rows V e)
noncomputable def gv (rows:List aG) (V:cv) (p:Nat×Str):Bool:=!(GH rows V).contains p.2
noncomputable def Ir (rows:List aG) (V:cv) (e:Nat):List (Nat×Str):=(zF rows V e).filter (gv rows V)
noncomputable def pN (rows:List aG) (V:cv):List (Nat×Str):=(dt rows).flatMap (Ir rows V)
noncomputable def sA (p:Nat×Str):Val:=.tup [.int (p.1:Int),.str p.2]
noncomputable def bx (l:List (Nat×Str)):List Val:=l.map sA
theorem ko {α β:Type} {f:α→List β} {n:Nat} {l:List α}:(∀x∈l,(f x).length≤n)→(l.flatMap f).length≤l.length * n:=by
 induction l with
 | nil=>
   rintro _
   exact Nat.zero_le _
 | cons x l ih=>
   rintro h
   rw [List.flatMap_cons,List.length_append,List.length_cons,Nat.succ_mul,Nat.add_comm]
   exact Nat.add_le_add (ih fun y hy=>h y (List.mem_cons_of_mem _ hy)) (h x (List.mem_cons_self ..))
theorem GI {rows:List aG} {V:cv} {e k:Nat} (h:V.rule (ag rows e).name (ag rows k).name=none):eE rows V e k=[]:=by unfold eE;rw [h]
theorem GJ {rows:List aG} {V:cv} {e k:Nat} {r:dB} (h:V.rule (ag rows e).name (ag rows k).name=some r):eE rows V e k=bif isRef r.kind then (bS (ag rows k).value).map fun w=>(k,w) else []:=by unfold eE;rw [h]
theorem It {rows:List aG} {V:cv} (W:WV rows) {e k:Nat} (h:k∈(ag rows e).attrs):(eE rows V e k).length≤10:=by
 unfold eE
 split
 ·exact Nat.zero_le _
 ·cases isRef r.kind with
  | true=>exact Nat.le_of_lt (Nat.lt_of_le_of_lt (Nat.le_of_eq (List.length_map ..)) (cC.n (W.vals e k h)))
  | false=>exact Nat.zero_le _
theorem p7 {rows:List aG} {V:cv} (W:WV rows) (e:Nat):(zF rows V e).length≤100:=
 Nat.le_trans (ko fun k hk=>It W hk) (Nat.mul_le_mul_right 10 (W.an e))
def Tab (es:List (Str×Val)) (l:List Str):Prop:=∀x,(es.lookup x).isSome=l.contains x
theorem MH.Le.none {m m':MH} {a:Addr} (l:MH.Le m m') (h:m' a=none):m a=none:=by
 cases e:m a with
 | none=>rfl
 | some o=>exact bQ (l _ _ e) h
theorem uw {l:List Str} {s x:Str}:(l++[s]).contains x=(l.contains x || x == s):=by
 rw [List.contains_eq_any_beq,List.any_append,←List.contains_eq_any_beq,List.any_cons,List.any_nil,Bool.or_false]
theorem Tab.old {es:List (Str×Val)} {l:List Str} {s:Str} (h:Tab es l) (hs:(es.lookup s).isSome=true):Tab es (l++[s]):=fun x=>by
 rw [h x,uw]
 cases e:x == s with
 | false=>exact (Bool.or_false _).symm
 | true=>rw [eq_of_beq e,←h s,hs];rfl
theorem Tab.put {es:List (Str×Val)} {l:List Str} {s:Str} {v:Val} (h:Tab es l):Tab (putK s v es) (l++[s]):=fun x=>by
 rw [lookup_putK,uw,←h x]
 by_cases e:x=s
 ·rw [if_pos e,beq_iff_eq.mpr e,Bool.or_true];rfl
 ·rw [if_neg e,beq_eq_false_iff_ne.mpr e,Bool.or_false]
section
variable {rows:List aG} {c:Cfg} {D:Nat} {mh:MH} {Q:VQ} {d:Addr} {V:cv} {t:Addr}
structure TI (mh:MH) (b b1:Addr) (l ids:List Nat) (f:Nat→Option Str) (m:MH):Prop where
 le:MH.Le mh m
 Cp:m b1=some (.list (aB l))
 tab:∃es ep,m b=some (.ax es ep)∧es.length≤ids.length∧Tab es (ids.filterMap f)
theorem TI.same {mh m m':MH} {b b1:Addr} {l ids:List Nat} {f:Nat→Option Str} {x:Nat} (I:TI mh b b1 l ids f m) (h:MH.Le m m') (hx:f x=none):TI mh b b1 l (ids++[x]) f m':=
 (by obtain ⟨es,ep,e5,e6,e7⟩:=I.tab;exact ⟨I.le.trans h,h _ _ I.Cp,es,ep,h _ _ e5,Nat.le_trans e6 (List.length_append▸Nat.le_add_right ..),by rw [List.filterMap_append,List.filterMap_cons,hx,List.filterMap_nil,List.append_nil];exact e7⟩)
theorem GK (F:cp c) (hD:4<D) (W:WV rows) (T:bq mh t rows) (TD:ew mh d V) (h:∀b aD es ep,MH.Le mh aD→mh b=none→aD b=some (.ax es ep)→Tab es (GH rows V)→Q (.ref b) aD):aq c D "id_table" [.ref t,.int 0,.ref d] mh Q:=by
 refine (F.f 16).has.go F hD rfl K9 (dE.mk rfl fun ep zz b hb=>?_)
 have JH:MH.Le mh (mh.set b (.ax [] ep)):=.set hb
 refine ⟨(F.f 14).ok,fN F (by decide) W.toWF (T.mono JH) fun b1 m1 jx Hk hm1=>?_⟩
 refine jy (g:=aL) (l:=dt rows) (fun j:Option Val×Option Val=>[some (.ref t),some (.int 0),some (.ref d),some (.ref b),j.1,j.2]) (fun pre zz m=>TI mh b b1 (dt rows) pre (qS rows V) m) (none,none) rfl rfl (fun zz zz zz h=>.list h.Cp) ?_
  ⟨JH.trans jx,hm1,[],ep,jx _ _ (MH.set_same ..),Nat.le_refl _,fun zz=>rfl⟩ fun zz m I=>(by obtain ⟨es,ep',e5,_,e7⟩:=I.tab;exact CO.mpr (h b m es ep' I.le hb e5 e7))
 intro pre x d9 j m K e I hK _
 refine CN.mpr ⟨(F.f 15).ok,Ow F (by decide) W (T.mono I.le) (TD.mono I.le) (km W.toWF x (qD e)).1 fun m2 c8=>?_⟩
 have hK:=fun a b m'=>hK (a,b) m'
 cases hi:qS rows V x with
 | none=>exact nQ.mk (hK _ _ _ (I.same c8 hi))
 | some s=>
   obtain ⟨es,ep',e5,e6,e7⟩:=I.tab
   have e5:=c8 _ _ e5
   have fm:(pre++[x]).filterMap (qS rows V)=pre.filterMap (qS rows V)++[s]:=by rw [List.filterMap_append,List.filterMap_cons,hi];rfl
   have e6':es.length+1≤(pre++[x]).length:=by rw [List.length_append];exact Nat.succ_le_succ e6
   refine nQ.mk (mJ.E6 e5 ?_)
   cases h6:(es.lookup s).isSome with
   | true=>exact hK _ _ _ ⟨I.le.trans c8,c8 _ _ I.Cp,es,ep',e5,Nat.le_of_succ_le e6',fm▸e7.old h6⟩
   | false=>exact bb.ax e5 (Nat.lt_of_le_of_lt (Nat.le_trans e6 (Nat.le_of_lt (ur e))) (Nat.lt_trans (gU W.toWF) (by decide))) fun PT=>hK _ _ _ ⟨(I.le.trans c8).ir hb,(MH.ae _ _ fun q=>by rw [←q,c8 _ _ I.Cp] at e5;cases e5).trans (c8 _ _ I.Cp),_,PT,MH.set_same ..,Nat.le_trans kj e6',fm▸e7.put⟩
theorem AV (F:cp c) (hD:2<D) (W:WV rows) (T:bq mh t rows) (TD:ew mh d V) {e:Nat} (Xa:e<rows.length) (h:∀b aD,MH.Le mh aD→mh b=none→aD b=some (.list (bx (zF rows V e)))→Q (.ref b) aD):aq c D "references" [.ref t,.int (e:Int),.ref d] mh Q:=by
 obtain ⟨L,me⟩:=T.me
 have TA:=TD.choose_spec.choose_spec.choose_spec.choose_spec.choose_spec.choose_spec.me
 refine (F.f 17).has.go F hD rfl Gd fun b hb=>?_
 have JH:=MH.Le.set (o:=.list []) hb
 refine bc (JH _ _ me) rfl (F.m 41).ok (dK F (by decide) (T.mono JH) (aQ Xa) fun b1 Hk=>?_)
 have jx:=MH.Le.set (o:=.list (aB (ag rows e).attrs)) Hk
 have ne:=(eH (MH.set_same ..) Hk).symm
 refine RC (b:=b) (B:=100) (e:=sA) (f:=eE rows V e) (g:=aL) (acc0:=[]) (fun j:Option Val×Option Val×Option Val=>[some (.ref t),some (.int (e:Int)),some (.ref d),some (.ref b),j.1,j.2.1,j.2.2]) (K1 mh b1 (aB (ag rows e).attrs)) (none,none,none) rfl rfl (fun zz h=>.list h.Cp) (p7 W e)
  (fun x Yi acc j m K hB I e6 hK=>?_) ⟨JH.trans jx,MH.set_same ..⟩ (jx _ _ (MH.set_same ..)) fun zz m I e6=>ze.mpr (h b m I.le hb e6)
 have hx:=(W.Yh e x Yi).2
 refine zc.mpr (.inst (I.le _ _ TA) rfl (F.m 23).ok (bc (I.le _ _ me) rfl (F.m 38).ok (eD F (by decide) (T.mono I.le) (aQ Xa) (bc (I.le _ _ me) rfl (F.m 38).ok (eD F (by decide) (T.mono I.le) (aQ hx)
  (Oe F (by decide) (TD.mono I.le) fun v m2 c8 hv2=>?_))))))
 have I:=I.keep c8
 have e6:=c8 _ _ e6
 have hK:=fun a b c=>hK (a,b,c)
 rcases hv2 with ⟨r1,rfl⟩ | ⟨a,r,r1,rfl,r2⟩
 ·exact nQ.mk (hK _ _ _ _ _ (GI r1) I (by rw [List.append_nil];exact e6))
 ·have eq:=GJ r1
  refine nQ.mk (ao.mk r2 rfl rfl (mJ.wR (cg ["IDREF","IDREFS"]) ?_))
  show br (isRef r.kind) _ _
  cases h6:isRef r.kind with
  | false=>rw [h6] at eq;exact hK _ _ _ _ _ eq I (by rw [cond_false,List.append_nil];exact e6)
  | true=>
    rw [h6] at eq
    refine ⟨(F.f 6).ok,bc (I.le _ _ me) rfl (F.m 39).ok (mv F (by decide) (T.mono I.le) (aQ hx) (fp F (by decide) (cC.s (W.vals e x Yi)) fun b2 m3 kz rq hm3=>?_))⟩
    have eq:=eq.trans (List.map_eq_flatMap (f:=fun w=>(x,w)))
    exact RC (b:=b) (B:=100) (e:=sA) (f:=fun w=>[(x,w)]) (g:=.str) (acc0:=acc) (l:=bS (ag rows x).value) (fun j=>[some (.ref t),some (.int (e:Int)),some (.ref d),some (.ref b),some (.int (x:Int)),some (.ref a),j]) (fun m=>K1 mh b1 (aB (ag rows e).attrs) m∧m b2=some (.list (aw (bS (ag rows x).value)))) j.2.2 rfl rfl (fun zz h=>.list h.2)
     (eq▸hB) (fun w hw acc j m K' hB' I k7 Iu=>y8.mpr (je k7 (Ox hB') (Iu _ _ _ rfl ⟨I.1.set hb ne,(MH.ae _ _ (eH e6 rq).symm).trans I.2⟩ (EA sA (x,w))))) ⟨I.keep kz,hm3⟩ (kz _ _ e6) fun j m I k7=>y9.mpr (hK _ _ _ _ _ eq I.1 k7)
theorem GN {α:Type} {p:α→Bool} {l:List α}:l.filter p=l.flatMap fun x=>bif p x then [x] else []:=by
 induction l with
 | nil=>rfl
 | cons x l ih=>rw [List.flatMap_cons,←ih,List.filter_cons];cases p x<;>rfl
theorem pO (F:cp c) (hD:5<D) (W:WV rows) (T:bq mh t rows) (TD:ew mh d V) (h:∀b aD,MH.Le mh aD→mh b=none→aD b=some (.list (bx (pN rows V)))→Q (.ref b) aD):aq c D "broken_references" [.ref t,.int 0,.ref d] mh Q:=by
 refine (F.f 18).has.go F hD rfl rC ⟨(F.f 16).ok,GK F (by decide) W T TD fun b0 m0 es ep JH hb0 hm0 Yj b hb=>xI.mk ⟨(F.f 14).ok,?_⟩⟩
 have EV:=JH.none hb
 have jx:=MH.Le.set (o:=.list []) hb
 have leB:=JH.trans jx
 refine fN F (by decide) W.toWF (T.mono leB) fun b1 m1 c8 Hk hm1=>?_
 have ne1:=(eH (MH.set_same ..) Hk).symm
 refine RC (b:=b) (B:=500000) (e:=sA) (f:=Ir rows V) (g:=aL) (acc0:=[]) (fun j:Option Val×Option Val×Option Val=>[some (.ref t),some (.int 0),some (.ref d),some (.ref b0),some (.ref b),j.1,j.2.1,j.2.2]) (fun m=>K1 mh b1 (aB (dt rows)) m∧m b0=some (.ax es ep)) (none,none,none) rfl rfl (fun zz h=>.list h.1.Cp)
  (Nat.le_trans (ko fun e zz=>Nat.le_trans (List.length_filter_le ..) (p7 W e)) (Nat.mul_le_mul_right 100 (Nat.le_of_lt (gU W.toWF)))) (fun x Yi acc j m K hB I e7 hK=>?_) ⟨⟨leB.trans c8,hm1⟩,c8 _ _ (jx _ _ hm0)⟩ (c8 _ _ (MH.set_same ..)) fun zz m I e6=>mQ.mpr (h b m I.1.le EV e6)
 refine mO.mpr ⟨(F.f 17).ok,AV F (by decide) W (T.mono I.1.le) (TD.mono I.1.le) (km W.toWF x Yi).1 fun b2 m2 vZ rq VE=>?_⟩
 have eq:=GN (p:=gv rows V) (l:=zF rows V x)
 refine RC (b:=b) (B:=500000) (e:=sA) (f:=fun p=>bif gv rows V p then [p] else []) (g:=sA) (acc0:=acc) (l:=zF rows V x) (fun j:Option Val×Option Val=>[some (.ref t),some (.int 0),some (.ref d),some (.ref b0),some (.ref b),some (aL x),j.1,j.2])
  (fun m=>(K1 mh b1 (aB (dt rows)) m∧m b0=some (.ax es ep))∧m b2=some (.list (bx (zF rows V x)))) j.2 rfl rfl (fun zz h=>.list h.2) (eq▸hB) (fun p hw acc j m K' hB' I k8 Iu=>?_) ⟨⟨I.1.keep vZ,vZ _ _ I.2⟩,VE⟩ (vZ _ _ e7) fun j m I k8=>mN.mpr (hK (_,_,_) _ _ eq I.1 k8)
 refine mM.mpr (.mk (mJ.E6 I.1.2 ?_))
 show br (!(es.lookup p.2).isSome) _ _
 rw [Yj p.2]
 show br (gv rows V p) _ _
 cases h6:gv rows V p with
 | false=>exact Iu (_,_) _ [] (by rw [h6];rfl) I (by rw [List.append_nil];exact k8)
 | true=>exact je k8 (Ox hB') (Iu (_,_) _ [p] (by rw [h6];rfl) ⟨⟨I.1.1.set EV ne1,(MH.ae _ _ (eH hm0 hb)).trans I.1.2⟩,(MH.ae _ _ (eH e7 rq).symm).trans I.2⟩ (EA sA p))
end
noncomputable abbrev LI:=List Int
noncomputable def jz (z:LI) (y:Int):LI:=bif z.contains y then z else z++[y]
noncomputable def fY (xs ys:LI):LI:=ys.foldl jz xs
noncomputable def sD (xs ys:LI):LI:=qH (fY xs ys)
def Pl (lo hi:Nat) (q:Int):Prop:=(lo:Int)<q∧q≤(hi:Int)
def Rg (lo hi:Nat) (l:LI):Prop:=l.Nodup∧∀x∈l,Pl lo hi x
section
variable {x y q:Int} {xs ys z E B:LI} {lo mid hi:Nat} {fol:Int→LI}
theorem Iv:x∈jz z y↔x∈z∨x=y:=by
 unfold jz
 cases h:z.contains y with
 | true=>exact ⟨.inl,fun k=>k.elim id fun e=>e.symm▸List.contains_iff_mem.mp h⟩
 | false=>exact List.mem_append.trans (or_congr_right List.mem_singleton)
theorem EB (h:z.Nodup):(jz z y).Nodup:=by
 unfold jz
 cases e:z.contains y with
 | true=>exact h
 | false=>exact List.nodup_append.mpr ⟨h,List.nodup_cons.mpr ⟨List.not_mem_nil,.nil⟩,fun a ha b hb q=>by rw [List.contains_iff_mem.mpr (q.trans (List.mem_singleton.mp hb)▸ha)] at e;cases e⟩
theorem Iw:(jz z y).length≤z.length+1:=by
 unfold jz
 cases z.contains y with
 | true=>exact Nat.le_succ _
 | false=>exact Nat.le_of_eq List.length_append
theorem Oz:x∈fY xs ys↔x∈xs∨x∈ys:=by
 induction ys generalizing xs with
 | nil=>exact ⟨.inl,fun k=>k.elim id fun h=>nomatch h⟩
 | cons y ys ih=>show x∈fY (jz xs y) ys↔_;rw [ih,Iv,List.mem_cons,or_assoc]
theorem Iy (h:xs.Nodup):(fY xs ys).Nodup:=by
 induction ys generalizing xs with
 | nil=>exact h
 | cons y ys ih=>exact ih (EB h)
theorem GO:(fY xs ys).length≤xs.length+ys.length:=by
 induction ys generalizing xs with
 | nil=>exact Nat.le_refl _
 | cons y ys ih=>exact Nat.le_trans ih (Nat.le_trans (Nat.add_le_add_right Iw _) (Nat.le_of_eq (Nat.succ_add_eq_add_succ ..)))
theorem iu (l:LI):(qH l).Perm l:=List.mergeSort_perm ..
theorem dN:x∈sD xs ys↔x∈xs∨x∈ys:=(iu _).mem_iff.trans Oz
theorem BJ:∀(n:Nat) (l:LI),l.Nodup→(∀x∈l,Pl 0 n x)→l.length≤n:=by
 intro n
 induction n with
 | zero=>intro l _ h;cases l with
   | nil=>exact Nat.le_refl _
   | cons x l=>exact absurd (h x (List.mem_cons_self ..)) fun k=>Int.lt_irrefl _ (Int.lt_of_lt_of_le k.1 k.2)
 | succ n ih=>
   intro l hd h
   have dn:∀x∈l,x≠(n:Int)+1→Pl 0 n x:=fun x hx ne=>⟨(h x hx).1,Int.le_of_lt_add_one (Int.lt_iff_le_and_ne.mpr ⟨(h x hx).2,ne⟩)⟩
   by_cases hm:(n:Int)+1∈l
   ·have:=ih (l.erase ((n:Int)+1)) (hd.erase _) fun x hx=>dn x (List.mem_of_mem_erase hx) fun e=>hd.not_mem_erase (e▸hx)
    rw [List.length_erase_of_mem hm] at this
    exact Nat.sub_le_iff_le_add.mp this
   ·exact Nat.le_succ_of_le (ih l hd fun x hx=>dn x hx fun e=>hm (e▸hx))
theorem Pl.mono {UT PA:Nat} (h:Pl lo hi q) (h1:UT≤lo) (h2:hi≤PA):Pl UT PA q:=⟨Int.lt_of_le_of_lt (Int.ofNat_le.mpr h1) h.1,Int.le_trans h.2 (Int.ofNat_le.mpr h2)⟩
theorem Rg.mono {UT PA:Nat} {l:LI} (h:Rg lo hi l) (h1:UT≤lo) (h2:hi≤PA):Rg UT PA l:=⟨h.1,fun x hx=>(h.2 x hx).mono h1 h2⟩
theorem Rg.len {l:LI} (h:Rg lo hi l):l.length≤hi:=BJ hi l h.1 fun x hx=>(h.2 x hx).mono (Nat.zero_le _) (Nat.le_refl _)
theorem Rg.nil:Rg lo hi []:=⟨.nil,fun zz h=>nomatch h⟩
theorem Rg.add (h:Rg lo hi xs) (k:Rg lo hi ys):Rg lo hi (sD xs ys):=⟨(iu _).nodup_iff.mpr (Iy h.1),fun x hx=>(dN.mp hx).elim (h.2 x) (k.2 x)⟩
noncomputable def wN (B:LI) (f:Int→LI) (q:Int):Int→LI:=fun x=>bif decide (x=q) then sD (f x) B else f x
noncomputable def joinM (E B:LI) (fol:Int→LI):Int→LI:=E.foldl (wN B) fol
theorem sE:wN B fol q q=sD (fol q) B:=by unfold wN;rw [decide_eq_true rfl];rfl
theorem jf (h:y≠q):wN B fol q y=fol y:=by unfold wN;rw [decide_eq_false h];rfl
theorem gV:x∈joinM E B fol q↔x∈fol q∨(q∈E∧x∈B):=by
 induction E generalizing fol with
 | nil=>exact ⟨.inl,fun k=>k.elim id fun h=>nomatch h.1⟩
 | cons y E ih=>
   show x∈joinM E B (wN B fol y) q↔_
   rw [ih,List.mem_cons]
   by_cases h:q=y
   ·subst h
    rw [sE,dN]
    exact ⟨fun k=>k.elim (fun k=>k.imp id fun k=>⟨.inl rfl,k⟩) fun k=>.inr ⟨.inl rfl,k.2⟩,fun k=>.inl (k.imp id (·.2))⟩
   ·rw [jf h]
    exact or_congr_right (and_congr_left fun zz=>⟨.inr,fun k=>k.resolve_left h⟩)
theorem Rg.join (h:Rg lo hi (fol q)) (k:Rg lo hi B):Rg lo hi (joinM E B fol q):=by
 induction E generalizing fol with
 | nil=>exact h
 | cons y E ih=>
   refine ih (fol:=wN B fol y) ?_
   by_cases e:q=y
   ·subst e;rw [sE];exact h.add k
   ·rw [jf e];exact h
theorem BK (h:q∉E):joinM E B fol q=fol q:=by
 induction E generalizing fol with
 | nil=>rfl
 | cons y E ih=>exact (ih fun k=>h (List.mem_cons_of_mem _ k)).trans (jf fun k=>h (k▸List.mem_cons_self ..))
end
structure RS where
 N:Bool
 F:LI
 L:LI
 fol:Int→LI
noncomputable def dR (m:Str):Bool:=(["*","+"]:List Str).contains m
noncomputable def isOpt (m:Str):Bool:=(["?","*"]:List Str).contains m
noncomputable def RS.JI (m:Str) (s:RS):RS:=⟨s.N || isOpt m,s.F,s.L,bif dR m then joinM s.L s.F s.fol else s.fol⟩
noncomputable def RS.cat (s t:RS):RS:=⟨s.N&&t.N,bif s.N then sD s.F t.F else s.F,sD (bif t.N then s.L else []) t.L,joinM s.L t.F t.fol⟩
noncomputable def RS.alt (s t:RS):RS:=⟨s.N || t.N,sD s.F t.F,sD s.L t.L,t.fol⟩
noncomputable def GP (n:Nat) (fol:Int→LI):Int→LI:=fun q=>bif decide (q=(n:Int)+1) then [] else fol q
noncomputable def RS.one (n:Nat) (fol:Int→LI):RS:=⟨false,[(n:Int)+1],[(n:Int)+1],GP n fol⟩
mutual
inductive Pt where
 | name (s m:Str)
 | seq (l:fz) (m:Str)
 | alt (l:fz) (m:Str)
inductive fz where
 | nil
 | cons (p:Pt) (l:fz)
end
mutual
noncomputable def Pt.bu:Pt→List Str
 | .name s _=>[s]
 | .seq l _=>l.bu
 | .alt l _=>l.bu
noncomputable def fz.bu:fz→List Str
 | .nil=>[]
 | .cons p l=>p.bu++l.bu
end
noncomputable abbrev Pt.size (p:Pt):Nat:=p.bu.length
noncomputable abbrev fz.size (l:fz):Nat:=l.bu.length
mutual
noncomputable def Pt.E0:Pt→Nat
 | .name _ _=>4
 | .seq l _=>l.E0+2
 | .alt l _=>l.E0+2
noncomputable def fz.E0:fz→Nat
 | .nil=>4
 | .cons p l=>max p.E0 l.E0
end
mutual
noncomputable def Pt.val:Pt→Val
 | .name s m=>.tup [.str "name",.str s,.str m]
 | .seq l m=>.tup [.str "seq",.tup l.vals,.str m]
 | .alt l m=>.tup [.str "choice",.tup l.vals,.str m]
noncomputable def fz.vals:fz→List Val
 | .nil=>[]
 | .cons p l=>p.val::l.vals
end
mutual
noncomputable def Pt.rd:Pt→Nat→(Int→LI)→RS
 | .name _ m,n,fol=>(RS.one n fol).JI m
 | .seq l m,n,fol=>(l.SP n ⟨true,[],[],fol⟩).JI m
 | .alt l m,n,fol=>(l.SR n ⟨false,[],[],fol⟩).JI m
noncomputable def fz.SP:fz→Nat→RS→RS
 | .nil,_,s=>s
 | .cons p l,n,s=>l.SP (n+p.size) (s.cat (p.rd n s.fol))
noncomputable def fz.SR:fz→Nat→RS→RS
 | .nil,_,s=>s
 | .cons p l,n,s=>l.SR (n+p.size) (s.alt (p.rd n s.fol))
end
theorem Pt.ind {P:Pt→Prop} {R:fz→Prop} (h1:∀s m,P (.name s m)) (h2:∀l m,R l→P (.seq l m)) (h3:∀l m,R l→P (.alt l m)) (h4:R .nil) (h5:∀p l,P p→R l→R (.cons p l)):(∀p,P p)∧∀l,R l:=
 ⟨fun p=>Pt.rec (motive_1:=P) (motive_2:=R) h1 h2 h3 h4 h5 p,fun l=>fz.rec (motive_1:=P) (motive_2:=R) h1 h2 h3 h4 h5 l⟩
structure RS.In (lo hi:Nat) (iw:Int→LI) (s:RS):Prop where
 le:lo≤hi
 f:Rg lo hi s.F
 l:Rg lo hi s.L
 g:∀{q:Int},Pl lo hi q→Rg lo hi (s.fol q)
 o:∀{q:Int},Pl 0 lo q→s.fol q=iw q
section
variable {lo mid hi n:Nat} {iw fol:Int→LI} {s t:RS} {q:Int}
theorem Pl.out {l:LI} (h:Pl 0 lo q) (k:Rg lo hi l):q∉l:=fun hq=>Int.lt_irrefl _ (Int.lt_of_lt_of_le (k.2 q hq).1 h.2)
theorem Pl.cut (h:Pl lo hi q) (mid:Nat):Pl lo mid q∨Pl mid hi q:=(Int.lt_or_le (mid:Int) q).elim (fun k=>.inr ⟨k,h.2⟩) fun k=>.inl ⟨h.1,k⟩
theorem RS.In.JI {m:Str} (h:s.In lo hi iw):(s.JI m).In lo hi iw:=by
 refine ⟨h.le,h.f,h.l,fun {q} hq=>?_,fun {q} hq=>?_⟩
 ·show Rg lo hi ((bif dR m then joinM s.L s.F s.fol else s.fol) q)
  cases dR m with
  | true=>exact (h.g hq).join h.f
  | false=>exact h.g hq
 ·show (bif dR m then joinM s.L s.F s.fol else s.fol) q=_
  cases dR m with
  | true=>exact (BK (hq.out h.l)).trans (h.o hq)
  | false=>exact h.o hq
theorem RS.In.up (h:s.In lo mid iw) (k:t.In mid hi s.fol) (hq:Pl lo hi q):Rg lo hi (t.fol q):=(hq.cut mid).elim
 (fun a=>by rw [k.o (a.mono (Nat.zero_le _) (Nat.le_refl _))];exact (h.g a).mono (Nat.le_refl _) k.le) fun a=>(k.g a).mono h.le (Nat.le_refl _)
theorem RS.In.old (h:s.In lo mid iw) (k:t.In mid hi s.fol) (hq:Pl 0 lo q):t.fol q=iw q:=(k.o (hq.mono (Nat.le_refl _) h.le)).trans (h.o hq)
theorem RS.In.cat (h:s.In lo mid iw) (k:t.In mid hi s.fol):(s.cat t).In lo hi iw:=by
 have sf:=h.f.mono (Nat.le_refl _) k.le
 have tf:=k.f.mono h.le (Nat.le_refl _)
 refine ⟨Nat.le_trans h.le k.le,?_,?_,fun hq=>(h.up k hq).join tf,fun hq=>(BK (hq.out h.l)).trans (h.old k hq)⟩
 ·show Rg lo hi (bif s.N then sD s.F t.F else s.F)
  cases s.N with
  | true=>exact sf.add tf
  | false=>exact sf
 ·show Rg lo hi (sD (bif t.N then s.L else []) t.L)
  refine .add ?_ (k.l.mono h.le (Nat.le_refl _))
  cases t.N with
  | true=>exact h.l.mono (Nat.le_refl _) k.le
  | false=>exact .nil
theorem RS.In.alt (h:s.In lo mid iw) (k:t.In mid hi s.fol):(s.alt t).In lo hi iw:=
 ⟨Nat.le_trans h.le k.le,(h.f.mono (Nat.le_refl _) k.le).add (k.f.mono h.le (Nat.le_refl _)),(h.l.mono (Nat.le_refl _) k.le).add (k.l.mono h.le (Nat.le_refl _)),fun hq=>h.up (t:=t) k hq,fun hq=>h.old (t:=t) k hq⟩
theorem OA {n:Nat}:Pl n (n+1) ((n:Int)+1):=⟨Int.lt_succ _,Int.le_refl _⟩
theorem OB {n:Nat}:Rg n (n+1) [(n:Int)+1]:=⟨List.nodup_cons.mpr ⟨List.not_mem_nil,.nil⟩,fun x hx=>(List.mem_singleton.mp hx).symm▸OA⟩
theorem EC (h:Pl n (n+1) q):q=(n:Int)+1:=Int.le_antisymm h.2 h.1
theorem RS.In.one:(RS.one n fol).In n (n+1) fol:=by
 refine ⟨Nat.le_succ _,OB,OB,fun {q} hq=>?_,fun {q} hq=>?_⟩
 ·show Rg n (n+1) (bif decide (q=(n:Int)+1) then [] else fol q)
  rw [decide_eq_true (EC hq)];exact .nil
 ·show (bif decide (q=(n:Int)+1) then [] else fol q)=_
  rw [decide_eq_false fun (e:q=(n:Int)+1)=>Int.lt_irrefl _ (Int.lt_of_lt_of_le (Int.lt_succ (n:Int)) (e▸hq.2))];rfl
theorem RS.In.nil {N:Bool}:(RS.mk N [] [] fol).In n n fol:=⟨Nat.le_refl _,.nil,.nil,fun h=>absurd h.1 (Int.not_lt.mpr h.2),fun zz=>rfl⟩
theorem pP:(∀p:Pt,∀n fol,(p.rd n fol).In n (n+p.size) fol)∧∀l:fz,∀{lo n:Nat} {fol:Int→LI} {s:RS},s.In lo n fol→(l.SP n s).In lo (n+l.size) fol∧(l.SR n s).In lo (n+l.size) fol:=
 Pt.ind (fun zz zz n fol=>RS.In.one.JI) (fun zz zz h n fol=>(h .nil).1.JI) (fun zz zz h n fol=>(h .nil).2.JI) (fun h=>⟨h,h⟩) fun p l hp hl lo n fol s h=>by
  have e:n+(p.bu++l.bu).length=n+p.size+l.size:=by rw [List.length_append,Nat.add_assoc]
  have a:=(hl (h.cat (hp n s.fol))).1
  have b:=(hl (h.alt (hp n s.fol))).2
  rw [←e] at a b
  exact ⟨a,b⟩
end
structure Fr (S:Addr→Prop) (m m':MH):Prop where
 keep:∀{a o},¬S a→m a=some o→m' a=some o
 sQ:∀{a},m' a=none→m a=none
theorem Fr.refl {S:Addr→Prop} {m:MH}:Fr S m m:=⟨fun zz h=>h,fun h=>h⟩
theorem Fr.trans {S S':Addr→Prop} {m m' E1:MH} (x:Fr S m m') (y:Fr S' m' E1) (h:∀a,S' a→S a∨m a=none):Fr S m E1:=
 ⟨fun {a o} n e=>y.keep (fun s=>(h a s).elim n fun z=>by exact bQ e z) (x.keep n e),fun e=>x.sQ (y.sQ e)⟩
theorem Fr.tr {S:Addr→Prop} {m m' E1:MH} (x:Fr S m m') (y:Fr S m' E1):Fr S m E1:=x.trans y fun zz s=>.inl s
theorem Fr.of_le {S:Addr→Prop} {m m':MH} (h:MH.Le m m'):Fr S m m':=⟨fun zz e=>h _ _ e,fun e=>h.none e⟩
theorem bV {m:MH} {a b:Addr} {o:MO} (e:(m.set a o) b=none):m b=none:=by
 by_cases q:b=a
 ·rw [q,MH.set_same] at e;exact c5 e
 ·rw [MH.ae _ _ q] at e;exact e
theorem Fr.set {S:Addr→Prop} {m m':MH} {a:Addr} {o:MO} (k:Fr S m m') (h:S a∨m a=none):Fr S m (m'.set a o):=
 ⟨fun {b o'} n e=>(MH.ae _ _ fun (q:b=a)=>h.elim (fun s=>n (q▸s)) fun z=>by rw [q,z] at e;exact a8 e).trans (k.keep n e),fun e=>k.sQ (bV e)⟩
theorem MH.OC {m:MH} {a:Addr} {o:MO} (h:m a=some o):m.set a o=m:=by
 funext b
 by_cases e:b=a
 ·rw [e,MH.set_same,h]
 ·exact MH.ae _ _ e
theorem MH.set_set {m:MH} {a:Addr} {o o':MO}:(m.set a o).set a o'=m.set a o':=by
 funext b
 by_cases e:b=a
 ·rw [e,MH.set_same,MH.set_same]
 ·rw [MH.ae _ _ e,MH.ae _ _ e,MH.ae _ _ e]
theorem ix:∀{l:List Int},intsOf (bj l)=some l:=by
 intro l
 induction l with
 | nil=>rfl
 | cons x l ih=>show (intsOf (bj l)).map (x::·)=_;rw [ih];rfl
theorem p8 {l:List Int}:(bj l).length=l.length:=List.length_map ..
theorem ux {α:Type} [BEq α] [LawfulBEq α] [DecidableEq α] {k:α} {v:Val} {es:List (α×Val)} (h:es.lookup k=none):putK k v es=es++[(k,v)]:=by
 unfold putK
 rw [if_neg fun e=>(by obtain ⟨p,hp,hk⟩:=List.any_eq_true.mp e;exact bne_iff_ne.mp (List.lookup_eq_none_iff.mp h p hp) (of_decide_eq_true hk).symm)]
noncomputable def qE (ad:Int→Addr):Nat→List (Int×Val)
 | 0=>[]
 | n+1=>qE ad n++[((n:Int)+1,.ref (ad ((n:Int)+1)))]
noncomputable def Iz (ad:Int→Addr) (ep:Nat):Nat→MO
 | 0=>.ax [] ep
 | n+1=>.cz (qE ad (n+1)) ep
noncomputable def OD (ad:Int→Addr) (n:Nat) (v:Addr) (q:Int):Addr:=bif decide (q=(n:Int)+1) then v else ad q
section
variable {ad:Int→Addr} {n:Nat} {q:Int} {v:Addr}
theorem pQ:OD ad n v ((n:Int)+1)=v:=by unfold OD;rw [decide_eq_true rfl];rfl
theorem Pl.ne (h:Pl 0 n q):q≠(n:Int)+1:=fun e=>Int.lt_irrefl _ (Int.lt_of_lt_of_le (Int.lt_succ (n:Int)) (e▸h.2))
theorem my (h:Pl 0 n q):OD ad n v q=ad q:=by unfold OD;rw [decide_eq_false h.ne];rfl
theorem SS:Pl 0 n q→Pl 0 (n+1) q:=fun h=>h.mono (Nat.le_refl _) (Nat.le_succ _)
theorem OE:Pl 0 (n+1) ((n:Int)+1):=OA.mono (Nat.zero_le _) (Nat.le_refl _)
theorem GQ (h:¬Pl 0 n q):(qE ad n).lookup q=none:=by
 induction n with
 | zero=>rfl
 | succ n ih=>rw [qE,List.lookup_append,ih fun k=>h (SS k),List.lookup_cons,beq_eq_false_iff_ne.mpr fun (e:q=(n:Int)+1)=>h (e▸OE)];rfl
theorem JJ (h:Pl 0 n q):(qE ad n).lookup q=some (.ref (ad q)):=by
 induction n with
 | zero=>exact absurd h.1 (Int.not_lt.mpr h.2)
 | succ n ih=>
   rw [qE,List.lookup_append]
   rcases h.cut n with a | b
   ·rw [ih a];rfl
   ·rw [EC b,GQ fun k=>k.ne rfl,List.lookup_cons,beq_self_eq_true];rfl
theorem IB {ad':Int→Addr} (h:∀q,Pl 0 n q→ad' q=ad q):qE ad' n=qE ad n:=by
 induction n with
 | zero=>rfl
 | succ n ih=>rw [qE,qE,ih fun q hq=>h q (SS hq),h _ OE]
theorem OF:(qE ad n).length=n:=by
 induction n with
 | zero=>rfl
 | succ n ih=>rw [qE,List.length_append,ih];rfl
theorem GR {ep:Nat} (h:Pl 0 n q):Iz ad ep n= .cz (qE ad n) ep:=by
 cases n with
 | zero=>exact absurd h.1 (Int.not_lt.mpr h.2)
 | succ n=>rfl
theorem RE {m:MH} {fd:Addr} {ep:Nat} {Q:MH→Prop} (e:m fd=some (Iz ad ep n)) (hn:n<bw) (k:∀ep',Q (m.set fd (Iz (OD ad n v) ep' (n+1)))):bb m (.ref v) Q (.ref fd) (.int ((n:Int)+1)):=by
 have eq:qE (OD ad n v) (n+1)=qE ad n++[((n:Int)+1,.ref v)]:=by rw [qE,IB fun q hq=>my hq,pQ]
 cases n with
 | zero=>exact .nil e k
 | succ n=>exact .cz e (by rw [OF];exact hn) fun ep'=>by rw [ux (GQ fun h=>h.ne rfl),←eq];exact k ep'
end
structure IC (m:MH) (sf:Addr) (O:Addr→Prop) (n:Nat) (names:List Str) (fol:Int→LI) (nl fd:Addr) (ad:Int→Addr) (ep:Nat):Prop where
 me:m sf=some (.inst "Automaton" [("names",.ref nl),("follow",.ref fd)])
 nm:m nl=some (.list (aw names))
 nn:names.length=n
 fo:m fd=some (Iz ad ep n)
 ls:∀{q},Pl 0 n q→m (ad q)=some (.list (bj (fol q)))
 inj:∀{q q'},Pl 0 n q→Pl 0 n q'→ad q=ad q'→q=q'
 an:∀{q},Pl 0 n q→ad q≠nl
 on:O nl
 od:O fd
 oa:∀{q},Pl 0 n q→O (ad q)
 ex:∀{a},O a→m a≠none
def kq (m:MH) (sf:Addr) (O:Addr→Prop) (n:Nat) (names:List Str) (fol:Int→LI):Prop:=∃nl fd ad ep,IC m sf O n names fol nl fd ad ep
def Fo (n:Nat) (fol:Int→LI):Prop:=∀{q},Pl 0 n q→Rg 0 n (fol q)
theorem RS.In.fo {lo hi:Nat} {iw:Int→LI} {s:RS} (h:s.In lo hi iw) (k:Fo lo iw):Fo hi s.fol:=fun {q} hq=>(hq.cut lo).elim (fun a=>h.o a▸(k a).mono (Nat.le_refl _) h.le) fun a=>(h.g a).mono (Nat.zero_le _) (Nat.le_refl _)
section
variable {m m' mh:MH} {sf x:Addr} {O O':Addr→Prop} {n n':Nat} {names names':List Str} {fol:Int→LI} {nl fd:Addr} {ad:Int→Addr} {ep:Nat}
theorem IC.ne {l:List Val} (A:IC m sf O n names fol nl fd ad ep) (h:m x=some (.list l)):sf≠x∧fd≠x:=by
 refine ⟨fun q=>?_,fun q=>?_⟩
 ·rw [←q,A.me] at h;cases h
 ·rw [←q,A.fo] at h;cases n<;>cases h
theorem kq.set {o:MO} (A:kq m sf O n names fol) (h:¬O x) (hx:m x=none∨∃l,m x=some (.list l)):kq (m.set x o) sf O n names fol:=
 let ⟨nl,fd,ad,ep,A⟩:=A
 have k:∀{a o'},O a→m a=some o'→m.set x o a=some o':=fun {a o'} ha e=>(MH.ae _ _ fun (q:a=x)=>h (q▸ha)).trans e
 ⟨nl,fd,ad,ep,(MH.ae _ _ fun q=>hx.elim (fun z=>by rw [←q,A.me] at z;exact c5 z) fun ⟨l,z⟩=>(A.ne z).1 q).trans A.me,k A.on A.nm,A.nn,k A.od A.fo,fun hq=>k (A.oa hq) (A.ls hq),A.inj,A.an,A.on,A.od,A.oa,fun {a} ha e=>by rw [MH.ae _ _ fun (q:a=x)=>h (q▸ha)] at e;exact A.ex ha e⟩
theorem kq.ex (A:kq m sf O n names fol) (h:m x=none):¬O x:=fun k=>A.choose_spec.choose_spec.choose_spec.choose_spec.ex k h
structure AW (mh m:MH) (sf:Addr) (O O':Addr→Prop) (n:Nat) (names:List Str) (s:RS) (b e:Addr):Prop where
 A:kq m sf O' n names s.fol
 sub:∀{a},O' a→O a∨mh a=none
 hb:m b=some (.list (bj s.F))
 he:m e=some (.list (bj s.L))
 be:b≠e
 bn:mh b=none
 en:mh e=none
 bo:¬O' b
 eo:¬O' e
 fr:Fr O mh m
theorem AW.new {s:RS} {o o':Addr} (A:kq m sf O' n names s.fol) (sub:∀{a},O' a→O a∨mh a=none) (fr:Fr O mh m) (h:m o=none) (h':(m.set o (.list (bj s.F))) o'=none):AW mh ((m.set o (.list (bj s.F))).set o' (.list (bj s.L))) sf O O' n names s o o':=by
 have ne:=eH (MH.set_same ..) h'
 have z:=(MH.Le.set h).none h'
 exact ⟨(A.set (A.ex h) (.inl h)).set (A.ex z) (.inl h'),sub,(MH.ae _ _ ne).trans (MH.set_same ..),MH.set_same ..,ne,fr.sQ h,fr.sQ z,A.ex h,A.ex z,(fr.set (.inr (fr.sQ h))).set (.inr (fr.sQ z))⟩
theorem OG {lo UT hi PA:Nat} {l l':LI} (h:Rg lo hi l) (h':Rg UT PA l') (k:hi≤30) (k':PA≤30):l.length+l'.length<64:=Nat.lt_of_le_of_lt (Nat.add_le_add (Nat.le_trans h.len k) (Nat.le_trans h'.len k')) (by decide)
variable {c:Cfg} {D k:Nat} {Q:VQ} {F:cp c}
theorem fO (F:cp c) (hD:0<D) {a b:Addr} (hab:b≠a) {xs ys:LI} (ha:mh a=some (.list (bj xs))) (hb:mh b=some (.list (bj ys))) (hl:xs.length+ys.length<64) (h:Q .none (mh.set a (.list (bj (sD xs ys))))):aq c D "add_all" [.ref a,.ref b] mh Q:=by
 refine (F.f 13).has.go F hD rfl NI (jy (g:=Val.int) (l:=ys) (fun j=>[some (.ref a),some (.ref b),j]) (fun pre zz m=>m=mh.set a (.list (bj (fY xs pre)))) none rfl rfl (fun zz zz zz e=>.list (e▸(MH.ae _ _ hab).trans hb)) (fun pre x d9 j m K e I hK zz=>?_) (MH.OC ha).symm fun j m I=>?_)
 ·subst I
  have e2:fY xs (pre++[x])=jz (fY xs pre) x:=List.foldl_append
  refine F0.mpr (mJ.PX (MH.set_same ..) ix ?_)
  unfold jz at e2
  show br (!(fY xs pre).contains x) _ _
  cases h6:(fY xs pre).contains x with
  | true=>exact hK _ _ (by rw [e2,h6];rfl)
  | false=>
    rw [h6] at e2
    exact je (MH.set_same ..) (by rw [p8];exact Nat.lt_trans (Nat.lt_of_le_of_lt GO (Nat.lt_trans (Nat.add_lt_add_left (ur e) _) hl)) (by decide)) (hK _ _ (by rw [e2,MH.set_set];exact congrArg (fun l=>mh.set a (.list l)) (List.map_append (f:=Val.int) (l₂:=[x])).symm))
 ·subst I
  exact F1.mpr (.list (MH.set_same ..) rfl (.sort (MH.set_same ..) ix (Nat.lt_of_le_of_lt GO hl) (by rw [MH.set_set];exact h)))
theorem OH (F:cp c) (hD:1<D) (A:kq mh sf O n names fol) (hn:n≤30) (ok:Fo n fol) {e b:Addr} {E B:LI} (he:mh e=some (.list (bj E))) (hb:mh b=some (.list (bj B))) (rE:Rg 0 n E) (rB:Rg 0 n B) (ne:¬O e) (nb:¬O b)
 (h:∀m',kq m' sf O n names (joinM E B fol)→Fr O mh m'→Q .none m'):cb c D "Automaton" "join" [.ref sf,.ref e,.ref b] mh Q:=by
 refine (F.m 6).has.go F hD rfl vO (jy (g:=Val.int) (l:=E) (fun j=>[some (.ref sf),some (.ref e),some (.ref b),j]) (fun pre zz m=>kq m sf O n names (joinM pre B fol)∧Fr O mh m) none rfl rfl (fun zz zz zz I=>.list (I.2.keep ne he)) (fun pre q d9 j m K e' I hK zz=>?_) ⟨A,.refl⟩ fun j m I=>qh.mpr (h m I.1 I.2))
 obtain ⟨nl,fd,ad,ep,A⟩:=I.1
 have hq:=rE.2 q (qD e')
 have fo:=A.fo
 rw [GR hq] at fo
 have hla:=A.ls hq
 refine qg.mpr ⟨(F.f 13).ok,ao.mk A.me rfl rfl (ay.cz fo (JJ hq) (fO F (by decide) (fun z=>nb (z▸A.oa hq)) hla (I.2.keep nb hb) (OG (Rg.join (ok hq) rB) rB hn hn) (hK _ _ ⟨⟨nl,fd,ad,ep,?_⟩,I.2.set (.inl (A.oa hq))⟩)))⟩
 have ej:joinM (pre++[q]) B fol=wN B (joinM pre B fol) q:=List.foldl_append
 rw [ej]
 refine ⟨(MH.ae _ _ (A.ne hla).1).trans A.me,(MH.ae _ _ (A.an hq).symm).trans A.nm,A.nn,(MH.ae _ _ (A.ne hla).2).trans A.fo,fun {p} hp=>?_,A.inj,A.an,A.on,A.od,A.oa,fun {a} ha z=>A.ex ha (bV z)⟩
 by_cases h:p=q
 ·rw [h,sE];exact MH.set_same ..
 ·rw [jf h];exact (MH.ae _ _ fun z=>h (A.inj hp hq z)).trans (A.ls hp)
theorem zG (F:cp c) (hD:2<D) {O0:Addr→Prop} {s:RS} {b e:Addr} {n0:Nat} {iw:Int→LI} {mk:Str} (P:AW mh m sf O0 O n names s b e) (hn:n≤30) (i:s.In n0 n iw) (ok:Fo n0 iw)
 (h:∀m' b e,AW mh m' sf O0 O n names (s.JI mk) b e→Q (.tup [.bool (s.JI mk).N,.ref b,.ref e]) m'):cb c D "Automaton" "marked" [.ref sf,.tup [.bool s.N,.ref b,.ref e],.str mk] m Q:=by
 have fl:=cJ (Nat.lt_of_le_of_lt (Nat.le_trans (i.f.mono (Nat.zero_le _) (Nat.le_refl _)).len hn) (by decide:30<1000))
 have ll:=cJ (Nat.lt_of_le_of_lt (Nat.le_trans (i.l.mono (Nat.zero_le _) (Nat.le_refl _)).len hn) (by decide:30<1000))
 rw [←p8] at fl ll
 have rest:∀m',kq m' sf O n names (s.JI mk).fol→Fr O m m'→d4 Q (.ref e) (.ref b) (.str mk) (.bool s.N) m':=fun m' A' fr=>by
  have hb:=fr.keep P.bo P.hb
  have he:=fr.keep P.eo P.he
  have fin:∀r,(s.N || isOpt mk)=r→d3 Q (.ref e) (.ref b) (.bool r) m':=fun r hr=>.list (.list hb) fl fun o ho=>.list (.list ((MH.Le.set ho) _ _ he)) ll fun o' Cg=>hr▸h _ _ _ (.new (s:=s.JI mk) A' P.sub (P.fr.trans fr fun zz=>P.sub) ho Cg)
  refine .mk ?_
  cases hN:s.N with
  | true=>exact fin true (by rw [hN];rfl)
  | false=>exact mJ.wR (cg ["?","*"]) (fin _ (by rw [hN];rfl))
 refine (F.m 5).has.go F hD rfl rQ (Hi.mk (mJ.wR (cg ["*","+"]) ?_))
 show br (dR mk) _ _
 have ef:(s.JI mk).fol=bif dR mk then joinM s.L s.F s.fol else s.fol:=rfl
 cases hm:dR mk with
 | true=>rw [hm] at ef;exact bc P.A.choose_spec.choose_spec.choose_spec.choose_spec.me rfl (F.m 6).ok (OH F (by decide) P.A hn (i.fo ok) P.he P.hb (i.l.mono (Nat.zero_le _) (Nat.le_refl _)) (i.f.mono (Nat.zero_le _) (Nat.le_refl _)) P.eo P.bo fun m' A' fr=>rest m' (ef▸A') fr)
 | false=>rw [hm] at ef;exact rest m (ef▸P.A) .refl
end
noncomputable def fz.All (R:Pt→Prop):fz→Prop
 | .nil=>True
 | .cons p l=>R p∧l.All R
theorem ID {σ:Type} (V:σ→St) (I:fz→σ→MH→Prop) {R:Pt→Prop} {turn:Val→St→MH→aE→Prop} {vs:St} {m:MH} {Q:aE} {l:fz} (s0:σ) (hv:vs=V s0) (hr:l.All R)
 (ht:∀p l s m (K:aE),R p→I (.cons p l) s m→(∀s' m',I l s' m'→K none (V s') m')→turn p.val (V s) m K) (hi:I l s0 m) (he:∀s m,I .nil s m→Q none (V s) m):dc turn (.tup l.vals) vs m Q:=by
 subst hv
 refine ⟨l.vals,none,?_⟩
 suffices ∀l':fz,l'.All R→∀s m,I l' s m→E8 (fun m=>Walk m (.tup l.vals) l.vals none) turn l'.vals (V s) m Q from this l hr s0 m hi
 exact (Pt.ind (P:=fun zz=>True) (fun zz zz=>trivial) (fun zz zz zz=>trivial) (fun zz zz zz=>trivial) (fun zz s m h=>⟨.tup,he s m h⟩) fun p l' zz ih hr s m h=>⟨.tup,ht p l' s m _ hr.1 h (ih hr.2)⟩).2
def RD (c:Cfg) (k:Nat) (p:Pt):Prop:=∀{mh:MH} {Q:VQ} {sf:Addr} {O:Addr→Prop} {n:Nat} {names:List Str} {fol:Int→LI},kq mh sf O n names fol→n+p.size≤30→Fo n fol→
 (∀m' O' b e,AW mh m' sf O O' (n+p.size) (names++p.bu) (p.rd n fol) b e→Q (.tup [.bool (p.rd n fol).N,.ref b,.ref e]) m')→cb c k "Automaton" "read" [.ref sf,p.val] mh Q
structure LS where
 s:RS
 n:Nat
 names:List Str
 O:Addr→Prop
 x:Addr
 a:Option Val
 b:Option Val
 c:Option Val
 d:Option Val
structure RF (mh:MH) (sf f:Addr) (O:Addr→Prop) (n0:Nat) (fol:Int→LI) (g:fz→Nat→RS→RS) (z:RS) (nz:Nat) (RG:List Str) (l:fz) (S:LS) (m:MH):Prop where
 P:AW mh m sf O S.O S.n S.names S.s f S.x
 i:S.s.In n0 S.n fol
 es:g l S.n S.s=z
 en:S.names++l.bu=RG
 ez:S.n+l.size=nz
section
variable {m m2 m4 mh:MH} {sf f l g k x:Addr} {O O1 O2:Addr→Prop} {n n1 n2 n0:Nat} {names names1 names2:List Str} {s t u:RS} {fol:Int→LI}
theorem AW.next (P:AW mh m sf O O1 n1 names1 s f l) (P2:AW m m2 sf O1 O2 n2 names2 t g k) (A:kq m4 sf O2 n2 names2 u.fol) (fr:Fr (fun a=>O2 a∨a=f∨a=l) m2 m4) (hF:m4 f=some (.list (bj u.F))) (hL:m4 x=some (.list (bj u.L))) (hx:x=l∨m2 x=none):AW mh m4 sf O O2 n2 names2 u f x:=by
 have old:∀{a o},m a=some o→¬O1 a→¬O2 a:=fun e h k=>(P2.sub k).elim h fun z=>by exact bQ e z
 refine ⟨A,fun k=>(P2.sub k).elim P.sub fun z=>.inr (P.fr.sQ z),hF,hL,?_,P.bn,?_,old P.hb P.bo,?_,(P.fr.trans P2.fr fun zz=>P.sub).trans fr fun a ha=>ha.elim (fun h=>(P2.sub h).elim P.sub fun z=>.inr (P.fr.sQ z)) fun h=>.inr (h.elim (fun e=>e▸P.bn) fun e=>e▸P.en)⟩
 all_goals rcases hx with rfl | hx
 ·exact P.be
 ·exact fun e=>by have h:=P.hb;rw [e,P2.fr.sQ hx] at h;exact a8 h
 ·exact P.en
 ·exact P.fr.sQ (P2.fr.sQ hx)
 ·exact old P.he P.eo
 ·exact P2.A.ex hx
variable {c:Cfg} {D d:Nat} {Q:VQ}
theorem OI (F':cp c) (hd:1<d) {v7 cV:Val} {K:aE} (P:AW mh m sf O O1 n1 names1 s f l) (i:s.In n0 n1 fol) (ok:Fo n0 fol) (P2:AW m m2 sf O1 O2 n2 names2 t g k) (i2:t.In n1 n2 s.fol) (hn:n2≤30)
 (hK:∀m4 x,AW mh m4 sf O O2 n2 names2 (s.cat t) f x→K none [some (.ref sf),some v7,some (.bool (s.cat t).N),some (.ref f),some (.ref x),some cV,some (.bool t.N),some (.ref g),some (.ref k)] m4):
 eT c d (.ref sf) (.ref l) (.ref f) K v7 cV (.bool s.N) (.bool t.N) (.ref g) (.ref k) m2:=by
 have h1:=Nat.le_trans i2.le hn
 have old:∀{a o},m a=some o→¬O1 a→¬O2 a:=fun e h k=>(P2.sub k).elim h fun z=>by exact bQ e z
 have of:=old P.hb P.bo
 have ol:=old P.he P.eo
 have rL:=i.l.mono (Nat.zero_le _) i2.le
 have rF:=i2.f.mono (Nat.zero_le _) (Nat.le_refl n2)
 have ng:=eH P.hb P2.bn
 have nk:=eH P.hb P2.en
 have PS:=eH P.he P2.en
 refine bc P2.A.choose_spec.choose_spec.choose_spec.choose_spec.me rfl (F'.m 6).ok (OH F' hd P2.A hn (i2.fo (i.fo ok)) (P2.fr.keep P.eo P.he) P2.hb rL rF ol P2.bo fun m3 A3 fA=>?_)
 have hf:=fA.keep of (P2.fr.keep P.bo P.hb)
 have hl:=fA.keep ol (P2.fr.keep P.eo P.he)
 have hg:=fA.keep P2.bo P2.hb
 have hk:=fA.keep P2.eo P2.he
 have nx:∀m4 x,m4 f=some (.list (bj (s.cat t).F))→m4 x=some (.list (bj (s.cat t).L))→kq m4 sf O2 n2 names2 (joinM s.L t.F t.fol)→Fr (fun a=>O2 a∨a=f∨a=l) m2 m4→(x=l∨m2 x=none)→∀b,(s.N&&t.N)=b→K none [some (.ref sf),some v7,some (.bool b),some (.ref f),some (.ref x),some cV,some (.bool t.N),some (.ref g),some (.ref k)] m4:=
  fun m4 x hF hL A fr hx b hb=>hb▸hK m4 x (P.next P2 A fr hF hL hx)
 have fA:Fr (fun a=>O2 a∨a=f∨a=l) m2 m3:=⟨fun n e=>fA.keep (fun h=>n (.inl h)) e,fA.sQ⟩
 -- behind the first Yk
 have rest:∀m',m' f=some (.list (bj (s.cat t).F))→m' l=some (.list (bj s.L))→m' k=some (.list (bj t.L))→kq m' sf O2 n2 names2 (joinM s.L t.F t.fol)→Fr (fun a=>O2 a∨a=f∨a=l) m2 m'→
  dI c d (.ref k) K (.ref sf) v7 (.ref f) cV (.bool t.N) (.ref g) (.bool s.N) (.ref l) m':=fun m' hf hl hk A fr=>by
  have fin:∀E1 x,E1 f=some (.list (bj (s.cat t).F))→E1 x=some (.list (bj (bif t.N then s.L else [])))→E1 k=some (.list (bj t.L))→k≠x→f≠x→¬O2 x→kq E1 sf O2 n2 names2 (joinM s.L t.F t.fol)→Fr (fun a=>O2 a∨a=f∨a=l) m2 E1→(x=l∨m2 x=none)→
   dH c d (.ref k) K (.ref sf) v7 (.ref f) cV (.bool t.N) (.ref g) (.bool s.N) (.ref x) E1:=fun E1 x hf hx hk nk nf ox A fr ho=>by
   refine ⟨(F'.f 13).ok,fO F' (Nat.lt_of_succ_lt hd) nk hx hk (OG (lo:=0) (hi:=n2) ?_ (i2.l.mono (Nat.zero_le _) (Nat.le_refl _)) hn hn) (.mk ?_)⟩
   ·cases t.N with
    | true=>exact rL
    | false=>exact .nil
   have go:=nx (E1.set x (.list (bj (s.cat t).L))) x ((MH.ae _ _ nf).trans hf) (MH.set_same ..) (A.set ox (.inr ⟨_,hx⟩)) (fr.set (ho.elim (fun e=>.inl (.inr (.inr e))) .inr)) ho
   cases hN:s.N with
   | true=>exact go _ (by rw [hN];rfl)
   | false=>exact go _ (by rw [hN];rfl)
  refine .mk ?_
  rcases Bool.eq_false_or_eq_true t.N with hN | hN
  ·exact cI (by rw [hN];rfl) (fin m' l hf (by rw [hN];exact hl) hk PS.symm P.be ol A fr (.inl rfl))
  ·refine dj (by rw [hN];rfl) fun x hx=>fin _ x ((MH.Le.set hx) _ _ hf) (by rw [hN];exact MH.set_same ..) ((MH.Le.set hx) _ _ hk) (eH hk hx) (eH hf hx) (A.ex hx) (A.set (A.ex hx) (.inl hx)) (fr.set (.inr (fr.sQ hx))) (.inr (fr.sQ hx))
 refine .mk ?_
 have ef:(s.cat t).F=bif s.N then sD s.F t.F else s.F:=rfl
 cases hN:s.N with
 | true=>
   rw [hN] at ef rest
   exact ⟨(F'.f 13).ok,fO F' (Nat.lt_of_succ_lt hd) ng.symm hf hg (OG i.f i2.f h1 hn) (rest _ (ef▸MH.set_same ..) ((MH.ae _ _ P.be.symm).trans hl) ((MH.ae _ _ nk.symm).trans hk) (A3.set of (.inr ⟨_,hf⟩)) (fA.set (.inl (.inr (.inl rfl)))))⟩
 | false=>rw [hN] at ef rest;exact rest _ (ef▸hf) hl hk A3 fA
theorem RF.next {p:Pt} {l':fz} {G:fz→Nat→RS→RS} {z:RS} {nz:Nat} {RG:List Str} {S:LS} {m:MH} (I:RF mh sf f O n0 fol G z nz RG (.cons p l') S m) {S':LS} {m':MH} (P:AW mh m' sf O S'.O S'.n S'.names S'.s f S'.x) (i:S'.s.In n0 S'.n fol) (en:S'.names=S.names++p.bu) (ez:S'.n=S.n+p.size)
 (es:G l' S'.n S'.s=z):RF mh sf f O n0 fol G z nz RG l' S' m':=
 ⟨P,i,es,by rw [en,List.append_assoc];exact I.en,by rw [ez,Nat.add_assoc,←List.length_append];exact I.ez⟩
theorem RF.le {p:Pt} {l':fz} {G:fz→Nat→RS→RS} {z:RS} {nz:Nat} {RG:List Str} {S:LS} {m:MH} (I:RF mh sf f O n0 fol G z nz RG (.cons p l') S m):S.n+p.size≤nz:=by
 rw [←I.ez,show (fz.cons p l').size=p.size+l'.size from List.length_append,←Nat.add_assoc];exact Nat.le_add_right ..
theorem RF.fin {G:fz→Nat→RS→RS} {z:RS} {nz:Nat} {RG:List Str} {S:LS} {m:MH} (I:RF mh sf f O n0 fol G z nz RG .nil S m) (hG:∀n s,G .nil n s=s):AW mh m sf O S.O nz RG z f S.x∧z.N=S.s.N:=by
 have h:=I.P
 have es:=(hG _ _).symm.trans I.es
 have en:=(List.append_nil _).symm.trans I.en
 rw [es,en,show S.n=nz from I.ez] at h
 exact ⟨h,es▸rfl⟩
theorem IF (F:cp c) (hD:d<D) (hd:1<d) {L:fz} (hR:L.All (RD c d)) {n:Nat} (A:kq mh sf O n names fol) (hn:n+L.size≤30) (ok:Fo n fol)
 (h:∀m' O' b e,AW mh m' sf O O' (n+L.size) (names++L.bu) (L.SP n ⟨true,[],[],fol⟩) b e→Q (.tup [.bool (L.SP n ⟨true,[],[],fol⟩).N,.ref b,.ref e]) m'):cb c D "Automaton" "read_row" [.ref sf,.tup L.vals] mh Q:=by
 refine (F.m 3).has.go F hD rfl oQ fun f hf x hx=>Hi.mk ?_
 refine ID (fun S:LS=>[some (.ref sf),some (.tup L.vals),some (.bool S.s.N),some (.ref f),some (.ref S.x),S.a,S.b,S.c,S.d]) (RF mh sf f O n fol fz.SP (L.SP n ⟨true,[],[],fol⟩) (n+L.size) (names++L.bu)) ⟨⟨true,[],[],fol⟩,n,names,O,x,none,none,none,none⟩ rfl hR (fun p l' S m K Rp I hK=>?_)
  ⟨.new (s:=⟨true,[],[],fol⟩) A .inl .refl hf hx,.nil,rfl,rfl,rfl⟩ fun S m I=>jX.mpr ((I.fin fun zz zz=>rfl).2▸h _ _ _ _ (I.fin fun zz zz=>rfl).1)
 refine jW.mpr (bc I.P.A.choose_spec.choose_spec.choose_spec.choose_spec.me rfl (F.m 2).ok (Rp I.P.A (Nat.le_trans I.le hn) (I.i.fo ok) fun m2 O2 g k P2=>.mk ?_))
 have i2:=pP.1 p S.n S.s.fol
 exact OI F hd I.P I.i ok P2 i2 (Nat.le_trans I.le hn) fun m4 x P4=>hK ⟨S.s.cat (p.rd S.n S.s.fol),S.n+p.size,S.names++p.bu,O2,x,_,_,_,_⟩ m4 (I.next P4 (I.i.cat i2) rfl rfl I.es)
theorem GS (F':cp c) (hd:1<d) {v7 cV:Val} {K:aE} (P:AW mh m sf O O1 n1 names1 s f l) (i:s.In n0 n1 fol) (P2:AW m m2 sf O1 O2 n2 names2 t g k) (i2:t.In n1 n2 s.fol) (hn:n2≤30)
 (hK:∀m4,AW mh m4 sf O O2 n2 names2 (s.alt t) f l→K none [some (.ref sf),some v7,some (.bool (s.alt t).N),some (.ref f),some (.ref l),some cV,some (.bool t.N),some (.ref g),some (.ref k)] m4):
 et c d (.ref f) (.ref l) K (.ref sf) v7 cV (.bool s.N) (.bool t.N) (.ref g) (.ref k) m2:=by
 have h1:=Nat.le_trans i2.le hn
 have old:∀{a o},m a=some o→¬O1 a→¬O2 a:=fun e h k=>(P2.sub k).elim h fun z=>by exact bQ e z
 have hf:=P2.fr.keep P.bo P.hb
 have hl:=(MH.ae m2 (.list (bj (s.alt t).F)) P.be.symm).trans (P2.fr.keep P.eo P.he)
 refine ⟨(F'.f 13).ok,fO F' (Nat.lt_of_succ_lt hd) (eH P.hb P2.bn).symm hf P2.hb (OG i.f i2.f h1 hn) ⟨(F'.f 13).ok,fO F' (Nat.lt_of_succ_lt hd) (eH P.he P2.en).symm hl ((MH.ae _ _ (eH P.hb P2.en).symm).trans P2.he) (OG i.l i2.l h1 hn) (.mk ?_)⟩⟩
 have P4:=hK _ (P.next P2 ((P2.A.set (old P.hb P.bo) (.inr ⟨_,hf⟩)).set (old P.he P.eo) (.inr ⟨_,hl⟩)) ((Fr.refl.set (.inl (.inr (.inl rfl)))).set (.inl (.inr (.inr rfl)))) ((MH.ae _ _ P.be).trans (MH.set_same ..)) (MH.set_same ..) (.inl rfl))
 rw [show (s.alt t).N=(s.N || t.N) from rfl] at P4
 cases hN:s.N with
 | true=>rw [hN] at P4;exact P4
 | false=>rw [hN] at P4;exact P4
theorem AX (F:cp c) (hD:d<D) (hd:1<d) {L:fz} (hR:L.All (RD c d)) {n:Nat} (A:kq mh sf O n names fol) (hn:n+L.size≤30) (ok:Fo n fol)
 (h:∀m' O' b e,AW mh m' sf O O' (n+L.size) (names++L.bu) (L.SR n ⟨false,[],[],fol⟩) b e→Q (.tup [.bool (L.SR n ⟨false,[],[],fol⟩).N,.ref b,.ref e]) m'):cb c D "Automaton" "read_choice" [.ref sf,.tup L.vals] mh Q:=by
 refine (F.m 4).has.go F hD rfl jY fun f hf x hx=>Hi.mk ?_
 refine ID (fun S:LS=>[some (.ref sf),some (.tup L.vals),some (.bool S.s.N),some (.ref f),some (.ref S.x),S.a,S.b,S.c,S.d]) (RF mh sf f O n fol fz.SR (L.SR n ⟨false,[],[],fol⟩) (n+L.size) (names++L.bu)) ⟨⟨false,[],[],fol⟩,n,names,O,x,none,none,none,none⟩ rfl hR (fun p l' S m K Rp I hK=>?_)
  ⟨.new (s:=⟨false,[],[],fol⟩) A .inl .refl hf hx,.nil,rfl,rfl,rfl⟩ fun S m I=>ij.mpr ((I.fin fun zz zz=>rfl).2▸h _ _ _ _ (I.fin fun zz zz=>rfl).1)
 refine ig.mpr (bc I.P.A.choose_spec.choose_spec.choose_spec.choose_spec.me rfl (F.m 2).ok (Rp I.P.A (Nat.le_trans I.le hn) (I.i.fo ok) fun m2 O2 g k P2=>.mk ?_))
 have i2:=pP.1 p S.n S.s.fol
 exact GS F hd I.P I.i P2 i2 (Nat.le_trans I.le hn) fun m4 P4=>hK ⟨S.s.alt (p.rd S.n S.s.fol),S.n+p.size,S.names++p.bu,O2,S.x,_,_,_,_⟩ m4 (I.next P4 (I.i.alt i2) rfl rfl I.es)
theorem IC.push {nl fd:Addr} {ad:Int→Addr} {ep ep':Nat} {n:Nat} {x:Str} {a:Addr} {m1:MH} (A:IC mh sf O n names fol nl fd ad ep) (ha:mh a=none) (e1:m1=((mh.set nl (.list (aw (names++[x])))).set a (.list [])).set fd (Iz (OD ad n a) ep' (n+1))):
 kq m1 sf (fun b=>O b∨b=a) (n+1) (names++[x]) (GP n fol)∧Fr O mh m1:=by
 subst e1
 have fr:Fr O mh (((mh.set nl (.list (aw (names++[x])))).set a (.list [])).set fd (Iz (OD ad n a) ep' (n+1))):=((Fr.refl.set (.inl A.on)).set (.inr ha)).set (.inl A.od)
 have no:¬O a:=fun k=>A.ex k ha
 have nn:nl≠a:=fun q:nl=a=>no (q▸A.on)
 have nf:∀{b l},mh b=some (.list l)→b≠fd:=fun h=>(A.ne h).2.symm
 have nd:a≠fd:=fun q:a=fd=>no (q▸A.od)
 have old:∀{q},Pl 0 (n+1) q→Pl 0 n q∨q=(n:Int)+1:=fun h=>(h.cut n).imp id EC
 have nO:∀{q q'},Pl 0 n q→Pl 0 (n+1) q'→q'=(n:Int)+1→OD ad n a q≠OD ad n a q':=fun h h' e q=>by rw [my h,e,pQ] at q;exact no (q▸A.oa h)
 refine ⟨⟨nl,fd,OD ad n a,ep',(MH.ae _ _ fun q=>?_).trans ((MH.ae _ _ fun q=>?_).trans ((MH.ae _ _ (A.ne A.nm).1).trans A.me)),(MH.ae _ _ (nf A.nm)).trans ((MH.ae _ _ nn).trans (MH.set_same ..)),by rw [List.length_append,A.nn];rfl,MH.set_same ..,fun {q} hq=>?_,fun {q q'} hq JK e=>?_,fun {q} hq=>?_,.inl A.on,.inl A.od,fun {q} hq=>?_,fun {b} hb z=>?_⟩,fr⟩
 ·have h:=A.fo;rw [←q,A.me] at h;cases n<;>cases h
 ·rw [←q,A.me] at ha;exact c5 ha
 ·rcases old hq with h | h
  ·rw [my h,show GP n fol q=fol q from by unfold GP;rw [decide_eq_false h.ne];rfl]
   exact (MH.ae _ _ (nf (A.ls h))).trans ((MH.ae _ _ fun q:ad _=a=>no (q▸A.oa h)).trans ((MH.ae _ _ (A.an h)).trans (A.ls h)))
  ·rw [h,pQ,show GP n fol ((n:Int)+1)=[] from by unfold GP;rw [decide_eq_true rfl];rfl]
   exact (MH.ae _ _ nd).trans (MH.set_same ..)
 ·rcases old hq with h | h
  ·rcases old JK with h' | h'
   ·rw [my h,my h'] at e;exact A.inj h h' e
   ·exact absurd e (nO h JK h')
  ·rcases old JK with h' | h'
   ·exact absurd e.symm (nO h' hq h)
   ·exact h.trans h'.symm
 ·rcases old hq with h | h
  ·rw [my h];exact A.an h
  ·rw [h,pQ];exact nn.symm
 ·rcases old hq with h | h
  ·rw [my h];exact .inl (A.oa h)
  ·rw [h,pQ];exact .inr rfl
 ·rcases hb with h | h
  ·exact A.ex h (fr.sQ z)
  ·rw [h,MH.ae _ _ nd,MH.set_same] at z;exact c5 z
theorem Pt.ED:∀l:fz,4≤l.E0:=(Pt.ind (P:=fun zz=>True) (fun zz zz=>trivial) (fun zz zz zz=>trivial) (fun zz zz zz=>trivial) (Nat.le_refl _) fun p l zz h=>Nat.le_trans h (Nat.le_max_right ..)).2
theorem UU (F:cp c):(∀p:Pt,∀d,p.E0≤d→RD c d p)∧∀l:fz,∀d,l.E0≤d→l.All (RD c d):=by
 refine Pt.ind (fun x mk d hd=>?_) (fun l mk hl d hd=>?_) (fun l mk hl d hd=>?_) (fun zz zz=>trivial) fun p l hp hl d hd=>⟨hp d (Nat.le_trans (Nat.le_max_left ..) hd),hl d (Nat.le_trans (Nat.le_max_right ..) hd)⟩
 all_goals intro mh Q sf O n names fol A hn ok h
 ·obtain ⟨nl,fd,ad,ep,A⟩:=A
  have SU:(aw names).length=n:=(List.length_map ..).trans A.nn
  have lim:n<bw:=Nat.lt_trans hn (by decide)
  refine (F.m 2).has.go F hd rfl fM (.seq .tup (Int.le_refl 0) (by decide) rfl (cM.str (ao.mk A.me rfl rfl (.list A.nm rfl (.seq .tup (by decide) (by decide) rfl (.append A.nm (SU.symm▸lim) ?_))))))
  have ex:aw names++[Val.str x]=aw (names++[x]):=(List.map_append (f:=Val.str) (l₂:=[x])).symm
  have ln:(aw (names++[x])).length=n+1:=by rw [←ex,List.length_append,SU];rfl
  have m1:=(MH.ae mh (.list (aw (names++[x]))) (A.ne A.nm).1).trans A.me
  rw [ex]
  refine ao.mk m1 rfl rfl (xA (MH.set_same ..) (ln.symm▸Nat.lt_of_le_of_lt hn (by decide)) fun a ha=>?_)
  have ha':=bV ha
  rw [ln]
  refine ao.mk ((MH.Le.set ha) _ _ m1) rfl rfl (RE ((MH.Le.set ha) _ _ ((MH.ae _ _ (A.ne A.nm).2).trans A.fo)) lim fun ep'=>?_)
  obtain ⟨A1,fr⟩:=A.push (x:=x) (ep':=ep') ha' rfl
  refine fun b hb e he=>.inst ((MH.Le.set he) _ _ ((MH.Le.set hb) _ _ A1.choose_spec.choose_spec.choose_spec.choose_spec.me)) rfl (F.m 5).ok (.seq .tup (by decide) (by decide) rfl (zG F (by decide) (AW.new (s:=.one n fol) A1 (fun k=>k.imp id fun q=>q▸ha') fr hb he) hn .one ok (h · _)))
 ·refine (F.m 2).has.go F hd rfl fM (.seq .tup (Int.le_refl 0) (by decide) rfl (cM.str (.seq .tup (Int.le_refl 0) (by decide) rfl (cM.str (.inst A.choose_spec.choose_spec.choose_spec.choose_spec.me rfl (F.m 3).ok (.seq .tup (by decide) (by decide) rfl
   (IF F (Nat.lt_succ_self _) (Nat.lt_of_lt_of_le (by decide) (Pt.ED l)) (hl _ (Nat.le_refl _)) A hn ok fun m O' b e P=>?_)))))))
  exact .inst P.A.choose_spec.choose_spec.choose_spec.choose_spec.me rfl (F.m 5).ok (.seq .tup (by decide) (by decide) rfl (zG F (Nat.lt_of_lt_of_le (by decide) (Nat.le_succ_of_le (Pt.ED l))) P hn (pP.2 l .nil).1 ok (h · O')))
 ·refine (F.m 2).has.go F hd rfl fM (.seq .tup (Int.le_refl 0) (by decide) rfl (cM.str (.seq .tup (Int.le_refl 0) (by decide) rfl (cM.str (.inst A.choose_spec.choose_spec.choose_spec.choose_spec.me rfl (F.m 4).ok (.seq .tup (by decide) (by decide) rfl
   (AX F (Nat.lt_succ_self _) (Nat.lt_of_lt_of_le (by decide) (Pt.ED l)) (hl _ (Nat.le_refl _)) A hn ok fun m O' b e P=>?_)))))))
  exact .inst P.A.choose_spec.choose_spec.choose_spec.choose_spec.me rfl (F.m 5).ok (.seq .tup (by decide) (by decide) rfl (zG F (Nat.lt_of_lt_of_le (by decide) (Nat.le_succ_of_le (Pt.ED l))) P hn (pP.2 l .nil).2 ok (h · O')))
end
theorem Xc {σ α:Type} {g:α→Val} {l:List α} {p:α→Bool} (V:σ→St) (R:α→Val→MH→Prop) {turn:Val→St→MH→aE→Prop} {src:Val} {full:List Val} {st:Option MO} {vs:St} {m:MH} {Q:aE} (s0:σ) (hv:vs=V s0) (hw:Walk m src full st) (hf:full=l.map g)
 (ht:∀x∈l,∀s K,(p x=true→∀v mD m',R x v m'→K (some v) mD m')→(p x=false→∀s',K none (V s') m)→turn (g x) (V s) m K)
 (h1:∀x,l.find? p=some x→∀v vs m',R x v m'→Q (some v) vs m') (h0:l.find? p=none→∀s,Q none (V s) m):dc turn src vs m Q:=
 Ex (fun vs=>∃s,vs=V s) R hw hf ((by rintro x hx vs K ⟨s,q⟩ a b;exact by subst q;exact ht x hx s K a fun hp s'=>b hp _ ⟨s',rfl⟩)) ⟨s0,hv⟩ h1 (by rintro e vs ⟨s,q⟩;exact by subst q;exact h0 e s)
noncomputable def Pt.R (p:Pt):RS:=p.rd 0 fun zz=>[]
noncomputable def RS.next (s:RS) (q:Int):LI:=bif decide (q=0) then s.F else s.fol q
noncomputable def uy (eJ:List Str) (q:Int):Str:=eJ[(q - 1).toNat]?.getD ""
noncomputable def GU (eJ:List Str) (nm:Str) (x:Int):Bool:=decide (uy eJ x=nm)
noncomputable def qT (p:Pt) (nm:Str) (z:LI) (q:Int):LI:=sD z ((p.R.next q).filter (GU p.bu nm))
noncomputable def iy (p:Pt) (st:LI) (nm:Str):LI:=st.foldl (qT p nm) []
noncomputable def JL (p:Pt) (q:Int):Bool:=p.R.L.contains q || (decide (q=0)&&p.R.N)
noncomputable def RH (p:Pt) (st:LI):Bool:=(st.find? (JL p)).isSome
noncomputable def runM (p:Pt) (st:LI):List Str→Bool
 | []=>RH p st
 | x::w=>bif (bj (iy p st x)).isEmpty then false else runM p (iy p st x) w
noncomputable def uz (p:Pt) (w:List Str):Bool:=runM p [0] w
structure AutB (m:MH) (s nl fd f l:Addr) (ad:Int→Addr) (ep:Nat) (p:Pt):Prop where
 me:m s=some (.inst "Automaton" [("names",.ref nl),("follow",.ref fd),("is_nullable",.bool p.R.N),("first",.ref f),("last",.ref l)])
 nm:m nl=some (.list (aw p.bu))
 fo:m fd=some (Iz ad ep p.size)
 ls:∀{q},Pl 0 p.size q→m (ad q)=some (.list (bj (p.R.fol q)))
 hf:m f=some (.list (bj p.R.F))
 hl:m l=some (.list (bj p.R.L))
 sz:p.size≤30
def zH (m:MH) (s:Addr) (p:Pt):Prop:=∃nl fd f l ad ep,AutB m s nl fd f l ad ep p
theorem zH.mono {m m':MH} (k:MH.Le m m') {s:Addr} {p:Pt}:zH m s p→zH m' s p:=(by rintro ⟨nl,fd,f,l,ad,ep,h⟩;exact ⟨nl,fd,f,l,ad,ep,k _ _ h.me,k _ _ h.nm,k _ _ h.fo,fun hq=>k _ _ (h.ls hq),k _ _ h.hf,k _ _ h.hl,h.sz⟩)
noncomputable def IG (m m':MH):MH:=fun a=>match m a with
 | none=>m' a
 | some _=>none
theorem JM {m m':MH} {a:Addr} (h:m a=none):IG m m' a=m' a:=by unfold IG;rw [h]
theorem RI {m m':MH} {a:Addr} {o:MO} (h:IG m m' a=some o):m a=none∧m' a=some o:=by
 unfold IG at h
 cases e:m a with
 | none=>rw [e] at h;exact ⟨rfl,h⟩
 | some o=>rw [e] at h;exact a8 h
theorem Xd (p:Pt):p.R.In 0 p.size fun zz=>[]:=by
 have:=pP.1 p 0 fun zz=>[]
 rw [Nat.zero_add] at this;exact this
section
variable {c:Cfg} {D:Nat} {mh:MH} {Q:VQ} {s:Addr} {p:Pt}
theorem EE {q:Int} (h:q=0∨Pl 0 p.size q):Rg 0 p.size (p.R.next q):=by
 unfold RS.next
 rcases h with rfl | h
 ·exact (Xd p).f
 ·rw [decide_eq_false fun e=>Int.lt_irrefl _ (e▸h.1)];exact (Xd p).g h
theorem RJ {nm:Str} {q:Int} {z:LI} (h:q=0∨Pl 0 p.size q) (hz:Rg 0 p.size z):Rg 0 p.size (qT p nm z q):=
 hz.add ⟨(EE h).1.filter _,fun x hx=>(EE h).2 x (List.mem_filter.mp hx).1⟩
theorem zI {nm:Str} {st z:LI} (h:∀q∈st,q=0∨Pl 0 p.size q) (hz:Rg 0 p.size z):Rg 0 p.size (st.foldl (qT p nm) z):=by
 induction st generalizing z with
 | nil=>exact hz
 | cons q st ih=>exact ih (fun q hq=>h q (List.mem_cons_of_mem _ hq)) (RJ (h q (List.mem_cons_self ..)) hz)
theorem IC.nf {m:MH} {sf nl fd:Addr} {O:Addr→Prop} {n ep:Nat} {names:List Str} {fol:Int→LI} {ad:Int→Addr} (A:IC m sf O n names fol nl fd ad ep):fd≠sf:=fun q=>by
 have h:=A.fo
 rw [q,A.me] at h
 cases n<;>cases h
theorem EF (F:cp c) (hD:p.E0+1<D) (hz:p.size≤30) (h:∀s m',MH.Le mh m'→mh s=none→zH (IG mh m') s p→Q (.ref s) m'):aq c D "Automaton" [p.val] mh Q:=by
 refine ((F.k 1).callC F hD fun s hs=>(F.m 1).has.callC F (Nat.lt_succ_self _) rfl (oP.mpr fun nl E2=>?_)).yx
 refine .mk ((MH.Le.set E2) _ _ (MH.set_same ..)) rfl (by decide) (dE.mk rfl fun ep zz fd VF=>.mk (fs:=[("names",.ref nl)]) ((MH.Le.set VF) _ _ (MH.set_same ..)) rfl (Nat.le_of_ble_eq_true rfl) ?_)
 have zn:=bV E2
 have zd:=bV (bV (bV VF))
 have IH:=((((MH.Le.set (o:=.inst "Automaton" []) hs).ir (o:=.list []) zn).ir (o:=.inst "Automaton" [("names",.ref nl)]) hs).ir (o:=.ax [] ep) zd).ir (o:=.inst "Automaton" [("names",.ref nl),("follow",.ref fd)]) hs
 have Yl:nl≠s:=fun q=>by rw [q,MH.set_same] at E2;exact c5 E2
 have nsd:fd≠s:=fun q=>by rw [q,MH.set_same] at VF;exact c5 VF
 have nnd:nl≠fd:=fun q=>by rw [←q,MH.ae _ _ Yl,MH.set_same] at VF;exact c5 VF
 have A:kq _ s (fun a=>a=nl∨a=fd) 0 [] (fun zz=>[]):=⟨nl,fd,fun zz=>0,ep,MH.set_same (((((mh.set s (.inst "Automaton" [])).set nl (.list [])).set s (.inst "Automaton" [("names",.ref nl)])).set fd (.ax [] ep))) s (.inst "Automaton" [("names",.ref nl),("follow",.ref fd)]),
  (MH.ae _ _ Yl).trans ((MH.ae _ _ nnd).trans ((MH.ae _ _ Yl).trans (MH.set_same ..))),rfl,(MH.ae _ _ nsd).trans (MH.set_same ..),fun h=>absurd h.1 (Int.not_lt.mpr h.2),fun h=>absurd h.1 (Int.not_lt.mpr h.2),fun h=>absurd h.1 (Int.not_lt.mpr h.2),.inl rfl,.inr rfl,fun h=>absurd h.1 (Int.not_lt.mpr h.2),fun {a} ha e=>by
   have e:=bV e
   rcases ha with rfl | rfl
   ·rw [MH.ae _ _ nnd,MH.ae _ _ Yl,MH.set_same] at e;exact c5 e
   ·rw [MH.set_same] at e;exact c5 e⟩
 refine bc (MH.set_same ..) rfl (F.m 2).ok ((UU F).1 p _ (Nat.le_refl _) A (by rw [Nat.zero_add];exact hz) (fun h=>absurd h.1 (Int.not_lt.mpr h.2)) fun m' O' b e P=>Hi.mk ?_)
 rw [Nat.zero_add] at P
 obtain ⟨SU,J1,ad,ep',A'⟩:=P.A
 have no:∀{x},O' x→mh x=none:=fun k=>(P.sub k).elim (fun k=>k.elim (fun q=>q▸zn) fun q=>q▸zd) fun z=>IH.none z
 have ne:∀{x l},m' x=some (.list l)→x≠s:=fun h=>(A'.ne h).1.symm
 refine .mk (fs:=[("names",.ref SU),("follow",.ref J1)]) A'.me rfl (Nat.le_of_ble_eq_true rfl) (.mk (fs:=[("names",.ref SU),("follow",.ref J1),("is_nullable",.bool p.R.N)]) (MH.set_same ..) rfl (Nat.le_of_ble_eq_true rfl) (.mk (fs:=[("names",.ref SU),("follow",.ref J1),("is_nullable",.bool p.R.N),("first",.ref b)]) (MH.set_same ..) rfl (Nat.le_of_ble_eq_true rfl) ⟨rfl,?_⟩))
 rw [MH.set_set,MH.set_set]
 have at':∀{x o},mh x=none→x≠s→m' x=some o→IG mh (m'.set s (.inst "Automaton" [("names",.ref SU),("follow",.ref J1),("is_nullable",.bool p.R.N),("first",.ref b),("last",.ref e)])) x=some o:=fun z n e=>(JM z).trans ((MH.ae _ _ n).trans e)
 refine h s _ (MH.Le.ir (fun a o k=>P.fr.keep (fun h=>h.elim (fun q=>by rw [q,zn] at k;exact a8 k) fun q=>by rw [q,zd] at k;exact a8 k) (IH _ _ k)) hs) hs ⟨SU,J1,b,e,ad,ep',(JM hs).trans (MH.set_same ..),at' (no A'.on) (ne A'.nm) A'.nm,at' (no A'.od) A'.nf A'.fo,fun hq=>at' (no (A'.oa hq)) (ne (A'.ls hq)) (A'.ls hq),at' (IH.none P.bn) (ne P.hb) P.hb,at' (IH.none P.en) (ne P.he) P.he,hz⟩
theorem L6 (F:cp c) (hD:0<D) (A:zH mh s p) {q:Int} (hq:Pl 0 p.size q) (h:Q (.str (uy p.bu q)) mh):cb c D "Automaton" "name_at" [.ref s,.int q] mh Q:=by
 obtain ⟨nl,fd,f,l,ad,ep,B⟩:=A
 have h0:(0:Int)≤q - 1:=Int.le_sub_one_of_lt hq.1
 have h1:q - 1<(p.bu.length:Int):=Int.lt_of_lt_of_le (Int.sub_lt_self q (by decide)) hq.2
 have h2:(q - 1).toNat<p.bu.length:=(Int.toNat_lt h0).mpr h1
 exact (F.m 7).has.go F hD rfl qi (ao.mk B.me rfl rfl (.sub (.seq (.list B.nm) h0 (Int.lt_trans h1 (fU (Nat.lt_of_le_of_lt B.sz (by decide)))) (by rw [aw,List.getElem?_map,List.getElem?_eq_getElem h2];exact congrArg (fun o=>some (Val.str o)) (by unfold uy;rw [List.getElem?_eq_getElem h2];rfl)) h)))
theorem OJ (F:cp c) (hD:0<D) (A:zH mh s p) {q:Int} (hq:q=0∨Pl 0 p.size q) (h:∀a,mh a=some (.list (bj (p.R.next q)))→Q (.ref a) mh):cb c D "Automaton" "behind" [.ref s,.int q] mh Q:=by
 obtain ⟨nl,fd,f,l,ad,ep,B⟩:=A
 unfold RS.next at h
 refine (F.m 8).has.go F hD rfl rW (fX (F.g 2) (cM.int ?_))
 rcases hq with rfl | hq
 ·exact ao.mk B.me rfl rfl (h _ B.hf)
 ·have e:=decide_eq_false fun e:q=0=>Int.lt_irrefl _ (e▸hq.1)
  have fo:=B.fo
  rw [GR hq] at fo
  rw [e] at h
  exact cI e (ao.mk B.me rfl rfl (ay.cz fo (JJ hq) (h _ (B.ls hq))))
theorem UW (F:cp c) (hD:1<D) (A:zH mh s p) {st:LI} {nm:Str} (hr:∀q∈st,q=0∨Pl 0 p.size q) (h:∀aD,MH.Le mh aD→Q (.tup (bj (iy p st nm))) aD):cb c D "Automaton" "step" [.ref s,.tup (bj st),.str nm] mh Q:=by
 obtain ⟨nl,fd,f,l,ad,ep,B⟩:=id A
 refine (F.m 9).has.go F hD rfl vP fun b hb=>?_
 refine jy (g:=Val.int) (l:=st) (fun j=>[some (.ref s),some (.tup (bj st)),some (.str nm),some (.ref b),j]) (fun pre zz m=>MH.Le mh m∧m b=some (.list (bj (pre.foldl (qT p nm) [])))) none rfl rfl (fun zz zz zz zz=>.tup) (fun pre q d9 j m K e I hK zz=>?_) ⟨.set hb,MH.set_same ..⟩ fun j m I=>
  qk.mpr (.tuple (.list I.2) (Nat.lt_of_le_of_lt (Nat.le_trans (Nat.le_of_eq p8) (Nat.le_trans (zI hr .nil).len B.sz)) (by decide)) (h m I.1))
 have hq:=hr q (qD e)
 have hn:=EE hq
 have ln:=Nat.le_trans hn.len B.sz
 refine qj.mpr ⟨(F.f 13).ok,bc (I.1 _ _ B.me) rfl (F.m 8).ok (OJ F (by decide) (A.mono I.1) hq fun a ha=>?_)⟩
 refine dx (g:=Val.int) (e:=Val.int) (f:=GU p.bu nm) (l:=p.R.next q) (.list ha) rfl (Nat.lt_of_le_of_lt ln (by decide)) (fun x hx acc K' hl Iu=>bc (I.1 _ _ B.me) rfl (F.m 7).ok (L6 F (by decide) (A.mono I.1) (hn.2 x hx) (cM.str ?_))) fun a2 Xe=>?_
 ·show br (GU p.bu nm x) _ _
  cases e:GU p.bu nm x with
  | true=>rw [e] at Iu;exact ⟨hl,Iu⟩
  | false=>rw [e] at Iu;exact Iu
 ·have e2:(pre++[q]).foldl (qT p nm) []=sD (pre.foldl (qT p nm) []) ((p.R.next q).filter (GU p.bu nm)):=List.foldl_append
  exact fO F (by decide) (eH I.2 Xe).symm ((MH.Le.set Xe) _ _ I.2) (MH.set_same ..) (Nat.lt_of_le_of_lt (Nat.add_le_add (Nat.le_trans (zI (fun q hq=>hr q (e▸List.mem_append_left _ hq)) .nil).len B.sz) (Nat.le_trans (List.length_filter_le ..) ln)) (by decide)) (hK _ _ ⟨(I.1.trans (.set Xe)).ir hb,by rw [e2];exact MH.set_same ..⟩)
theorem OK (F:cp c) (hD:0<D) (A:zH mh s p) {st:LI} (h:Q (.bool (RH p st)) mh):cb c D "Automaton" "is_end" [.ref s,.tup (bj st)] mh Q:=by
 obtain ⟨nl,fd,f,l,ad,ep,B⟩:=A
 unfold RH at h
 refine (F.m 10).has.go F hD rfl sa (Xc (g:=Val.int) (p:=JL p) (l:=st) (fun j=>[some (.ref s),some (.tup (bj st)),j]) (fun zz v m=>v= .bool true∧m=mh) none rfl .tup rfl (fun q hq j K yes no=>?_) (fun x e v vs m R=>?_) fun e j=>?_)
 ·have yes:=fun hp=>yes hp (.bool true) [some (.ref s),some (.tup (bj st)),some (.int q)] mh ⟨rfl,rfl⟩
  have no:=fun hp=>no hp (some (.int q))
  unfold JL at yes no
  refine mY.mpr (ao.mk B.me rfl rfl (mJ.PX B.hl ix ?_))
  cases h1:p.R.L.contains q with
  | true=>rw [h1] at yes;exact yes rfl
  | false=>
    rw [h1] at yes no
    refine cI rfl (fX (F.g 2) (cM.int ?_))
    cases h2:decide (q=0) with
    | false=>rw [h2] at no;exact no rfl
    | true=>
      rw [h2] at yes no
      refine ao.mk B.me rfl rfl (.mk ?_)
      cases h3:p.R.N with
      | true=>exact yes h3
      | false=>exact no h3
 ·rw [e] at h;rw [R.1,R.2];exact h
 ·rw [e] at h;exact mZ.mpr h
theorem L7 (F:cp c) (hD:2<D) (A:zH mh s p) {w:List Str} {a:Addr} (ha:mh a=some (.list (aw w))) (h:∀aD,MH.Le mh aD→Q (.bool (uz p w)) aD):cb c D "Automaton" "accepts" [.ref s,.ref a] mh Q:=by
 obtain ⟨nl,fd,f,l,ad,ep,B⟩:=id A
 refine (F.m 11).has.go F hD rfl ql (fX (F.g 2) ?_)
 refine jy (g:=Val.str) (l:=w) (fun j:LI×Option Val=>[some (.ref s),some (.ref a),some (.tup (bj j.1)),j.2]) (fun pre j m=>MH.Le mh m∧(∀q∈j.1,q=0∨Pl 0 p.size q)∧∀d9,w=pre++d9→runM p j.1 d9=uz p w) ([0],none) rfl rfl (fun zz zz zz I=>.list (I.1 _ _ ha)) (fun pre x d9 j m K e I hK hV=>?_)
  ⟨.refl _,fun q hq=>.inl (List.mem_singleton.mp hq),fun d9 e=>by rw [e];rfl⟩ fun j m I=>?_
 ·have r:=I.2.2 _ e
  unfold runM at r
  refine lQ.mpr (bc (I.1 _ _ B.me) rfl (F.m 9).ok (UW F (by decide) (A.mono I.1) I.2.1 fun m2 c8=>cM.tup ?_))
  cases hz:(bj (iy p j.1 x)).isEmpty with
  | true=>rw [hz] at r;exact hV _ _ _ (show Q (.bool false) m2 from (show false=uz p w from r)▸h m2 (I.1.trans c8))
  | false=>
    rw [hz] at r
    exact hK (iy p j.1 x,_) _ ⟨I.1.trans c8,fun q hq=>.inr ((zI I.2.1 .nil).2 q hq),fun suf' e'=>by
     rw [e,List.append_cons] at e'
     rw [←List.append_cancel_left e'];exact r⟩
 ·exact lR.mpr (bc (I.1 _ _ B.me) rfl (F.m 10).ok (OK F (by decide) (A.mono I.1) (by rw [show RH p j.1=uz p w from I.2.2 [] (List.append_nil _).symm];exact h m I.1)))
end
inductive gw where
 | any
 | empty
 | mixed (l:List Str)
 | children (p:Pt)
noncomputable def gw.val:gw→Val
 | .any=>.tup [.str "any"]
 | .empty=>.tup [.str "empty"]
 | .mixed l=>.tup [.str "mixed",.tup (aw l)]
 | .children p=>.tup [.str "children",p.val]
structure WX (rows:List aG):Prop extends WV rows where
 nm:∀i,(ag rows i).name.length<1000
 vals2:∀i,∀k∈(ag rows i).attrs,cC (fH (ag rows k).value)=true
structure Xf (V:cv) (mdl:Str→Option gw):Prop where
 mo:∀x,V.jw.lookup x=(mdl x).map gw.val
 sz:∀{x p},mdl x=some (.children p)→p.size≤30∧p.E0≤10
 ro:∀{x y r},V.rule x y=some r→Et r
 rn:∀x,∀p∈V.rules x,p.1.length<1000
structure CK where
 m0:MH
 k:Addr
 t:Addr
 d:Addr
 am:Addr
 tk:Addr
 rows:List aG
 V:cv
 mdl:Str→Option gw
 T:bq m0 t rows
 TD:ew m0 d V
 Xg:m0 am=none
 Xh:m0 tk=none
 ne:am≠tk
 W:WX rows
 O:Xf V mdl
def CK.Own (X:CK) (a:Addr):Prop:=a=X.am∨a=X.tk
def uA (X:CK) (m:MH) (es:List (Str×Val)):Prop:=
 ∀x v,es.lookup x=some v→∃s p mb,v= .ref s∧X.mdl x=some (.children p)∧zH mb s p∧∀{a o},mb a=some o→m a=some o∧¬X.Own a
structure cZ (X:CK) (m:MH) (tkn:List Str) (n:Nat):Prop where
 le:MH.Le X.m0 m
 me:m X.k=some (.inst "Checker" [("tree",.ref X.t),("dtd",.ref X.d),("automata",.ref X.am),("taken",.ref X.tk)])
 am:∃es ep,m X.am=some (.ax es ep)∧es.length≤n∧uA X m es
 tk:∃es ep,m X.tk=some (.ax es ep)∧es.length≤n∧Tab es tkn
section
variable {X:CK} {m m' mh:MH} {tkn OL:List Str} {n n':Nat} {c:Cfg} {D:Nat} {Q:VQ} {e:Nat} {x:Str}
theorem cZ.keep (C:cZ X m tkn n) (fr:Fr X.Own m m') (ha:∃es ep,m' X.am=some (.ax es ep)∧es.length≤n'∧uA X m' es) (ht:∃es ep,m' X.tk=some (.ax es ep)∧es.length≤n'∧Tab es OL):cZ X m' OL n':=
 ⟨fun a o e=>fr.keep (fun h=>h.elim (fun q=>by rw [q,X.Xg] at e;exact a8 e) fun q=>by rw [q,X.Xh] at e;exact a8 e) (C.le _ _ e),
  fr.keep (fun h=>h.elim (fun q=>by obtain ⟨_,_,h,_⟩:=C.am;rw [←q,C.me] at h;cases h) fun q=>by obtain ⟨_,_,h,_⟩:=C.tk;rw [←q,C.me] at h;cases h) C.me,ha,ht⟩
theorem uA.fr {es:List (Str×Val)} (A:uA X m es) (fr:Fr X.Own m m'):uA X m' es:=fun x v e=>
 let ⟨s,p,mb,q1,q2,q3,q4⟩:=A x v e
 ⟨s,p,mb,q1,q2,q3,fun e=>⟨fr.keep (q4 e).2 (q4 e).1,(q4 e).2⟩⟩
theorem cZ.mono (C:cZ X m tkn n) (h:MH.Le m m') (hn:n≤n':=by exact Nat.le_refl _):cZ X m' tkn n':=
 let ⟨es,ep,h1,h2,h3⟩:=C.am
 let ⟨PD,PT,k1,k2,k3⟩:=C.tk
 C.keep (.of_le h) ⟨es,ep,h _ _ h1,Nat.le_trans h2 hn,h3.fr (.of_le h)⟩ ⟨PD,PT,h _ _ k1,Nat.le_trans k2 hn,k3⟩
theorem cZ.nl {l:List Val} {b:Addr} (C:cZ X m tkn n) (hb:m b=some (.list l)):¬X.Own b:=fun h=>h.elim
 (fun q=>by obtain ⟨_,_,h,_⟩:=C.am;rw [←q,hb] at h;cases h) fun q=>by obtain ⟨_,_,h,_⟩:=C.tk;rw [←q,hb] at h;cases h
theorem cZ.tree (C:cZ X m tkn n):bq m X.t X.rows:=X.T.mono C.le
theorem cZ.tm (C:cZ X m tkn n):∃L:Addr,m X.t=some (.inst "Tree" [("rows",.ref L)]):=C.tree.me
theorem GV (F:cp c) (hD:12<D) (C:cZ X mh tkn n) {p:Pt} (hm:X.mdl x=some (.children p)) (hn:n<100000)
 (h:∀s m',cZ X m' tkn (n+1)→zH m' s p→Fr X.Own mh m'→Q (.ref s) m'):cb c D "Checker" "automaton" [.ref X.k,.str x,p.val] mh Q:=by
 obtain ⟨es,ep,h1,h2,h3⟩:=C.am
 obtain ⟨PD,PT,k1,k2,k3⟩:=C.tk
 refine (F.m 13).has.go F hD rfl qm (ao.mk C.me rfl rfl (mJ.E6 h1 ?_))
 rcases Bool.eq_false_or_eq_true (es.lookup x).isSome with h6 | h6
 ·obtain ⟨v,hv⟩:=Option.isSome_iff_exists.mp h6
  obtain ⟨s,p',mb,q1,q2,q3,q4⟩:=h3 x v hv
  rw [hm] at q2
  cases q2
  subst q1
  exact cI (by rw [h6];rfl) (ao.mk C.me rfl rfl (.ax h1 hv (h s mh (C.mono (.refl _) (Nat.le_succ _)) (q3.mono fun a o e=>(q4 e).1) .refl)))
 ·refine dj (by rw [h6];rfl) ⟨(F.k 1).ok,EF F (Nat.lt_of_le_of_lt (Nat.succ_le_succ (X.O.sz hm).2) (by decide)) (X.O.sz hm).1 fun s m1 jx hs A=>?_⟩
  refine ao.mk (jx _ _ C.me) rfl rfl (bb.ax (jx _ _ h1) (Nat.lt_trans (Nat.lt_of_le_of_lt h2 hn) (by decide)) fun ep'=>?_)
  have fr:Fr X.Own mh (m1.set X.am (.ax (putK x (.ref s) es) ep')):=(Fr.of_le jx).set (.inl (.inl rfl))
  have hA:∀{a o},IG mh m1 a=some o→(m1.set X.am (.ax (putK x (.ref s) es) ep')) a=some o∧¬X.Own a:=fun {a o} e=>
   have e':=RI e
   have n1:a≠X.am:=fun q=>by rw [q,h1] at e';exact c5 e'.1
   ⟨(MH.ae _ _ n1).trans e'.2,fun h=>h.elim n1 fun q=>by rw [q,k1] at e';exact c5 e'.1⟩
  have C':cZ X _ tkn (n+1):=C.keep fr ⟨_,ep',MH.set_same ..,Nat.le_trans kj (Nat.succ_le_succ h2),fun y v hv=>by
   rw [lookup_putK] at hv
   by_cases hy:y=x
   ·obtain rfl:=both (if_pos hy) hv
    exact ⟨s,p,_,rfl,hy▸hm,A,hA⟩
   ·rw [if_neg hy] at hv;exact h3.fr fr y v hv⟩ ⟨PD,PT,(MH.ae _ _ X.ne.symm).trans (jx _ _ k1),Nat.le_succ_of_le k2,k3⟩
  exact ao.mk C'.me rfl rfl (.ax (MH.set_same ..) (lookup_putK.trans (if_pos rfl)) (h s _ C' (A.mono fun a o e=>(hA e).1) fr))
noncomputable def az (rows:List aG) (i:Nat):Str:=(ag rows i).name
noncomputable def cU (rows:List aG) (e:Nat):List Str:=((ag rows e).children.filter (nU rows)).map (az rows)
noncomputable def qU (rows:List aG) (i:Nat):Bool:=decide ((ag rows i).kind="text")
noncomputable def eh (rows:List aG) (i:Nat):Bool:=qU rows i&& !iq (ag rows i).value
noncomputable def qV (rows:List aG) (e:Nat):gw→Nat
 | .any=>0
 | .empty=>bif (ag rows e).children.isEmpty then 0 else 1
 | .mixed l=>((cU rows e).filter fun s=>!l.contains s).length
 | .children p=>bif uz p (cU rows e) then (bif ((ag rows e).children.find? (eh rows)).isSome then 1 else 0) else 1
theorem GW {rows:List aG} {e:Nat} (md:gw) (h:(ag rows e).children.length<1000):qV rows e md<1000:=by
 have one:∀(b:Bool),(bif b then 0 else 1)<1000:=fun b=>by cases b<;>decide
 cases md with
 | any=>exact Nat.zero_lt_succ _
 | empty=>exact one _
 | mixed l=>exact Nat.lt_of_le_of_lt (Nat.le_trans (List.length_filter_le ..) (Nat.le_trans (Nat.le_of_eq (List.length_map ..)) (List.length_filter_le ..))) h
 | children p=>
   show (bif uz p (cU rows e) then (bif ((ag rows e).children.find? (eh rows)).isSome then 1 else 0) else 1)<1000
   cases uz p (cU rows e) with
   | false=>exact Nat.le_of_ble_eq_true rfl
   | true=>cases ((ag rows e).children.find? (eh rows)).isSome<;>exact Nat.le_of_ble_eq_true rfl
theorem zJ {a:Addr} {v2 v3 v4:Val} {Q:VQ} {d:Nat} (F:cp c) (hd:1<d) (C:cZ X m tkn n) (he:e<X.rows.length) (ha:m a=some (.list (aB (ag X.rows e).children)))
 (h:∀b,m b=none→dg c d v2 v3 Q (.ref X.k) (.ref a) v4 (.ref b) (m.set b (.list (aw (cU X.rows e))))):cw (gf c d (.ref X.k)) (.ref a) [] m (fun acc m=>aH m (.list acc) (dg c d v2 v3 Q (.ref X.k) (.ref a) v4)):=by
 obtain ⟨L,me⟩:=C.tm
 refine dx (g:=aL) (e:=fun i=>.str (az X.rows i)) (f:=nU X.rows) (.list ha) rfl (cJ (C.tree.Oq he).1) (fun i hi acc K hl hK=>?_) fun b hb=>by rw [show ((ag X.rows e).children.filter (nU X.rows)).map (fun i=>Val.str (az X.rows i))=aw (cU X.rows e) from List.map_map.symm];exact h b hb
 have wi:=X.W.ch e i hi
 refine ao.mk C.me rfl rfl (bc me rfl (F.m 37).ok (sv F hd C.tree (aQ wi.2) (cM.str ?_)))
 show br (nU X.rows i) _ _
 cases e:nU X.rows i with
 | true=>rw [e] at hK;exact ao.mk C.me rfl rfl (bc me rfl (F.m 38).ok (eD F hd C.tree (aQ wi.2) ⟨hl,hK⟩))
 | false=>rw [e] at hK;exact hK
theorem AY {Q:VQ} {b:Addr} {l:List Str} (hx:x.length<1000) (hl:(cU X.rows e).length<1000) (hb:m b=some (.list (aw (cU X.rows e)))) (h:∀ss:List Str,ss.length=qV X.rows e (.mixed l)→aH m (.list (aw ss)) Q):
 cw (gB (.str x) (gw.val (.mixed l))) (.ref b) [] m (fun acc m=>aH m (.list acc) Q):=by
 refine dx (g:=.str) (e:=fun s=>.str (s++" may not stand in "++x)) (f:=fun s=>!l.contains s) (.list hb) rfl (cJ hl) (fun s hs acc K hl hK=>?_) ?_
 ·obtain ⟨i,_,rfl⟩:=List.mem_map.mp hs
  refine .seq .tup (by decide) (by decide) rfl (mJ.wR (cg l) ?_)
  cases e: !l.contains (az X.rows i) with
  | true=>rw [e] at hK;exact dj rfl (iW (k:=20) (X.W.nm i) (Nat.le_of_ble_eq_true rfl) fun h1=>iW h1 hx fun zz=>⟨hl,hK⟩)
  | false=>rw [e] at hK;exact cI rfl hK
 ·rw [show ((cU X.rows e).filter fun s=>!l.contains s).map (fun s=>Val.str (s++" may not stand in "++x))=aw (((cU X.rows e).filter fun s=>!l.contains s).map fun s=>s++" may not stand in "++x) from List.map_map.symm]
  exact h _ (List.length_map ..)
theorem wa {Q:VQ} {a b:Addr} {p:Pt} {v4:Val} (F:cp c) {d:Nat} (hd:12<d) (C:cZ X m tkn n) (hn:n<100000) (he:e<X.rows.length) (hx:x.length<1000) (hm:X.mdl x=some (.children p)) (ha:m a=some (.list (aB (ag X.rows e).children))) (hb:m b=some (.list (aw (cU X.rows e))))
 (h:∀m' (ss:List Str),cZ X m' tkn (n+1)→Fr X.Own m m'→ss.length=qV X.rows e (.children p)→aH m' (.list (aw ss)) Q):dg c d (.str x) (gw.val (.children p)) Q (.ref X.k) (.ref a) v4 (.ref b) m:=by
 refine .seq .tup (Int.le_refl 0) (by decide) rfl (cM.str (.inst C.me rfl (F.m 13).ok (.seq .tup (by decide) (by decide) rfl (GV F hd C hm hn fun s m3 C3 A3 fA=>?_))))
 have ha3:=fA.keep (C.nl ha) ha
 obtain ⟨nl,fd,f,l,ad,ep,B⟩:=id A3
 refine bc B.me rfl (F.m 11).ok (L7 F (Nat.lt_trans (by decide) hd) A3 (fA.keep (C.nl hb) hb) fun m4 vZ=>.mk ?_)
 have C4:=C3.mono vZ
 have SV:=fA.tr (Fr.of_le vZ)
 have h:=fun ss (q:ss.length=bif uz p (cU X.rows e) then (bif ((ag X.rows e).children.find? (eh X.rows)).isSome then 1 else 0) else 1)=>h m4 ss C4 SV q
 cases h6:uz p (cU X.rows e) with
 | false=>rw [h6] at h;exact iW (n:=20) (Nat.le_of_ble_eq_true rfl) hx fun h1=>iW (k:=30) h1 (Nat.le_of_ble_eq_true rfl) fun zz=>h [_] rfl
 | true=>
   rw [h6] at h
   obtain ⟨L,mt⟩:=C4.tm
   refine Xc (g:=aL) (p:=eh X.rows) (l:=(ag X.rows e).children) (fun j=>[some (.ref X.k),some v4,some (.str x),some (gw.val (.children p)),some (.ref a),j,some (.ref b)]) (fun i v m=>eh X.rows i=true∧Q v m) none rfl (.list (vZ _ _ ha3)) rfl (fun i hi j K yes no=>?_) (fun zz zz v vs m R=>R.2) fun e j=>?_
   ·have wi:=X.W.ch e i hi
    have no:=fun h=>no h (some (aL i))
    refine pn.mpr (ao.mk C4.me rfl rfl (bc mt rfl (F.m 37).ok (sv F (Nat.lt_trans (by decide) hd) C4.tree (aQ wi.2) (cM.str ?_))))
    show br (qU X.rows i) _ _
    have fd:eh X.rows i=true→((ag X.rows e).children.find? (eh X.rows)).isSome=true:=fun hb=>by rw [List.find?_isSome];exact ⟨i,hi,hb⟩
    unfold eh at yes no fd
    cases h7:qU X.rows i with
    | false=>rw [h7] at no;exact no rfl
    | true=>
      rw [h7] at yes no fd
      refine ⟨(F.f 8).ok,ao.mk C4.me rfl rfl (bc mt rfl (F.m 39).ok (mv F (Nat.lt_trans (by decide) hd) C4.tree (aQ wi.2) (GC F (Nat.lt_trans (by decide) hd) (.mk ?_))))⟩
      cases h8:iq (ag X.rows i).value with
      | true=>rw [h8] at no;exact no rfl
      | false=>
        rw [h8] at yes fd
        refine iW (n:=30) (Nat.le_of_ble_eq_true rfl) hx fun zz o ho=>yes rfl _ _ _ ⟨rfl,h [_] ?_ o ho⟩
        rw [show (fun i=>qU X.rows i&& !iq (ag X.rows i).value)=eh X.rows from rfl] at *
        rw [fd rfl];rfl
   ·rw [e] at h
    exact pq.mpr (h [] rfl)
theorem L8 (F:cp c) (hD:13<D) (C:cZ X mh tkn n) (hn:n<100000) (he:e<X.rows.length) (hx:x.length<1000) {md:gw} (hm:X.mdl x=some md)
 (h:∀b m' (ss:List Str),cZ X m' tkn (n+1)→Fr X.Own mh m'→m' b=some (.list (aw ss))→ss.length=qV X.rows e md→Q (.ref b) m'):cb c D "Checker" "content" [.ref X.k,.int (e:Int),.str x,md.val] mh Q:=by
 obtain ⟨L,me⟩:=C.tm
 refine (F.m 15).has.go F hD rfl ug (ao.mk C.me rfl rfl (bc me rfl (F.m 40).ok (d5 F (by decide) C.tree (aQ he) fun a ha=>?_)))
 have le:=MH.Le.set (o:=.list (aB (ag X.rows e).children)) ha
 have C1:=C.mono le
 have lc:=(C.tree.Oq he).1
 have fin:∀m1 (ss:List Str),cZ X m1 tkn (n+1)→Fr X.Own mh m1→ss.length=qV X.rows e md→aH m1 (.list (aw ss)) Q:=fun m1 ss C fr e b hb=>h b _ ss (C.mono (.set hb)) (fr.set (.inr (fr.sQ hb))) (MH.set_same ..) e
 have up:=fun {m1} (l:MH.Le (mh.set a (.list (aB (ag X.rows e).children))) m1) ss=>fin m1 ss (C1.mono l (Nat.le_succ _)) (.of_le (le.trans l))
 cases md with
 | any=>exact .seq .tup (Int.le_refl 0) (by decide) rfl (cM.str (up (.refl _) [] rfl))
 | empty=>
   refine .seq .tup (Int.le_refl 0) (by decide) rfl (cM.str (.seq .tup (Int.le_refl 0) (by decide) rfl (cM.str fun b hb=>cM.nil ((MH.Le.set hb) _ _ (MH.set_same ..)) (MH.set_same ..) ?_)))
   have up:=up (.set (o:=.list []) hb)
   unfold qV at up
   revert up
   cases (ag X.rows e).children with
   | nil=>exact fun up=>up [] rfl
   | cons x l=>exact fun up=>iW (n:=20) (Nat.le_of_ble_eq_true rfl) hx fun h1=>iW (k:=20) h1 (Nat.le_of_ble_eq_true rfl) fun zz=>up [_] rfl
 | mixed l=>
   exact .seq .tup (Int.le_refl 0) (by decide) rfl (cM.str (.seq .tup (Int.le_refl 0) (by decide) rfl (cM.str (zJ F (by decide) C1 he (MH.set_same ..) fun b hb=>.seq .tup (Int.le_refl 0) (by decide) rfl (cM.str (AY (X:=X) hx (Nat.lt_of_le_of_lt (Nat.le_trans (Nat.le_of_eq (List.length_map ..)) (List.length_filter_le ..)) lc) (MH.set_same ..) (up (.set hb))))))))
 | children p=>
   exact .seq .tup (Int.le_refl 0) (by decide) rfl (cM.str (.seq .tup (Int.le_refl 0) (by decide) rfl (cM.str (zJ F (by decide) C1 he (MH.set_same ..) fun b hb=>wa F (by decide) (C1.mono (.set hb)) hn he hx hm ((MH.Le.set hb) _ _ (MH.set_same ..)) (MH.set_same ..) fun m' ss C' fr e=>fin m' ss C' ((Fr.of_le (le.trans (.set hb))).tr fr) e))))
end
noncomputable def zK (r:dB) (v:Str) (tkn:List Str):Bool×List Str:=bif BC r v then (bif decide (r.kind="ID") then (bif tkn.contains v then (true,tkn) else (false,tkn++[v])) else (false,tkn)) else (true,tkn)
noncomputable def fK (V:cv) (el nm v:Str) (tkn:List Str):Bool×List Str:=match V.rule el nm with
 | none=>(true,tkn)
 | some r=>zK r (eG r.kind v) tkn
noncomputable def iz (rows:List aG) (V:cv) (e:Nat) (q:List Nat×List Str) (k:Nat):List Nat×List Str:=
 (bif (fK V (az rows e) (az rows k) (ag rows k).value q.2).1 then q.1++[k] else q.1,(fK V (az rows e) (az rows k) (ag rows k).value q.2).2)
noncomputable def ck (rows:List aG) (V:cv) (e:Nat) (tkn:List Str) (l:List Nat):List Nat×List Str:=l.foldl (iz rows V e) ([],tkn)
noncomputable def mz (rows:List aG) (e:Nat):List Str:=(ag rows e).attrs.map (az rows)
noncomputable def iA (rows:List aG) (e:Nat) (p:Str×dB):Bool:=decide (p.2.mode="required")&& !(mz rows e).contains p.1
noncomputable def mH (rows:List aG) (V:cv) (e:Nat):List (Str×dB):=(V.rules (az rows e)).filter (iA rows e)
noncomputable def uB (rows:List aG) (mdl:Str→Option gw) (e:Nat):Nat:=match mdl (az rows e) with
 | none=>1
 | some md=>qV rows e md
noncomputable def zL (rows:List aG) (V:cv) (mdl:Str→Option gw) (e:Nat) (tkn:List Str):List Nat×List Str:=
 (List.replicate (uB rows mdl e) e++(List.replicate (mH rows V e).length e++(ck rows V e tkn (ag rows e).attrs).1),(ck rows V e tkn (ag rows e).attrs).2)
theorem Fr.wk {S S':Addr→Prop} {m m':MH} (x:Fr S m m') (h:∀{a},S a→S' a):Fr S' m m':=⟨fun n=>x.keep fun k=>n (h k),x.sQ⟩
theorem xT {α:Type} {g e:α→Val} {l:List α} {turn:Val→List Val→MH→(List Val→MH→Prop)→Prop} {src:Val} {full:List Val} {st:Option MO} {m:MH} {Q:List Val→MH→Prop}
 (hw:Walk m src full st) (hf:full=l.map g) (hl:l.length<bw) (ht:∀x∈l,∀(acc:List Val) (K:List Val→MH→Prop),acc.length<bw→K (acc++[e x]) m→turn (g x) acc m K) (he:Q (l.map e) m):cw turn src [] m Q:=
 dx (f:=fun zz=>true) hw hf hl ht (by rw [List.filter_eq_self.mpr fun zz zz=>rfl];exact he)
section
variable {X:CK} {m m' mh:MH} {tkn OL:List Str} {n n':Nat} {c:Cfg} {D:Nat} {Q:VQ} {e:Nat} {x:Str}
theorem cZ.at (C:cZ X m tkn n) (fr:Fr (fun a=>a=X.tk) m m') (hn:n≤n') (ht:∃es ep,m' X.tk=some (.ax es ep)∧es.length≤n'∧Tab es OL):cZ X m' OL n':=
 (by obtain ⟨es,ep,h1,h2,h3⟩:=C.am;exact C.keep (fr.wk .inr) ⟨es,ep,fr.keep X.ne h1,Nat.le_trans h2 hn,h3.fr (fr.wk .inr)⟩ ht)
theorem cZ.dm (C:cZ X m tkn n):∃e a n:Addr,m X.d=some (.inst "Dtd" [("root",.str X.V.root),("elements",.ref e),("attributes",.ref a),("notations",.ref n)]):=
 (by obtain ⟨e,a,n,_,_,_,T⟩:=X.TD;exact ⟨e,a,n,C.le _ _ T.me⟩)
theorem GX (F:cp c) (hD:7<D) (C:cZ X mh tkn n) (hn:n<200000) {el nm v:Str} (hg:cC v=true) (Y6:cC (fH v)=true) (hnm:nm.length<1000)
 (h:∀r m',cZ X m' (fK X.V el nm v tkn).2 (n+1)→Fr (fun a=>a=X.tk) mh m'→Told (!(fK X.V el nm v tkn).1) r→Q r m'):cb c D "Checker" "attribute" [.ref X.k,.str el,.str nm,.str v] mh Q:=by
 obtain ⟨_,_,_,me⟩:=C.dm
 refine (F.m 17).has.go F hD rfl qA (ao.mk C.me rfl rfl (bc me rfl (F.m 23).ok (Oe F (by decide) (X.TD.mono C.le) fun rv m1 jx hr=>?_)))
 have C1:=C.mono jx
 unfold fK at h
 rcases hr with ⟨r1,rfl⟩ | ⟨a,r,r1,rfl,r2⟩
 ·rw [r1] at h
  exact nQ.mk (iW (n:=20) (Nat.le_of_ble_eq_true rfl) hnm fun h1=>iW (k:=20) h1 (Nat.le_of_ble_eq_true rfl) fun zz=>h _ m1 (C1.mono (.refl _) (Nat.le_succ _)) (.of_le jx) ⟨_,rfl⟩)
 ·rw [r1] at h
  have h:∀x m',cZ X m' (zK r (eG r.kind v) tkn).2 (n+1)→Fr (fun a=>a=X.tk) mh m'→Told (!(zK r (eG r.kind v) tkn).1) x→Q x m':=h
  have gn:cC (eG r.kind v)=true:=by unfold eG;split<;>assumption
  refine nQ.mk ⟨(F.f 9).ok,ao.mk r2 rfl rfl (AU F (by decide) hg fun m2 c8=>⟨(F.f 12).ok,RB F (by decide) (c8 _ _ r2) (X.O.ro r1) gn fun fv m3 kz hf=>?_⟩)⟩
  have vZ:=c8.trans kz
  have C3:=C1.mono vZ
  have C3':=C3.mono (.refl _) (Nat.le_succ n)
  have fA:Fr (fun a=>a=X.tk) mh m3:=.of_le (jx.trans vZ)
  have gl:=Nat.lt_trans (d6.len (cC.s gn)) (by decide:10<1000)
  generalize eG r.kind v=nv at *
  unfold zK at h
  cases hfm:BC r nv with
  | false=>
    rw [hfm] at h hf
    obtain ⟨s,rfl⟩:=(show ∃t,fv= .str t from hf)
    exact nQ.mk (h _ m3 C3' fA ⟨_,rfl⟩)
  | true=>
    rw [hfm] at h hf
    obtain rfl:=(show fv= .none from hf)
    refine nQ.mk (ao.mk (vZ _ _ r2) rfl rfl (cM.str ?_))
    cases Ym:decide (r.kind="ID") with
    | false=>rw [Ym] at h;exact h _ m3 C3' fA rfl
    | true=>
      rw [Ym] at h
      obtain ⟨PD,PT,k1,k2,k3⟩:=C3.tk
      refine ao.mk C3.me rfl rfl (mJ.E6 k1 ?_)
      rw [k3 nv]
      cases ht:tkn.contains nv with
      | true=>rw [ht] at h;exact iW (n:=20) (Nat.le_of_ble_eq_true rfl) gl fun h1=>iW (k:=20) h1 (Nat.le_of_ble_eq_true rfl) fun zz=>h _ m3 C3' fA ⟨_,rfl⟩
      | false=>
        rw [ht] at h
        refine ao.mk C3.me rfl rfl (bb.ax k1 (Nat.lt_trans (Nat.lt_of_le_of_lt k2 hn) (by decide)) fun ep'=>h _ _ (C3.at (Fr.refl.set (.inl rfl)) (Nat.le_succ n) ⟨_,ep',MH.set_same ..,Nat.le_trans kj (Nat.succ_le_succ k2),k3.put⟩) (fA.set (.inl rfl)) rfl)
structure AI (X:CK) (mh:MH) (b th al:Addr) (e:Nat) (tkn:List Str) (n:Nat) (pre:List Nat) (m:MH):Prop where
 fr:Fr (fun a=>a=X.tk) mh m
 al:m al=some (.list (aB (ag X.rows e).attrs))
 tk:∃es ep,m X.tk=some (.ax es ep)∧es.length≤n+pre.length∧Tab es (ck X.rows X.V e tkn pre).2
 fd:∃ps,m b=some (.list (bx ps))∧ps.map (·.1)=(ck X.rows X.V e tkn pre).1∧ps.length≤pre.length
 th:∃es ep,m th=some (.ax es ep)∧es.length≤pre.length∧Tab es (pre.map (az X.rows))
theorem II (F:cp c) {d:Nat} (hd:7<d) (C:cZ X mh tkn n) (hn:n<100000) {b th al:Addr} (zb:mh b=none) (zt:mh th=none) (za:mh al=none) (nbt:b≠th) (nba:b≠al) (nta:th≠al) {pre d9:List Nat} {i:Nat} (e':(ag X.rows e).attrs=pre++i::d9) {v1:Val} {o1 o2:Option Val} {K:aE} (I:AI X mh b th al e tkn n pre m)
 (hK:∀m' o3 o4,AI X mh b th al e tkn n (pre++[i]) m'→K none [some (.ref X.k),some v1,some (.str (az X.rows e)),some (.ref b),some (.ref th),some (aL i),o3,o4,o1,o2] m'):
 fh c d (.ref X.k) (.str (az X.rows e)) (.ref b) v1 (.ref th) o1 o2 (aL i) m K:=by
 have hia:i∈(ag X.rows e).attrs:=qD e'
 have hi:=(X.W.Yh e i hia).2
 have RA:=Nat.lt_of_lt_of_le (ur e') (X.W.an e)
 obtain ⟨es,ep,z1,z2,z3⟩:=I.th
 obtain ⟨ps,y1,y2,y3⟩:=I.fd
 obtain ⟨u5,ep1,k1,k2,k3⟩:=I.tk
 obtain ⟨_,_,k0,_,_⟩:=C.tk
 have C1:=C.at I.fr (Nat.le_add_right ..) I.tk
 obtain ⟨L,mt⟩:=C1.tm
 have fresh:∀{a},mh a=none→X.tk≠a:=fun h=>eH k0 h
 have hl:(pre++[i]).length=pre.length+1:=List.length_append
 refine ao.mk C1.me rfl rfl (bc mt rfl (F.m 38).ok (eD F (Nat.lt_trans (by decide) hd) C1.tree (aQ hi) (bb.ax z1 (Nat.lt_of_le_of_lt z2 (Nat.lt_trans RA (by decide))) fun ep3=>?_)))
 have mG:=I.fr.set (o:=.ax (putK (az X.rows i) (aL i) es) ep3) (.inr zt)
 have C2:=C.at mG (Nat.le_add_right ..) ⟨u5,ep1,(MH.ae _ _ (fresh zt)).trans k1,k2,k3⟩
 obtain ⟨L2,mt2⟩:=C2.tm
 refine .inst C2.me rfl (F.m 17).ok (ao.mk C2.me rfl rfl (bc mt2 rfl (F.m 39).ok (mv F (Nat.lt_trans (by decide) hd) C2.tree (aQ hi) (GX F hd C2 (Nat.lt_trans (Nat.add_lt_add hn RA) (by decide)) (X.W.vals e i hia) (X.W.vals2 e i hia) (nm:=az X.rows i) (X.W.nm i) fun r m3 C3 fA hr=>?_))))
 have st:ck X.rows X.V e tkn (pre++[i])=iz X.rows X.V e (ck X.rows X.V e tkn pre) i:=List.foldl_append
 have fr:=mG.tr fA
 have b3:=fA.keep (fresh zb).symm ((MH.ae _ _ nbt).trans y1)
 have XY:=fA.keep (fresh za).symm ((MH.ae _ _ nta.symm).trans I.al)
 have th3:∃es ep,m3 th=some (.ax es ep)∧es.length≤(pre++[i]).length∧Tab es ((pre++[i]).map (az X.rows)):=⟨_,ep3,fA.keep (fresh zt).symm (MH.set_same ..),hl▸Nat.le_trans kj (Nat.succ_le_succ z2),by rw [List.map_append];exact z3.put⟩
 have tk3:=C3.tk
 have hK:=fun m' (fr:Fr (fun a=>a=X.tk) mh m') al tk fd th=>hK m' (some (.str (az X.rows i))) (some r) ⟨fr,al,tk,fd,th⟩
 rw [st,hl] at hK
 unfold iz at hK
 revert hr tk3 hK
 cases (fK X.V (az X.rows e) (az X.rows i) (ag X.rows i).value (ck X.rows X.V e tkn pre).2).1 with
 | true=>
   rintro ⟨s,rfl⟩ ⟨es5,ep5,i1,i2,i3⟩ hK
   refine nQ.mk (je b3 (Nat.lt_of_le_of_lt (Nat.le_trans (Nat.le_of_eq (List.length_map ..)) y3) (Nat.lt_trans RA (by decide))) (hK _ (fr.set (.inr zb)) ((MH.ae _ _ nba.symm).trans XY) ⟨es5,ep5,(MH.ae _ _ (fresh zb)).trans i1,i2,i3⟩ ⟨ps++[(i,s)],EA sA (i,s),by rw [List.map_append,y2];rfl,by rw [List.length_append];exact Nat.succ_le_succ y3⟩ ?_))
   obtain ⟨es6,ep6,j1,j2,j3⟩:=th3
   exact ⟨es6,ep6,(MH.ae _ _ nbt.symm).trans j1,hl▸j2,j3⟩
 | false=>
   rintro rfl tk3 hK
   exact nQ.mk (hK m3 fr XY tk3 ⟨ps,b3,y2,Nat.le_succ_of_le y3⟩ (hl▸th3))
noncomputable def SW (e:Nat) (s:Str):Nat×Str:=(e,"the attribute "++s++" lacks")
theorem L9 (F:cp c) {d:Nat} (hd:1<d) (C:cZ X mh tkn n) {b th al:Addr} (I:AI X mh b th al e tkn n (ag X.rows e).attrs m)
 (h:∀b m' (ps:List (Nat×Str)),cZ X m' (ck X.rows X.V e tkn (ag X.rows e).attrs).2 (n+10)→Fr (fun a=>a=X.tk) mh m'→m' b=some (.list (bx ps))→ps.map (·.1)=List.replicate (mH X.rows X.V e).length e++(ck X.rows X.V e tkn (ag X.rows e).attrs).1→ps.length<2000→Q (.ref b) m'):
 eU c d (.str (az X.rows e)) (.ref th) (aL e) Q (.ref b) (.ref X.k) m:=by
 have C1:=C.at I.fr (Nat.le_add_right ..) I.tk
 obtain ⟨_,_,_,me⟩:=C1.dm
 obtain ⟨es,ep,z1,z2,z3⟩:=I.th
 obtain ⟨ps,y1,y2,y3⟩:=I.fd
 refine ao.mk C1.me rfl rfl (bc me rfl (F.m 22).ok (Ep F (Nat.lt_trans (by decide) hd) (X.TD.mono C1.le) fun q m2 c8 ⟨l,rp,R,er⟩=>?_))
 have z4:=c8 _ _ z1
 refine dx (l:=l) (g:=fun p=>.str p.1) (e:=fun p=>.str p.1) (f:=fun p=>iA X.rows e (p.1,p.2.1)) (.ax R.me) (List.map_map ..) (cJ R.lt) (fun p hp acc K hl hK=>?_) fun bl Xi=>?_
 ·refine .ax R.me (by rw [cY fun q:dB×Addr=>Val.ref q.2,lookup_mem R.nd hp];rfl) (ao.mk (R.ru p hp) rfl rfl (cM.str ?_))
  unfold iA at hK
  cases hb:decide (p.2.1.mode="required") with
  | false=>rw [hb] at hK;exact hK
  | true=>
    rw [hb,Bool.true_and] at hK
    refine mJ.E6 z4 ?_
    rw [z3 p.1]
    show br (!(mz X.rows e).contains p.1) _ _
    cases hc:(mz X.rows e).contains p.1 with
    | true=>rw [hc] at hK;exact hK
    | false=>rw [hc] at hK;exact ⟨hl,hK⟩
 ·have ef:(mH X.rows X.V e).length=(l.filter fun p=>iA X.rows e (p.1,p.2.1)).length:=by unfold mH;rw [er,List.filter_map,List.length_map];rfl
  have hlen:(l.filter fun p=>iA X.rows e (p.1,p.2.1)).length<1000:=Nat.lt_of_le_of_lt (List.length_filter_le ..) R.lt
  have hn:∀p∈l.filter fun p=>iA X.rows e (p.1,p.2.1),p.1.length<1000:=fun p hp=>X.O.rn (az X.rows e) (p.1,p.2.1) (er▸List.mem_map.mpr ⟨p,(List.mem_filter.mp hp).1,rfl⟩)
  rw [ef] at h
  generalize l.filter (fun p=>iA X.rows e (p.1,p.2.1))=lk at *
  have y5:=(MH.Le.set (o:=.list (lk.map fun p=>.str p.1)) Xi) _ _ (c8 _ _ y1)
  refine xT (l:=lk) (g:=fun p=>.str p.1) (e:=fun p=>.tup [aL e,.str ("the attribute "++p.1++" lacks")]) (.list (MH.set_same ..)) rfl (cJ hlen) (fun p hp acc K hl hK=>?_) fun b6 hb6=>?_
  ·refine iW (n:=20) (Nat.le_of_ble_eq_true rfl) (hn p hp) fun h1=>?_
   refine iW (k:=20) h1 (Nat.le_of_ble_eq_true rfl) fun zz=>?_
   exact ⟨hl,hK⟩
  have l2:ps.length<100:=Nat.lt_of_le_of_lt (Nat.le_trans y3 (X.W.an e)) (by decide)
  have l1:(lk.map fun p=>SW e p.1).length=lk.length:=List.length_map ..
  refine .fY (l':=bx ps) (MH.set_same ..) ((MH.Le.set hb6) _ _ y5) ?_ fun b7 hb7=>?_
  ·rw [List.length_map,bx,List.length_map];exact Nat.lt_trans (Nat.add_lt_add hlen l2) (by decide)
  refine h b7 _ ((lk.map fun p=>SW e p.1)++ps) (C1.mono (((c8.trans (.set Xi)).trans (.set hb6)).trans (.set hb7)) (Nat.add_le_add_left (X.W.an e) n)) (I.fr.tr (.of_le (((c8.trans (.set Xi)).trans (.set hb6)).trans (.set hb7)))) ?_ ?_ ?_
  ·rw [MH.set_same,bx,bx,List.map_append,List.map_map];rfl
  ·rw [List.map_append,y2,List.map_map];exact congrArg (·++_) (List.map_const' ..)
  ·rw [List.length_append,l1];exact Nat.lt_trans (Nat.add_lt_add hlen l2) (by decide)
theorem AZ (F:cp c) (hD:8<D) (C:cZ X mh tkn n) (hn:n<100000) (he:e<X.rows.length)
 (h:∀b m' (ps:List (Nat×Str)),cZ X m' (ck X.rows X.V e tkn (ag X.rows e).attrs).2 (n+10)→Fr (fun a=>a=X.tk) mh m'→m' b=some (.list (bx ps))→ps.map (·.1)=List.replicate (mH X.rows X.V e).length e++(ck X.rows X.V e tkn (ag X.rows e).attrs).1→ps.length<2000→Q (.ref b) m'):
 cb c D "Checker" "attributes" [.ref X.k,aL e,.str (az X.rows e)] mh Q:=by
 obtain ⟨L,mt⟩:=C.tm
 obtain ⟨PD,PT,k1,k2,k3⟩:=C.tk
 refine (F.m 16).has.go F hD rfl pA fun b hb=>dE.mk rfl fun ep zz th Xj=>xI.mk ?_
 have lb:=MH.Le.set (o:=.list []) hb
 have lt:=MH.Le.set (o:=.ax [] ep) Xj
 have JH:=lb.trans lt
 have C0:=C.mono JH
 refine ao.mk C0.me rfl rfl (bc (JH _ _ mt) rfl (F.m 41).ok (dK F (by decide) C0.tree (aQ he) fun al VG=>?_))
 have la:=MH.Le.set (o:=.list (aB (ag X.rows e).attrs)) VG
 have leA:=JH.trans la
 exact jy (g:=aL) (l:=(ag X.rows e).attrs) (fun j:Option Val×Option Val×Option Val×Option Val×Option Val=>[some (.ref X.k),some (aL e),some (.str (az X.rows e)),some (.ref b),some (.ref th),j.1,j.2.1,j.2.2.1,j.2.2.2.1,j.2.2.2.2]) (fun pre zz m=>AI X mh b th al e tkn n pre m) (none,none,none,none,none) rfl rfl (fun zz zz zz I=>.list I.al)
  (fun pre i d9 j m K e' I hK zz=>j7.mpr (II F (by decide) C hn hb (lb.none Xj) (JH.none VG) (eH (MH.set_same ..) Xj) (eH (lt _ _ (MH.set_same ..)) VG) (eH (MH.set_same ..) VG) e' I fun m' o3 o4 I'=>hK (_,_,_,_,_) m' I'))
  ⟨.of_le leA,MH.set_same ..,⟨PD,PT,leA _ _ k1,k2,k3⟩,⟨[],la _ _ (lt _ _ (MH.set_same ..)),rfl,Nat.le_refl _⟩,[],ep,la _ _ (MH.set_same ..),Nat.le_refl _,fun zz=>rfl⟩ fun j m I=>j8.mpr (L9 F (by decide) C I h)
end
section
variable {X:CK} {m m' mh:MH} {tkn:List Str} {n:Nat} {c:Cfg} {D d:Nat} {Q:VQ} {e:Nat}
theorem RK {α:Type} {l:List α} {f:α→Nat×Str} (h:∀x,(f x).1=e):(l.map f).map (·.1)=List.replicate l.length e:=by
 rw [List.map_map];exact (List.map_congr_left fun x zz=>h x).trans (List.map_const' ..)
theorem EG (F:cp c) (hd:8<d) (C:cZ X m tkn n) (hn:n<100000) (he:e<X.rows.length) {b1:Addr} {SY:List (Nat×Str)} (Hk:m b1=some (.list (bx SY))) (hl:SY.length<1000)
 (h:∀b m' (ps:List (Nat×Str)),cZ X m' (ck X.rows X.V e tkn (ag X.rows e).attrs).2 (n+10)→Fr X.Own m m'→m' b=some (.list (bx (SY++ps)))→ps.map (·.1)=List.replicate (mH X.rows X.V e).length e++(ck X.rows X.V e tkn (ag X.rows e).attrs).1→Q (.ref b) m'):
 dw c d (.ref X.k) (aL e) (.str (az X.rows e)) Q (some (.ref b1)) m:=by
 refine bc C.me rfl (F.m 16).ok (AZ F hd C hn he fun b2 m2 ps2 C2 mG rq hps Yn=>.fY (mG.keep (fun q=>C.nl Hk (.inr q)) Hk) rq ?_ fun b3 Mq=>h b3 _ ps2 (C2.mono (.set Mq)) ((mG.wk .inr).set (.inr (mG.sQ Mq))) ?_ hps)
 ·rw [bx,bx,List.length_map,List.length_map];exact Nat.lt_trans (Nat.add_lt_add hl Yn) (by decide)
 ·rw [MH.set_same,bx,bx,bx,List.map_append]
theorem Ma (F:cp c) (hD:14<D) (C:cZ X mh tkn n) (hn:n<99999) (he:e<X.rows.length)
 (h:∀b m' (ps:List (Nat×Str)),cZ X m' (zL X.rows X.V X.mdl e tkn).2 (n+11)→Fr X.Own mh m'→m' b=some (.list (bx ps))→ps.map (·.1)=(zL X.rows X.V X.mdl e tkn).1→Q (.ref b) m'):cb c D "Checker" "element" [.ref X.k,aL e] mh Q:=by
 obtain ⟨L,mt⟩:=C.tm
 obtain ⟨_,_,_,md⟩:=C.dm
 have hx:=X.W.nm e
 have rest:∀(b1:Addr) (m1:MH) (SY:List (Nat×Str)),cZ X m1 tkn (n+1)→Fr X.Own mh m1→m1 b1=some (.list (bx SY))→SY.map (·.1)=List.replicate (uB X.rows X.mdl e) e→SY.length<1000→dw c 14 (.ref X.k) (aL e) (.str (az X.rows e)) Q (some (.ref b1)) m1:=fun b1 m1 SY C1 zZ Hk hp hl=>
  EG F (by decide) C1 (Nat.succ_lt_succ hn) he Hk hl fun b m' ps C' fr hb hps=>h b m' _ C' (zZ.tr fr) hb (by rw [List.map_append,hp,hps];rfl)
 have mo:=X.O.mo (az X.rows e)
 unfold uB at rest
 refine (F.m 14).has.go F hD rfl uf (ao.mk C.me rfl rfl (bc mt rfl (F.m 38).ok (eD F (by decide) C.tree (aQ he) (ao.mk C.me rfl rfl (bc md rfl (F.m 21).ok (Rx F (by decide) (X.TD.mono C.le) ?_))))))
 show gA c 14 (aL e) (.ref X.k) (.str (az X.rows e)) Q ((X.V.jw.lookup (az X.rows e)).getD .none) mh
 rw [mo]
 cases hm:X.mdl (az X.rows e) with
 | none=>
   rw [hm] at rest
   exact nQ.mk (iW (n:=20) (Nat.le_of_ble_eq_true rfl) hx fun h1=>iW (k:=20) h1 (Nat.le_of_ble_eq_true rfl) fun zz b hb=>rest b _ [(e,_)] (C.mono (.set hb) (Nat.le_succ _)) (.of_le (.set hb)) (MH.set_same ..) rfl (Nat.le_of_ble_eq_true rfl))
 | some md=>
   rw [hm] at rest
   have ct:=L8 F (c:=c) (D:=14) (Q:=gz c 14 (aL e) (.ref X.k) (.str (az X.rows e)) Q) (by decide) C (Nat.lt_trans hn (by decide)) he hx hm fun a m1 ss C1 zZ ha hss=>by
    have hl:=hss▸GW md (C.tree.Oq he).1
    refine xT (l:=ss) (g:=.str) (e:=fun s=>sA (e,s)) (.list ha) rfl (cJ hl) (fun s hs acc K hl hK=>⟨hl,hK⟩) fun b hb=>?_
    have e1:(ss.map fun s=>sA (e,s))=bx (ss.map fun s=>(e,s)):=(List.map_map (g:=sA) (f:=fun s=>(e,s))).symm
    exact rest b _ (ss.map fun s=>(e,s)) (C1.mono (.set hb)) (zZ.set (.inr (zZ.sQ hb))) (e1▸MH.set_same ..) ((RK (e:=e) (f:=fun s=>(e,s)) fun zz=>rfl).trans (congrArg (List.replicate · e) hss)) (by rw [List.length_map];exact hl)
   have go:=bc (d:=14) (x:="content") C.me rfl (F.m 15).ok ct
   cases md with
   | any=>exact nQ.mk go
   | empty=>exact nQ.mk go
   | mixed l=>exact nQ.mk go
   | children p=>exact nQ.mk go
theorem IJ {rows:List aG} {V:cv} {mdl:Str→Option gw} {t dd:Addr} (F:cp c) (hD:1<D) (T:bq mh t rows) (TD:ew mh dd V) (W:WX rows) (O:Xf V mdl)
 (h:∀k am tk Xg Xh ne m',cZ ⟨mh,k,t,dd,am,tk,rows,V,mdl,T,TD,Xg,Xh,ne,W,O⟩ m' [] 0→Q (.ref k) m'):aq c D "Checker" [.ref t,.ref dd] mh Q:=by
 refine ((F.k 2).callC F hD fun k hk=>(F.m 12).has.callC F (Nat.lt_succ_self _) rfl (sb.mpr ?_)).yx
 refine .mk (MH.set_same ..) rfl (Nat.le_of_ble_eq_true rfl) (.mk (fs:=[("tree",.ref t)]) (MH.set_same ..) rfl (Nat.le_of_ble_eq_true rfl) (dE.mk rfl fun ep zz am Yo=>.mk (fs:=[("tree",.ref t),("dtd",.ref dd)]) ((MH.Le.set Yo) _ _ (MH.set_same ..)) rfl (Nat.le_of_ble_eq_true rfl)
  (dE.mk rfl fun PT zz tk VH=>.mk (fs:=[("tree",.ref t),("dtd",.ref dd),("automata",.ref am)]) ((MH.Le.set VH) _ _ (MH.set_same ..)) rfl (Nat.le_of_ble_eq_true rfl) ⟨rfl,?_⟩)))
 rw [MH.set_set,MH.set_set] at *
 have zam:=bV Yo
 have ztk:=bV (bV (bV VH))
 have n1:am≠k:=fun q=>by rw [q,MH.set_same] at Yo;exact c5 Yo
 have n2:tk≠k:=fun q=>by rw [q,MH.set_same] at VH;exact c5 VH
 have n3:am≠tk:=fun q=>by rw [←q,MH.ae _ _ n1,MH.set_same] at VH;exact c5 VH
 exact h k am tk zam ztk n3 _ ⟨(((((MH.Le.refl mh).ir hk).ir zam).ir hk).ir ztk).ir hk,MH.set_same ..,⟨[],ep,(MH.ae _ _ n1).trans ((MH.ae _ _ n3).trans ((MH.ae _ _ n1).trans (MH.set_same ..))),Nat.le_refl _,fun x v e=>(by exact a8 e)⟩,⟨[],PT,(MH.ae _ _ n2).trans (MH.set_same ..),Nat.le_refl _,fun zz=>rfl⟩⟩
noncomputable def zM (pre:List (Nat×Str)) (a:Nat):Nat:=(pre.map (·.1)).count a
def VI (m:MH) (pre:List (Nat×Str)) (es:List (Int×Val)) (a:Nat):Prop:=(∃(x:Addr) (ps:List (Nat×Str)),es.lookup (a:Int)=some (.ref x)∧m x=some (.list (bx ps))∧ps.map (·.1)=List.replicate (zM pre a) a)∨(es.lookup (a:Int)=none∧zM pre a=0)
def BT (m:MH) (bd:Addr) (es:List (Int×Val)):Prop:=∃ep,m bd=some (.cz es ep)∨(m bd=some (.ax [] ep)∧es=[])
def BD (m:MH) (bd:Addr) (pre:List (Nat×Str)):Prop:=∃es,BT m bd es∧es.length≤pre.length∧∀a,VI m pre es a
theorem VI.keep {pre:List (Nat×Str)} {es:List (Int×Val)} {a:Nat} (h:VI m pre es a) (k:∀{a l},m a=some (.list l)→m' a=some (.list l)):VI m' pre es a:=h.imp ((by rintro ⟨x,ps,e1,e2,e3⟩;exact ⟨x,ps,e1,k e2,e3⟩)) id
theorem BD.keep {bd:Addr} {pre:List (Nat×Str)} (h:BD m bd pre) (hb:∀{o},m bd=some o→m' bd=some o) (k:∀{a l},m a=some (.list l)→m' a=some (.list l)):BD m' bd pre:=
 (by obtain ⟨es,⟨ep,h1⟩,h2,h3⟩:=h;exact ⟨es,⟨ep,h1.imp hb fun h=>⟨hb h.1,h.2⟩⟩,h2,fun a=>(h3 a).keep k⟩)
theorem BD.le {bd:Addr} {pre:List (Nat×Str)} (h:BD m bd pre) (k:MH.Le m m'):BD m' bd pre:=h.keep (k _ _) (k _ _)
theorem BT.nl {bd a:Addr} {es:List (Int×Val)} {l:List Val} (h:BT m bd es) (ha:m a=some (.list l)):a≠bd:=fun q=>by
 obtain ⟨ep,h | h⟩:=h
 ·rw [←q,ha] at h;cases h
 ·rw [←q,ha] at h;cases h.1
theorem OM {bd:Addr} {pre:List (Nat×Str)} (B:BD m bd pre) (a:Nat) (h:∀x (ps:List (Nat×Str)) m',MH.Le m m'→m' x=some (.list (bx ps))→ps.map (·.1)=List.replicate (zM pre a) a→Q (.ref x) m'):
 ak c m (fun WW=>aH m (.list []) (fun Uh m=>ar c d WW "get" (.ref bd) [aL a,Uh] m Q)) "get" (.ref bd):=by
 obtain ⟨es,⟨ep,h1⟩,h2,h3⟩:=B
 have go:∀x,m x=none→Q ((es.lookup (a:Int)).getD (.ref x)) (m.set x (.list [])):=fun x hx=>by
  rcases h3 a with ⟨y,ps,e1,e2,e3⟩ | ⟨e1,e2⟩
  ·rw [e1];exact h y ps _ (.set hx) ((MH.Le.set hx) _ _ e2) e3
  ·rw [e1];exact h x [] _ (.set hx) (MH.set_same ..) (by rw [e2];rfl)
 rcases h1 with h1 | ⟨h1,rfl⟩
 ·exact .cz h1 fun x hx=>jm.two (.int ((MH.Le.set hx) _ _ h1)) (go x hx)
 ·exact .ax h1 fun x hx=>jm.two (.nil ((MH.Le.set hx) _ _ h1)) (go x hx)
theorem UX {bd:Addr} {es:List (Int×Val)} {v:Val} {a:Int} {Q:MH→Prop} (B:BT m bd es) (hl:es.length<bw) (h:∀ep,Q (m.set bd (.cz (putK a v es) ep))):bb m v Q (.ref bd) (.int a):=by
 obtain ⟨ep,h1 | ⟨h1,rfl⟩⟩:=B
 ·exact .cz h1 hl h
 ·exact .nil h1 h
theorem ON {pre:List (Nat×Str)} {a b:Nat} {s:Str}:zM (pre++[(b,s)]) a=zM pre a+bif b == a then 1 else 0:=by
 unfold zM
 rw [List.map_append,List.count_append,List.map_cons,List.map_nil,List.count_cons,List.count_nil,Nat.zero_add]
 cases b == a<;>rfl
theorem BD.put {bd x:Addr} {pre:List (Nat×Str)} {a ep:Nat} {s:Str} {ps:List (Nat×Str)} {es:List (Int×Val)} (hl:es.length≤pre.length) (h:∀a,VI m pre es a) (hn:∀{a l},m a=some (.list l)→a≠bd) (hm:m x=some (.list (bx ps))) (hp:ps.map (·.1)=List.replicate (zM pre a+1) a):BD (m.set bd (.cz (putK (a:Int) (.ref x) es) ep)) bd (pre++[(a,s)]):=by
 have kp:∀{b l},m b=some (.list l)→(m.set bd (.cz (putK (a:Int) (.ref x) es) ep)) b=some (.list l):=fun e=>(MH.ae _ _ (hn e)).trans e
 refine ⟨_,⟨ep,.inl (MH.set_same ..)⟩,by rw [List.length_append];exact Nat.le_trans kj (Nat.succ_le_succ hl),fun b=>?_⟩
 unfold VI
 rw [lookup_putK,ON]
 by_cases q:b=a
 ·subst q
  exact .inl ⟨x,ps,if_pos rfl,kp hm,by rw [beq_self_eq_true];exact hp⟩
 ·rw [if_neg fun e=>q (Int.ofNat_inj.mp e),beq_eq_false_iff_ne.mpr (Ne.symm q)];exact (h b).keep kp
theorem UY {pre:List (Nat×Str)} {a:Nat} {ps:List (Nat×Str)} (h:ps.map (·.1)=List.replicate (zM pre a) a):ps.length≤pre.length:=by
 have:=congrArg List.length h
 rw [List.length_map,List.length_replicate] at this
 exact this▸Nat.le_trans List.count_le_length (Nat.le_of_eq (List.length_map ..))
theorem OO {bd:Addr} {pre:List (Nat×Str)} {p:Nat×Str} {K:aE} {v1 v2 v3 v4 v5 v6:Val} {o:Option Val} {m0:MH} (le:MH.Le m0 m) (zb:m0 bd=none) (B:BD m bd pre) (hl:pre.length<500000) (hs:p.2.length<1000)
 (hK:∀m',MH.Le m0 m'→BD m' bd (pre++[p])→(∀{a l},m a=some (.list l)→m' a=some (.list l))→K none [some v1,some v2,some v3,some v4,some v5,some v6,some (.ref bd),some (aL p.1),some (.str p.2),o] m'):Gf c d (.ref bd) v1 v2 v3 v4 v5 v6 o (sA p) m K:=by
 refine .mk (OM B p.1 fun x ps m1 jx hx hp=>?_)
 refine iW (n:=20) (Nat.le_of_ble_eq_true rfl) hs fun zz y hy=>?_
 obtain ⟨es,⟨ep,h1⟩,h2,h3⟩:=B
 refine .fY (l':=bx [(p.1,"there is no ID "++p.2)]) ((MH.Le.set hy) _ _ hx) (MH.set_same ..) (by rw [bx,List.length_map];exact Nat.lt_trans (Nat.add_lt_add_right (Nat.lt_of_le_of_lt (UY hp) hl) 1) (by decide)) fun z hz=>?_
 have c8:=(jx.trans (.set (o:=.list (bx [(p.1,"there is no ID "++p.2)])) hy)).trans (.set (o:=.list (bx ps++bx [(p.1,"there is no ID "++p.2)])) hz)
 have B2:BT _ bd es:=⟨ep,h1.imp (c8 _ _) fun h=>⟨c8 _ _ h.1,h.2⟩⟩
 exact UX B2 (Nat.lt_of_le_of_lt h2 (Nat.lt_trans hl (by decide))) fun ep'=>hK _ ((le.trans c8).ir zb) (BD.put (ps:=ps++[(p.1,"there is no ID "++p.2)]) h2 (fun a=>(h3 a).keep (c8 _ _)) (B2.nl ·) (by rw [MH.set_same,bx,bx,bx,List.map_append]) (by rw [List.map_append,hp];exact List.replicate_succ'.symm)) fun e=>(MH.ae _ _ (B2.nl (c8 _ _ e))).trans (c8 _ _ e)
noncomputable def EH (rows:List aG) (V:cv):List Nat:=match pM rows with
 | none=>[]
 | some x=>bif decide (az rows x=V.root) then [] else [x]
noncomputable def dk (rows:List aG) (V:cv) (a:Nat):List Nat:=List.replicate (zM (pN rows V) a) a
noncomputable def dy (rows:List aG) (V:cv) (mdl:Str→Option gw) (q:List Nat×List Str) (e:Nat):List Nat×List Str:=
 (q.1++(zL rows V mdl e q.2).1++(ag rows e).attrs.flatMap (dk rows V),(zL rows V mdl e q.2).2)
noncomputable def mA (rows:List aG) (V:cv) (mdl:Str→Option gw) (l:List Nat):List Nat×List Str:=l.foldl (dy rows V mdl) (EH rows V,[])
noncomputable def A0 (rows:List aG) (V:cv) (mdl:Str→Option gw):List Nat:=(mA rows V mdl (dt rows)).1
theorem GY {rows:List aG} {V:cv} {mdl:Str→Option gw} {l:List Nat} {q:List Nat×List Str}:q.1.length≤(l.foldl (dy rows V mdl) q).1.length:=by
 induction l generalizing q with
 | nil=>exact Nat.le_refl _
 | cons x l ih=>exact Nat.le_trans (by rw [dy,List.append_assoc,List.length_append];exact Nat.le_add_right ..) (ih (q:=dy rows V mdl q x))
theorem GZ {rows:List aG} {V:cv} (W:WV rows):∀p∈pN rows V,p.2.length<1000:=by
 intro p hp
 obtain ⟨e,_,h⟩:=List.mem_flatMap.mp hp
 obtain ⟨i,hi,h⟩:=List.mem_flatMap.mp (List.mem_filter.mp h).1
 unfold eE at h
 split at h
 ·cases h
 ·revert h
  cases isRef r.kind with
  | false=>exact fun h=>nomatch h
  | true=>exact fun h=>(by obtain ⟨w,hw,e⟩:=List.mem_map.mp h;exact e▸Nat.lt_trans (d6.len (cC.w (W.vals _ i hi) w hw)) (by decide))
theorem Mb {rows:List aG} {V:cv} (W:WV rows):(pN rows V).length≤500000:=
 Nat.le_trans (ko fun e zz=>Nat.le_trans (List.length_filter_le ..) (p7 W e)) (Nat.mul_le_mul_right 100 (Nat.le_of_lt (gU W.toWF)))
end
structure I2 (X:CK) (mE:MH) (pre:List Nat) (f:Addr) (m:MH):Prop where
 C:cZ X m (mA X.rows X.V X.mdl pre).2 (pre.length * 11)
 fr:Fr X.Own mE m
 fd:∃ps:List (Nat×Str),m f=some (.list (bx ps))∧ps.map (·.1)=(mA X.rows X.V X.mdl pre).1
section
variable {X:CK} {m m' mh mE:MH} {tkn:List Str} {n:Nat} {c:Cfg} {D d:Nat} {Q:VQ} {e:Nat}
theorem cZ.nn {a:Addr} (C:cZ X m tkn n) (h:m a=none):¬X.Own a:=fun k=>k.elim
 (fun q=>by obtain ⟨_,_,h',_⟩:=C.am;rw [←q,h] at h';exact a8 h') fun q=>by obtain ⟨_,_,h',_⟩:=C.tk;rw [←q,h] at h';exact a8 h'
theorem jg {α:Type} {l l':List α}:l.length≤(l++l').length:=by rw [List.length_append];exact Nat.le_add_right ..
theorem Xk {ps:List (Nat×Str)} {l:List Nat} (h:ps.map (·.1)=l):(bx ps).length=l.length:=by rw [←h,bx,List.length_map,List.length_map]
theorem Xl {a b:Addr} {ps Wj:List (Nat×Str)} {l l':List Nat} (ha:m a=some (.list (bx ps))) (hb:m b=some (.list (bx Wj))) (hp:ps.map (·.1)=l) (JN:Wj.map (·.1)=l') (hl:(l++l').length<bw)
 (h:∀z m' (qs:List (Nat×Str)),MH.Le m m'→m' z=some (.list (bx qs))→qs.map (·.1)=l++l'→Q (.ref z) m'):aY m Q .Add (.ref a) (.ref b):=
 .fY ha hb (by rw [Xk hp,Xk JN,←List.length_append];exact hl) fun z hz=>h z _ (ps++Wj) (.set hz) (by rw [MH.set_same,bx,bx,bx,List.map_append]) (by rw [List.map_append,hp,JN])
theorem OP (F:cp c) (hd:14<d) {bd f:Addr} {pre d9:List Nat} {v2 v6:Val} {o1 o2:Option Val} {K:aE} (CE:cZ X mE [] 0) (B:BD mE bd (pN X.rows X.V)) (nbd:¬X.Own bd) (hL:(A0 X.rows X.V X.mdl).length<bw) (ee:dt X.rows=pre++e::d9) (I:I2 X mE pre f m)
 (hK:∀m' f' o3,I2 X mE (pre++[e]) f' m'→K none [some (.ref X.t),some v2,some (.ref X.d),some (.ref X.k),some (.ref f'),some v6,some (.ref bd),o3,o2,some (aL e)] m'):
 By c d (.ref X.k) (.ref X.t) v2 (.ref X.d) v6 (.ref bd) o1 o2 (.ref f) (aL e) m K:=by
 have he:=(km X.W.toWF e (qD ee)).1
 have hn:pre.length * 11<55000:=Nat.mul_lt_mul_of_pos_right (Nat.lt_trans (ur ee) (gU X.W.toWF)) (by decide)
 have st:mA X.rows X.V X.mdl (pre++[e])=dy X.rows X.V X.mdl (mA X.rows X.V X.mdl pre) e:=List.foldl_append
 have bound:(mA X.rows X.V X.mdl (pre++[e])).1.length<bw:=by
  refine Nat.lt_of_le_of_lt ?_ hL
  rw [A0,ee,List.append_cons pre e d9,show mA X.rows X.V X.mdl (pre++[e]++d9)=d9.foldl (dy X.rows X.V X.mdl) (mA X.rows X.V X.mdl (pre++[e])) from List.foldl_append]
  exact GY
 rw [st] at bound
 obtain ⟨ps,hf,hp⟩:=I.fd
 refine bc I.C.me rfl (F.m 14).ok (Ma F hd I.C (Nat.lt_trans hn (by decide)) he fun b m2 ps2 C2 mG hb hp2=>?_)
 have UZ:((mA X.rows X.V X.mdl pre).1++(zL X.rows X.V X.mdl e (mA X.rows X.V X.mdl pre).2).1).length<bw:=Nat.lt_of_le_of_lt (jg (l':=(ag X.rows e).attrs.flatMap (dk X.rows X.V))) bound
 refine Xl (mG.keep (I.C.nl hf) hf) hb hp hp2 UZ fun z m3 qs kz hz hq=>?_
 have C3:=C2.mono kz
 obtain ⟨L,mt⟩:=C3.tm
 have fA:=(I.fr.tr mG).tr (.of_le kz)
 have B3:BD m3 bd (pN X.rows X.V):=B.keep (fA.keep nbd) fun e=>fA.keep (CE.nl e) e
 refine bc mt rfl (F.m 41).ok (dK F (Nat.lt_trans (by decide) hd) C3.tree (aQ he) fun al VG=>?_)
 have vZ:=MH.Le.set (o:=.list (aB (ag X.rows e).attrs)) VG
 refine jy (g:=aL) (l:=(ag X.rows e).attrs) (fun j:Addr×Option Val=>[some (.ref X.t),some v2,some (.ref X.d),some (.ref X.k),some (.ref j.1),some v6,some (.ref bd),j.2,o2,some (aL e)])
  (fun p j m'=>MH.Le (m3.set al (.list (aB (ag X.rows e).attrs))) m'∧∃ps:List (Nat×Str),m' j.1=some (.list (bx ps))∧ps.map (·.1)=(mA X.rows X.V X.mdl pre).1++(zL X.rows X.V X.mdl e (mA X.rows X.V X.mdl pre).2).1++p.flatMap (dk X.rows X.V)) (z,o1) rfl rfl
  (fun zz zz zz I=>.list (I.1 _ _ (MH.set_same ..))) (fun p a s j m' K' e3 I3 Iu zz=>?_) ⟨.refl _,qs,vZ _ _ hz,by rw [hq,List.flatMap_nil,List.append_nil]⟩ fun j m' I3=>Ls.mpr (hK m' j.1 _ ⟨?_,fA.tr (.of_le (vZ.trans I3.1)),?_⟩)
 ·refine Lr.mpr (OM (B3.le (vZ.trans I3.1)) a fun y Wj m5 IH hy hp5=>?_)
  obtain ⟨ps3,h3,hp3⟩:=I3.2
  have eq:∀u:List Nat,u++p.flatMap (dk X.rows X.V)++dk X.rows X.V a=u++(p++[a]).flatMap (dk X.rows X.V):=fun u=>by rw [List.flatMap_append,List.flatMap_cons,List.flatMap_nil,List.append_nil,List.append_assoc]
  refine Xl (l':=dk X.rows X.V a) (IH _ _ h3) hy hp3 hp5 ?_ fun z2 m6 qs2 RM hz2 hq2=>Iu (z2,_) m6 ⟨I3.1.trans (IH.trans RM),qs2,hz2,eq _▸hq2⟩
  rw [eq]
  refine Nat.lt_of_le_of_lt ?_ bound
  rw [dy,e3,List.append_cons p a s,show (p++[a]++s).flatMap (dk X.rows X.V)=(p++[a]).flatMap (dk X.rows X.V)++s.flatMap (dk X.rows X.V) from List.flatMap_append,←List.append_assoc]
  exact jg
 ·rw [st,List.length_append,Nat.add_mul]
  exact C3.mono (vZ.trans I3.1)
 ·rw [st];exact I3.2
theorem IK (F:cp c) (hd:14<d) (C:cZ X m [] 0) (hL:(A0 X.rows X.V X.mdl).length<bw) {f:Addr} {ps:List (Nat×Str)} (hf:m f=some (.list (bx ps))) (hp:ps.map (·.1)=EH X.rows X.V) {v6:Val}
 (h:∀b m' (ps:List (Nat×Str)),MH.Le X.m0 m'→m' b=some (.list (bx ps))→ps.map (·.1)=A0 X.rows X.V X.mdl→Q (.ref b) m'):gT c d (.ref X.t) (.int 0) (.ref X.d) (.ref X.k) (.ref f) v6 Q m:=by
 refine dE.mk rfl fun ep zz bd hbd=>?_
 have jx:=MH.Le.set (o:=.ax [] ep) hbd
 refine ⟨(F.f 18).ok,pO F (Nat.lt_trans (by decide) hd) X.W.toWV (C.tree.mono jx) (X.TD.mono (C.le.trans jx)) fun bl m2 c8 zbl Xi=>?_⟩
 refine jy (g:=sA) (l:=pN X.rows X.V) (fun j:Option Val×Option Val×Option Val=>[some (.ref X.t),some (.int 0),some (.ref X.d),some (.ref X.k),some (.ref f),some v6,some (.ref bd),j.1,j.2.1,j.2.2]) (fun pre zz m'=>MH.Le m m'∧m' bl=some (.list (bx (pN X.rows X.V)))∧BD m' bd pre) (none,none,none) rfl rfl (fun zz zz zz I=>.list I.2.1)
  (fun pre p d9 j m' K e I hK zz=>Lq.mpr (OO I.1 hbd I.2.2 (Nat.lt_of_lt_of_le (ur e) (Mb X.W.toWV)) (GZ X.W.toWV p (qD e)) fun E1 le' B' kp=>hK (_,_,_) E1 ⟨le',kp I.2.1,B'⟩))
  ⟨jx.trans c8,Xi,[],⟨ep,.inr ⟨c8 _ _ (MH.set_same ..),rfl⟩⟩,Nat.le_refl _,fun a=>.inr ⟨rfl,rfl⟩⟩ fun j m' I=>Lw.mpr ⟨(F.f 14).ok,fN F (Nat.lt_trans (by decide) hd) X.W.toWF (C.tree.mono I.1) fun wl mE vZ zwl hwl=>?_⟩
 have CE:=C.mono (I.1.trans vZ)
 exact jy (g:=aL) (l:=dt X.rows) (fun j:Addr×Option Val×Option Val×Option Val=>[some (.ref X.t),some (.int 0),some (.ref X.d),some (.ref X.k),some (.ref j.1),some v6,some (.ref bd),j.2.1,j.2.2.1,j.2.2.2]) (fun pre j m'=>I2 X mE pre j.1 m') (f,j.1,j.2.1,j.2.2) rfl rfl (fun zz zz zz I=>.list (I.fr.keep (CE.nl hwl) hwl))
  (fun pre e d9 j m' K ee I' hK zz=>Lu.mpr (OP F hd CE (I.2.2.le vZ) (C.nn hbd) hL ee I' fun E1 f' o3 I''=>hK (f',o3,j.2.2.1,some (aL e)) E1 I'')) ⟨CE,.refl,ps,(I.1.trans vZ) _ _ hf,hp⟩ fun j m' I'=>Lv.mpr ((by obtain ⟨ps,h1,h2⟩:=I'.fd;exact h _ m' ps I'.C.le h1 h2))
theorem G0 {rows:List aG} {V:cv} {mdl:Str→Option gw} {t dd:Addr} (F:cp c) (hD:15<D) (T:bq mh t rows) (TD:ew mh dd V) (W:WX rows) (O:Xf V mdl) (hL:(A0 rows V mdl).length<bw) (RN:V.root.length<1000)
 (h:∀b m' (ps:List (Nat×Str)),MH.Le mh m'→m' b=some (.list (bx ps))→ps.map (·.1)=A0 rows V mdl→Q (.ref b) m'):aq c D "check" [.ref t,.int 0,.ref dd] mh Q:=by
 refine (F.f 20).has.go F hD rfl Ul ⟨(F.k 2).ok,IJ F (by decide) T TD W O fun k am tk Xg Xh ne m1 C1 f hf=>.mk ?_⟩
 generalize hX:(⟨mh,k,t,dd,am,tk,rows,V,mdl,T,TD,Xg,Xh,ne,W,O⟩:CK)=X at C1
 have C2:=C1.mono (.set (o:=.list []) hf)
 have tl:∀(m:MH) (ps:List (Nat×Str)),cZ X m [] 0→m f=some (.list (bx ps))→ps.map (·.1)=EH X.rows X.V→∀v6,gT c 15 (.ref X.t) (.int 0) (.ref X.d) (.ref X.k) (.ref f) v6 Q m:=fun m ps C hf hp v6=>IK F (by decide) C (by subst hX;exact hL) hf hp fun b m' ps=>by subst hX;exact h b m' ps
 unfold EH at tl
 have RN:X.V.root.length<1000:=by subst hX;exact RN
 refine ⟨(F.f 19).ok,?_⟩
 have go:aq c 15 "outermost" [.ref X.t,.int 0] (m1.set f (.list [])) (Bz c 15 (.ref X.t) (.ref f) (.int 0) (.ref X.d) (.ref X.k) Q):=Ez F (by decide) X.W.toWF C2.tree fun m3 kz=>by
  have C3:=C2.mono kz
  have S0:=kz _ _ (MH.set_same ..)
  have tl:=fun m ps C hf hp=>tl m ps C hf hp (optN (pM X.rows))
  cases ho:pM X.rows with
  | none=>rw [ho] at tl;exact nQ.mk (tl m3 [] C3 S0 rfl)
  | some x=>
    rw [ho] at tl
    have tl:∀m (ps:List (Nat×Str)),cZ X m [] 0→m f=some (.list (bx ps))→ps.map (·.1)=(bif decide (az X.rows x=X.V.root) then [] else [x])→gT c 15 (.ref X.t) (.int 0) (.ref X.d) (.ref X.k) (.ref f) (optN (some x)) Q m:=tl
    have hx:=(X.W.ch 0 x (List.mem_of_find?_eq_some ho)).2
    obtain ⟨L,mt⟩:=C3.tm
    obtain ⟨_,_,_,md⟩:=C3.dm
    refine nQ.mk (bc mt rfl (F.m 38).ok (eD F (by decide) C3.tree (aQ hx) (ao.mk md rfl rfl (cM.str ?_))))
    show br (!decide (az X.rows x=X.V.root)) _ _
    cases hd:decide (az X.rows x=X.V.root) with
    | true=>exact tl m3 [] C3 S0 (by rw [hd];rfl)
    | false=>exact .list S0 rfl (ao.mk md rfl rfl (iW (n:=40) (Nat.le_of_ble_eq_true rfl) RN fun zz=>.append S0 (by decide) (tl _ [(x,_)] (C1.mono (((MH.Le.set hf).trans kz).ir hf)) (MH.set_same ..) (by rw [hd];rfl))))
 subst hX
 exact go
end
noncomputable def aG.get (r:aG):Bool→List Nat
 | true=>r.children
 | false=>r.attrs
noncomputable def aG.add (r:aG) (b:Bool) (k:Nat):aG:=match b with
 | true=>{ r with children:=r.children++[k] }
 | false=>{ r with attrs:=r.attrs++[k] }
noncomputable def iX (k n u l v:Str) (p:Val):aG:=⟨k,n,u,l,v,p,[],[]⟩
noncomputable def kr (rows:List aG) (b:Bool) (p:Nat) (r:aG):List aG:=(rows++[r]).set p ((ag (rows++[r]) p).add b rows.length)
structure xD (rows rows':List aG) (b:Bool) (p:Nat) (r:aG):Prop where
 len:rows'.length=rows.length+1
 new:ag rows' rows.length=r
 par:ag rows' p=(ag rows p).add b rows.length
 old:∀{i},i≠rows.length→i≠p→ag rows' i=ag rows i
section
variable {rows:List aG} {r:aG} {i p k:Nat} {b:Bool}
theorem uC (h:rows.length≤i):ag rows i=Om:=by unfold ag;rw [List.getElem?_eq_none h];rfl
theorem wb:ag (rows++[r]) rows.length=r:=by unfold ag;rw [List.getElem?_append_right (Nat.le_refl _),Nat.sub_self];rfl
theorem ku (h:i<rows.length):ag (rows++[r]) i=ag rows i:=by unfold ag;rw [List.getElem?_append_left h]
theorem wc (h:p<rows.length):ag (rows.set p r) p=r:=by unfold ag;rw [List.getElem?_set_self h];rfl
theorem mB (h:i≠p):ag (rows.set p r) i=ag rows i:=by unfold ag;rw [List.getElem?_set_ne h.symm]
theorem dC:(rows++[r]).length=rows.length+1:=List.length_append
theorem wd (h:p<rows.length):xD rows (kr rows b p r) b p r where
 len:=(List.length_set ..).trans dC
 new:=(mB (Nat.ne_of_gt h)).trans wb
 par:=(wc (by rw [dC];exact Nat.lt_succ_of_lt h)).trans (by rw [ku h])
 old:=fun {i} h1 h2=>(mB h2).trans <| (Nat.lt_or_gt_of_ne h1).elim (fun q=>ku q) fun q=>(uC (by rw [dC];exact q)).trans (uC (Nat.le_of_lt q)).symm
theorem U1 {x y z:Addr}:BA (r.add b k) x y z=BA r x y z:=by cases b<;>rfl
theorem add_get:(r.add b k).get b=r.get b++[k]:=by cases b<;>rfl
theorem zN {b':Bool} (h:b'≠b):(r.add b k).get b'=r.get b':=by
 cases b<;>cases b'
 ·exact absurd rfl h
 ·rfl
 ·rfl
 ·exact absurd rfl h
end
noncomputable def upd {α:Type} (f:Nat→α) (n:Nat) (v:α) (i:Nat):α:=bif decide (i=n) then v else f i
theorem fQ {α:Type} {f:Nat→α} {n:Nat} {v:α}:upd f n v n=v:=by unfold upd;rw [decide_eq_true rfl];rfl
theorem eQ {α:Type} {f:Nat→α} {n i:Nat} {v:α} (h:i<n):upd f n v i=f i:=by unfold upd;rw [decide_eq_false (Nat.ne_of_lt h)];rfl
structure qW (m:MH) (t:Addr) (O:Addr→Prop) (rows:List aG) (L:Addr) (ra na:Nat→Addr) (la:Bool→Nat→Addr):Prop where
 me:m t=some (.inst "Tree" [("rows",.ref L)])
 ls:m L=some (.list (((List.range rows.length).map ra).map Val.ref))
 row:∀{i},i<rows.length→m (ra i)=some (.inst "NodeRow" (BA (ag rows i) (la true i) (la false i) (na i)))
 lst:∀{i} b,i<rows.length→m (la b i)=some (.list (aB ((ag rows i).get b)))
 inj:∀{i j b b'},i<rows.length→j<rows.length→la b i=la b' j→b=b'∧i=j
 ln:∀{i} b,i<rows.length→la b i≠L
 ot:O t
 ol:O L
 oa:∀{i},i<rows.length→O (ra i)∧∀b,O (la b i)
 ex:∀{a},O a→m a≠none
structure d8 (m:MH) (t:Addr) (O:Addr→Prop) (rows:List aG):Prop where
 I:∃L ra na la,qW m t O rows L ra na la
 len:∀b i,((ag rows i).get b).length≤rows.length
structure qX (mh m:MH) (t:Addr) (O O':Addr→Prop) (rows:List aG):Prop where
 B:d8 m t O' rows
 fr:Fr O mh m
 sub:∀{a},O' a→O a∨mh a=none
theorem d8.OQ {m:MH} {t:Addr} {O:Addr→Prop} {rows:List aG} (B:d8 m t O rows) (h:rows.length<1000):bq m t rows:=
 (by obtain ⟨L,ra,na,la,T⟩:=B.I;exact ⟨L,(List.range rows.length).map ra,T.me,T.ls,by rw [List.length_map,List.length_range],h,fun {i r} e=>by
  have hi:=(List.getElem?_eq_some_iff.mp e).1
  obtain rfl:=both (aQ hi) e
  exact ⟨ra i,by rw [List.getElem?_map,List.getElem?_range hi];rfl,la true i,la false i,na i,T.row hi,T.lst true hi,T.lst false hi,Nat.lt_of_le_of_lt (B.len true i) h,Nat.lt_of_le_of_lt (B.len false i) h⟩⟩)
theorem d8.keep {m m':MH} {t:Addr} {O:Addr→Prop} {rows:List aG} (B:d8 m t O rows) (k:∀{a o},O a→m a=some o→m' a=some o):d8 m' t O rows:=
 (by obtain ⟨L,ra,na,la,T⟩:=B.I;exact ⟨⟨L,ra,na,la,k T.ot T.me,k T.ol T.ls,fun h=>k (T.oa h).1 (T.row h),fun b h=>k ((T.oa h).2 b) (T.lst b h),T.inj,T.ln,T.ot,T.ol,T.oa,fun {a} ha e=>by
  cases q:m a with
  | none=>exact T.ex ha q
  | some o=>exact bQ (k ha q) e⟩,B.len⟩)
section
variable {c:Cfg} {D:Nat} {mh m m1:MH} {Q:VQ} {t:Addr} {O O':Addr→Prop} {rows rows':List aG} {L:Addr} {ra na:Nat→Addr} {la:Bool→Nat→Addr}
theorem d8.no {x:Addr} (B:d8 m t O rows) (h:m x=none):¬O x:=fun k=>(by obtain ⟨_,_,_,_,T⟩:=B.I;exact T.ex k h)
theorem d8.set {x:Addr} {o:MO} (B:d8 m t O rows) (h:¬O x):d8 (m.set x o) t O rows:=B.keep fun {a o'} ha e=>(MH.ae _ _ fun (q:a=x)=>h (q▸ha)).trans e
theorem qX.out {x:Addr} {o:MO} (P:qX mh m t O O' rows) (h:¬O x) (e:mh x=some o):¬O' x∧m x=some o:=⟨fun k=>(P.sub k).elim h (fun z=>by exact bQ e z),P.fr.keep h e⟩
structure NR (mh m:MH) (a ch at' ns:Addr) (r:aG):Prop where
 a0:mh a=none
 c0:mh ch=none
 t0:mh at'=none
 ne:ch≠at'
 me:m a=some (.inst "NodeRow" (BA r ch at' ns))
 ch:m ch=some (.list [])
 at':m at'=some (.list [])
 le:MH.Le mh m
 sQ:∀{x},m x=none→mh x=none
theorem zO {M:MH} {a:Addr} {C x:Str} {fs:List (Str×Val)} {v:Val} {K:MH→Prop} (hx:(fW C).contains x=true) (hl:fs.length<100) (q:K (M.set a (.inst C (E7 x v fs)))):aS (M.set a (.inst C fs)) v K (.ref a) x:=.mk (MH.set_same ..) hx hl (by rw [MH.set_set];exact q)
theorem JO {M:MH} {a b:Addr} {o o' o2:MO} (h:b≠a):((M.set a o).set b o2).set a o'=(M.set b o2).set a o':=by
 funext x
 by_cases e:x=a
 ·rw [e,MH.set_same,MH.set_same]
 ·rw [MH.ae _ _ e,MH.ae _ _ e]
  by_cases q:x=b
  ·rw [q,MH.set_same,MH.set_same]
  ·rw [MH.ae _ _ q,MH.ae _ _ q,MH.ae _ _ e]
theorem RO {M:MH} {a:Addr} {C x:Str} {fs:List (Str×Val)} {K:MH→Prop} (hx:(fW C).contains x=true) (hl:fs.length<100) (q:∀b,M b=none→b≠a→K ((M.set b (.list [])).set a (.inst C (E7 x (.ref b) fs)))):aH (M.set a (.inst C fs)) (.list []) (fun b m=>aS m b K (.ref a) x):=
 fun b hb=>have ne:b≠a:=fun e=>by rw [e,MH.set_same] at hb;exact c5 hb
  .mk ((MH.Le.set hb) _ _ (MH.set_same ..)) hx hl (by rw [JO ne];exact q b (bV hb) ne)
theorem IL (F:cp c) (hD:1<D) {k n u l v:Str} {p:Val} (h:∀a ch at' ns m,NR mh m a ch at' ns (iX k n u l v p)→Q (.ref a) m):aq c D "NodeRow" [.str k,.str n,.str u,.str l,.str v,p] mh Q:=by
 refine ((F.k 4).callC F hD fun a ha=>(F.m 26).has.callC F (Nat.lt_succ_self _) rfl (sd.mpr ?_)).yx
 refine zO rfl (Nat.le_of_ble_eq_true rfl) (zO rfl (Nat.le_of_ble_eq_true rfl) (zO rfl (Nat.le_of_ble_eq_true rfl) (zO rfl (Nat.le_of_ble_eq_true rfl) (zO rfl (Nat.le_of_ble_eq_true rfl) (zO rfl (Nat.le_of_ble_eq_true rfl)
  (RO rfl (Nat.le_of_ble_eq_true rfl) fun ch hc nc=>RO rfl (Nat.le_of_ble_eq_true rfl) fun at' ht nt=>RO rfl (Nat.le_of_ble_eq_true rfl) fun ns hn nn=>⟨rfl,?_⟩))))))
 have h1:=MH.Le.set (o:=.list []) hc
 have h2:=MH.Le.set (o:=.list []) ht
 have h3:=MH.Le.set (o:=.list []) hn
 exact h a ch at' ns _ ⟨ha,hc,h1.none ht,eH (MH.set_same ..) ht,MH.set_same ..,(MH.ae _ _ nc).trans (h3 _ _ (h2 _ _ (MH.set_same ..))),(MH.ae _ _ nt).trans (h3 _ _ (MH.set_same ..)),((h1.trans h2).trans h3).ir ha,fun e=>bV (bV (bV (bV e)))⟩
theorem we (F:cp c) (hD:2<D) (T:qW mh t O rows L ra na la) (hl:rows.length<1000) {k n u l v:Str} {p:Val}
 (h:∀m' (O':Addr→Prop) RP S8 OR,qW m' t O' (rows++[iX k n u l v p]) L RP S8 OR→Fr O mh m'→(∀{a},O' a→O a∨mh a=none)→(∀{i},i<rows.length→RP i=ra i∧∀b,OR b i=la b i)→Q (.int (rows.length:Int)) m'):
 cb c D "Tree" "new_row" [.ref t,.str k,.str n,.str u,.str l,.str v,p] mh Q:=by
 refine (F.m 28).has.go F hD rfl zA (ao.mk T.me rfl rfl (.list T.ls rfl ⟨(F.k 4).ok,IL F (by decide) fun a ch at' ns m1 N=>?_⟩))
 have ls1:=N.le _ _ T.ls
 have len:(((List.range rows.length).map ra).map Val.ref).length=rows.length:=(List.length_map ..).trans ((List.length_map ..).trans List.length_range)
 have Xm:(((List.range rows.length).map ra).map Val.ref++[Val.ref a]).length=rows.length+1:=List.length_append.trans (congrArg (·+1) len)
 have nL:∀{x},mh x=none→x≠L:=fun h e=>by rw [e,T.ls] at h;exact c5 h
 have kp:∀{x o},mh x=some o→x≠L→(m1.set L (.list (((List.range rows.length).map ra).map Val.ref++[.ref a]))) x=some o:=fun e n=>(MH.ae _ _ n).trans (N.le _ _ e)
 have kn:∀{x o},m1 x=some o→mh x=none→(m1.set L (.list (((List.range rows.length).map ra).map Val.ref++[.ref a]))) x=some o:=fun e n=>(MH.ae _ _ (nL n)).trans e
 have nI:∀{x C fs},mh x=some (.inst C fs)→x≠L:=fun h e=>by rw [e,T.ls] at h;cases h
 have old:∀{i},i<rows.length→upd ra rows.length a i=ra i∧∀b,upd (la b) rows.length (bif b then ch else at') i=la b i:=fun {i} hi=>⟨eQ hi,fun b=>eQ hi⟩
 have cn:∀b:Bool,mh (bif b then ch else at')=none∧m1 (bif b then ch else at')=some (.list []):=fun b=>by
  cases b
  ·exact ⟨N.t0,N.at'⟩
  ·exact ⟨N.c0,N.ch⟩
 have nc:∀{i b b'},i<rows.length→la b i≠(bif b' then ch else at'):=fun {i b b'} hi e=>by
  have:=T.lst b hi
  rw [e,(cn b').1] at this;exact a8 this
 have fin:=h _ (fun x=>O x∨(mh x=none∧m1 x≠none)) (upd ra rows.length a) (upd na rows.length ns) (fun b=>upd (la b) rows.length (bif b then ch else at')) ⟨kp T.me (nI T.me),?_,?_,?_,?_,?_,.inl T.ot,.inl T.ol,?_,?_⟩ ((Fr.of_le N.le).set (.inl T.ol)) (fun {x} k=>k.imp id And.left) old
 ·refine .append ls1 (by rw [len];exact cJ hl) (ao.mk (kp T.me (nI T.me)) rfl rfl (xA (MH.set_same ..) (by rw [Xm];exact Nat.lt_of_le_of_lt hl (by decide)) (.sub ?_)))
  rw [Xm,show ((rows.length+1:Nat):Int) - 1=rows.length from by rw [Int.natCast_add];exact Int.add_sub_cancel ..]
  exact fin
 ·rw [MH.set_same,dC,List.range_succ,List.map_append,List.map_append,List.map_cons,fQ,List.map_nil]
  exact congrArg (fun l=>some (MO.list (l.map Val.ref++[.ref a]))) (List.map_congr_left fun i hi=>(eQ (List.mem_range.mp hi)).symm)
 ·intro i hi
  rw [dC] at hi
  rcases Nat.lt_succ_iff_lt_or_eq.mp hi with hi | rfl
  ·rw [eQ hi,eQ hi,eQ hi,eQ hi,ku hi];exact kp (T.row hi) (nI (T.row hi))
  ·rw [fQ,fQ,fQ,fQ,wb];exact kn N.me N.a0
 ·intro i b hi
  rw [dC] at hi
  rcases Nat.lt_succ_iff_lt_or_eq.mp hi with hi | rfl
  ·rw [eQ hi,ku hi];exact kp (T.lst b hi) (T.ln b hi)
  ·rw [fQ,wb];cases b<;>exact kn (cn _).2 (cn _).1
 ·intro i j b b' hi hj
  rw [dC] at hi hj
  rcases Nat.lt_succ_iff_lt_or_eq.mp hi with hi | rfl<;>rcases Nat.lt_succ_iff_lt_or_eq.mp hj with hj | rfl
  ·rw [eQ hi,eQ hj];exact T.inj hi hj
  ·rw [eQ hi,fQ];exact fun e=>absurd e (nc hi)
  ·rw [eQ hj,fQ];exact fun e=>absurd e.symm (nc hj)
  ·rw [fQ,fQ]
   cases b<;>cases b'
   ·exact fun zz=>⟨rfl,rfl⟩
   ·exact fun e=>absurd e.symm N.ne
   ·exact fun e=>absurd e N.ne
   ·exact fun zz=>⟨rfl,rfl⟩
 ·intro i b hi
  rw [dC] at hi
  rcases Nat.lt_succ_iff_lt_or_eq.mp hi with hi | rfl
  ·rw [eQ hi];exact T.ln b hi
  ·rw [fQ];exact nL (cn b).1
 ·intro i hi
  rw [dC] at hi
  rcases Nat.lt_succ_iff_lt_or_eq.mp hi with hi | rfl
  ·rw [eQ hi];exact ⟨.inl (T.oa hi).1,fun b=>by rw [eQ hi];exact .inl ((T.oa hi).2 b)⟩
  ·rw [fQ];exact ⟨.inr ⟨N.a0,fun z=>by exact bQ N.me z⟩,fun b=>by rw [fQ];exact .inr ⟨(cn b).1,fun z=>by exact bQ ((cn b).2) z⟩⟩
 ·exact fun {x} k z=>k.elim (fun k=>T.ex k (N.sQ (bV z))) fun k=>k.2 (bV z)
theorem OS {k p:Nat} {b:Bool} (T:qW m t O rows L ra na la) (hp:p<rows.length):
 qW (m.set (la b p) (.list (aB ((ag rows p).get b)++[aL k]))) t O (rows.set p ((ag rows p).add b k)) L ra na la:=by
 have hc:=T.lst b hp
 have nI:∀{x C fs},m x=some (.inst C fs)→x≠la b p:=fun h e=>by rw [e,hc] at h;cases h
 have hlen:(rows.set p ((ag rows p).add b k)).length=rows.length:=List.length_set ..
 refine ⟨(MH.ae _ _ (nI T.me)).trans T.me,?_,fun {i} hi=>?_,fun {i} b' hi=>?_,?_,?_,T.ot,T.ol,?_,fun ha z=>T.ex ha (bV z)⟩
 ·rw [hlen];exact (MH.ae _ _ (T.ln b hp).symm).trans T.ls
 ·rw [hlen] at hi
  rw [MH.ae _ _ (nI (T.row hi)),T.row hi]
  by_cases e:i=p
  ·rw [e,wc hp,U1]
  ·rw [mB e]
 ·rw [hlen] at hi
  by_cases e:i=p
  ·subst e
   rw [wc hp]
   by_cases q:b'=b
   ·rw [q,MH.set_same,add_get,aB,aB,List.map_append];rfl
   ·rw [zN q];exact (MH.ae _ _ fun z=>q (T.inj hi hi z).1).trans (T.lst b' hi)
  ·rw [mB e];exact (MH.ae _ _ fun z=>e (T.inj hi hp z).2).trans (T.lst b' hi)
 ·rw [hlen];exact T.inj
 ·rw [hlen];exact T.ln
 ·rw [hlen];exact T.oa
theorem OT {b:Bool} {p:Nat} {r:aG} (G:xD rows rows' b p r) (hr:∀b,r.get b=[]) (h:∀b i,((ag rows i).get b).length≤rows.length):∀b i,((ag rows' i).get b).length≤rows'.length:=fun b' i=>by
 rw [G.len]
 by_cases e:i=rows.length
 ·rw [e,G.new,hr];exact Nat.zero_le _
 by_cases q:i=p
 ·rw [q,G.par]
  by_cases z:b'=b
  ·rw [z,add_get,List.length_append];exact Nat.succ_le_succ (h b p)
  ·rw [zN z];exact Nat.le_succ_of_le (h b' p)
 ·rw [G.old e q];exact Nat.le_succ_of_le (h b' i)
theorem BL {p:Nat} {b:Bool} {r:aG} {RP S8:Nat→Addr} {OR:Bool→Nat→Addr} (T0:qW mh t O rows L ra na la) (len:∀b i,((ag rows i).get b).length≤rows.length) (hr:∀b,r.get b=[]) (hp:p<rows.length) (T:qW m t O' (rows++[r]) L RP S8 OR) (fr:Fr O mh m) (sub:∀{a},O' a→O a∨mh a=none) (old:OR b p=la b p):
 qX mh (m.set (OR b p) (.list (aB ((ag (rows++[r]) p).get b)++[aL rows.length]))) t O O' (kr rows b p r):=
 ⟨⟨⟨L,RP,S8,OR,OS T (by rw [dC];exact Nat.lt_succ_of_lt hp)⟩,OT (wd hp) hr len⟩,fr.set (.inl (old▸(T0.oa hp).2 b)),sub⟩
theorem OU (F:cp c) (hD:0<D) (T:qW mh t O rows L ra na la) (hl:rows.length<1000) {i:Nat} (hi:i<rows.length) (h:Q (.ref (ra i)) mh):cb c D "Tree" "row" [.ref t,aL i] mh Q:=
 Ob F hD T.me T.ls (by rw [List.length_map,List.length_range];exact hl) (by rw [List.getElem?_map,List.getElem?_range hi];rfl) h
theorem Xn {i:Nat} (T:qW mh t O rows L ra na la) (hl:rows.length<1000) (hi:i<rows.length) (h:Q (.ref (ra i)) mh):ay mh Q (.ref L) (aL i):=pL T.ls (cJ (Nat.lt_trans hi hl)) (by rw [List.getElem?_map,List.getElem?_map,List.getElem?_range hi];rfl) h
noncomputable def G1 (k:Str):Bool:=(["root","element"]:List Str).contains k
theorem pR (F:cp c) (hD:3<D) (B:d8 mh t O rows) (hl:rows.length<900) {p:Nat} (hp:p<rows.length) (hk:G1 (ag rows p).kind=true) {k n u l v:Str}
 (h:∀m' O',qX mh m' t O O' (kr rows true p (iX k n u l v (aL p)))→Q (aL rows.length) m'):cb c D "Tree" "add_child" [.ref t,aL p,.str k,.str n,.str u,.str l,.str v] mh Q:=by
 obtain ⟨L,ra,na,la,T⟩:=B.I
 have PE:=Nat.lt_trans hl (by decide:900<1000)
 refine (F.m 31).has.go F hD rfl vV (nQ.mk (bc T.me rfl (F.m 29).ok (OU F (by decide) T PE hp (ao.mk (T.row hp) rfl rfl (fX (F.g 3) (mJ.wR (cg ["root","element"]) ?_))))))
 refine cI (congrArg (!·) hk) (bc T.me rfl (F.m 28).ok (we F (by decide) T PE fun m1 O' RP S8 OR T1 fr sub old=>?_))
 have Qy:p<(rows++[iX k n u l v (aL p)]).length:=by rw [dC];exact Nat.lt_succ_of_lt hp
 have Yn:(rows++[iX k n u l v (aL p)]).length<1000:=by rw [dC];exact Nat.lt_trans (Nat.succ_lt_succ hl) (by decide)
 refine nQ.mk (ao.mk T1.me rfl rfl (Xn T1 Yn Qy (ao.mk (T1.row Qy) rfl rfl (je (T1.lst true Qy) ?_ (h _ O' (BL T B.len (fun b=>by cases b<;>rfl) hp T1 fr sub ((old hp).2 true)))))))
 rw [bt,ku hp]
 exact Nat.lt_of_le_of_lt (B.len true p) (cJ PE)
theorem jA (F:cp c) (hD:4<D) (B:d8 mh t O rows) (hl:rows.length<900) {p:Nat} (hp:p<rows.length) (hk:G1 (ag rows p).kind=true) {n u l:Str}
 (h:∀m' O',qX mh m' t O O' (kr rows true p (iX "element" n u l "" (aL p)))→Q (aL rows.length) m'):cb c D "Tree" "add_element" [.ref t,aL p,.str n,.str u,.str l] mh Q:=
 (F.m 32).has.go F hD rfl sm (bc B.I.choose_spec.choose_spec.choose_spec.choose_spec.me rfl (F.m 31).ok (pR F (by decide) B hl hp hk h))
theorem IM (F:cp c) (hD:4<D) (B:d8 mh t O rows) (hl:rows.length<900) {p:Nat} (hp:p<rows.length) (hk:G1 (ag rows p).kind=true) {v:Str}
 (h:∀m' O',qX mh m' t O O' (kr rows true p (iX "text" "" "" "" v (aL p)))→Q (aL rows.length) m'):cb c D "Tree" "add_text" [.ref t,aL p,.str v] mh Q:=
 (F.m 33).has.go F hD rfl xx (bc B.I.choose_spec.choose_spec.choose_spec.choose_spec.me rfl (F.m 31).ok (pR F (by decide) B hl hp hk h))
theorem qY (F:cp c) (hD:4<D) (B:d8 mh t O rows) (hl:rows.length<900) {p:Nat} (hp:p<rows.length) (hk:G1 (ag rows p).kind=true) {v:Str}
 (h:∀m' O',qX mh m' t O O' (kr rows true p (iX "comment" "" "" "" v (aL p)))→Q (aL rows.length) m'):cb c D "Tree" "add_comment" [.ref t,aL p,.str v] mh Q:=
 (F.m 34).has.go F hD rfl sr (bc B.I.choose_spec.choose_spec.choose_spec.choose_spec.me rfl (F.m 31).ok (pR F (by decide) B hl hp hk h))
noncomputable def uD:List aG:=[iX "root" "" "" "" "" .none]
theorem zP (F:cp c) (hD:3<D) (B:d8 mh t O []) (h:∀m' O',qX mh m' t O O' uD→Q (aL 0) m'):cb c D "Tree" "new_root" [.ref t] mh Q:=by
 obtain ⟨L,ra,na,la,T⟩:=B.I
 refine (F.m 30).has.go F hD rfl xw (bc T.me rfl (F.m 28).ok (we F (by decide) T (by decide) fun m1 O' RP S8 OR T1 fr sub old=>h m1 O' ⟨⟨⟨L,RP,S8,OR,T1⟩,fun b i=>?_⟩,fr,sub⟩))
 cases i with
 | zero=>cases b<;>exact Nat.zero_le _
 | succ i=>cases b<;>exact Nat.zero_le _
theorem JP (F:cp c) (hD:1<D) (h:∀t O m',d8 m' t O []→MH.Le mh m'→(∀{a},O a→mh a=none)→Q (.ref t) m'):aq c D "Tree" [] mh Q:=by
 refine ((F.k 5).callC F hD fun t ht=>(F.m 27).has.callC F (Nat.lt_succ_self _) rfl (xv.mpr (RO rfl (Nat.le_of_ble_eq_true rfl) fun L hL ne=>⟨rfl,?_⟩))).yx
 refine h t (fun a=>a=t∨a=L) _ ⟨⟨L,fun zz=>0,fun zz=>0,fun zz zz=>0,MH.set_same ..,(MH.ae _ _ ne).trans (MH.set_same ..),fun h=>absurd h (Nat.not_lt_zero _),fun zz h=>absurd h (Nat.not_lt_zero _),fun h=>absurd h (Nat.not_lt_zero _),fun zz h=>absurd h (Nat.not_lt_zero _),.inl rfl,.inr rfl,fun h=>absurd h (Nat.not_lt_zero _),?_⟩,fun b i=>?_⟩ ((MH.Le.set hL).ir ht) ?_
 ·rintro a (rfl | rfl)
  ·rw [MH.set_same];exact fun z=>nomatch z
  ·rw [MH.ae _ _ ne,MH.set_same];exact fun z=>nomatch z
 ·cases b<;>exact Nat.zero_le _
 ·rintro a (rfl | rfl)
  ·exact ht
  ·exact hL
end
section
variable {c:Cfg} {D:Nat} {mh m m':MH} {Q:VQ} {t:Addr} {O O':Addr→Prop} {rows rows':List aG} {L:Addr} {ra na:Nat→Addr} {la:Bool→Nat→Addr}
theorem A2 (F:cp c) (hD:1<D) (T:qW mh t O rows L ra na la) (hl:rows.length<1000) {i:Nat} (hi:i<rows.length) (hk:(ag rows i).kind="element") (h:Q (.ref (ra i)) mh):cb c D "Tree" "element_row" [.ref t,aL i] mh Q:=
 (F.m 35).has.go F hD rfl su (bc T.me rfl (F.m 29).ok (OU F (by decide) T hl hi (ao.mk (T.row hi) rfl rfl (cM.str (cI (congrArg (!·) (decide_eq_true hk)) h)))))
theorem xE (F:cp c) (hD:3<D) (B:d8 mh t O rows) (hl:rows.length<900) {e:Nat} (he:e<rows.length) (hk:(ag rows e).kind="element") {n u l v:Str} (V6:∀k∈(ag rows e).attrs,k<rows.length∧(ag rows k).loc≠l)
 (h:∀m' O',qX mh m' t O O' (kr rows false e (iX "attribute" n u l v (aL e)))→Q (aL rows.length) m'):cb c D "Tree" "set_attribute" [.ref t,aL e,.str n,.str u,.str l,.str v] mh Q:=by
 obtain ⟨L,ra,na,la,T⟩:=B.I
 have PE:=Nat.lt_trans hl (by decide:900<1000)
 refine (F.m 36).has.go F hD rfl pK (bc T.me rfl (F.m 35).ok (A2 F (by decide) T PE he hk (ao.mk (T.row he) rfl rfl ?_)))
 refine jy (g:=aL) (l:=(ag rows e).attrs) (fun j:Option Val×Option Val=>[some (.ref t),some (aL e),some (.str n),some (.str u),some (.str l),some (.str v),some (.ref (ra e)),j.1,j.2]) (fun zz zz m=>m=mh) (none,none) rfl rfl (fun zz zz zz I=>.list (I▸T.lst false he)) (fun pre k d9 j m K e' I hK zz=>?_) rfl fun j m I=>?_
 ·subst I
  have xM:=V6 k (qD e')
  refine kc.mpr (ao.mk T.me rfl rfl (Xn T PE xM.1 (ao.mk (T.row xM.1) rfl rfl (cM.str ?_))))
  cases decide ((ag rows k).uri=u) with
  | true=>exact ao.mk (T.row xM.1) rfl rfl (cM.str (cI (decide_eq_false xM.2) (hK (_,_) _ rfl)))
  | false=>exact hK (_,_) _ rfl
 ·subst I
  refine kf.mpr (bc T.me rfl (F.m 28).ok (we F (by decide) T PE fun m1 O' RP S8 OR T1 fr sub old=>?_))
  have he1:e<(rows++[iX "attribute" n u l v (aL e)]).length:=by rw [dC];exact Nat.lt_succ_of_lt he
  have re:=T1.row he1
  rw [(old he).1] at re
  refine ao.mk re rfl rfl (je (T1.lst false he1) ?_ (h _ O' (BL T B.len (fun b=>by cases b<;>rfl) he T1 fr sub ((old he).2 false))))
  rw [bt,ku he]
  exact Nat.lt_of_le_of_lt (B.len false e) (cJ PE)
end
structure U2 (m:MH) (d:Addr) (O:Addr→Prop) (V:cv) (e a n:Addr) (as:List (Str×Val)) (k:Nat):Prop where
 me:m d=some (.inst "Dtd" [("root",.str V.root),("elements",.ref e),("attributes",.ref a),("notations",.ref n)])
 el:∃ep,m e=some (.ax V.jw ep)
 at':∃ap,m a=some (.ax as ap)
 ru:∀x,JC m as (V.rules x) x
 inj:∀{x y q},as.lookup x=some (.ref q)→as.lookup y=some (.ref q)→x=y
 ow:∀{x q},as.lookup x=some (.ref q)→O q∧q≠e∧q≠a
 ne:e≠a
 oe:O e
 oa:O a
 od:∀{z},O z→∃es ep,m z=some (.ax es ep)
 len:as.length≤k
def jB (m:MH) (d:Addr) (O:Addr→Prop) (V:cv) (k:Nat):Prop:=∃e a n as,U2 m d O V e a n as k
noncomputable def cv.decl (V:cv) (x y:Str) (r:dB):cv:=⟨V.root,V.jw,fun z=>bif decide (z=x) then V.rules x++[(y,r)] else V.rules z⟩
section
variable {c:Cfg} {D d' k:Nat} {mh m m':MH} {Q:VQ} {d e a n:Addr} {O O':Addr→Prop} {V:cv} {as:List (Str×Val)}
theorem jB.S9 (B:jB m d O V k):ew m d V:=(by obtain ⟨e,a,n,as,B⟩:=B;exact (by obtain ⟨ep,h⟩:=B.el;exact (by obtain ⟨ap,h'⟩:=B.at';exact ⟨e,a,n,ep,ap,as,B.me,h,h',B.ru⟩)))
theorem jB.le (B:jB m d O V k) (h:MH.Le m m'):jB m' d O V k:=
 (by obtain ⟨e,a,n,as,B⟩:=B;exact ⟨e,a,n,as,h _ _ B.me,B.el.imp fun zz=>h _ _,B.at'.imp fun zz=>h _ _,fun x=>(B.ru x).imp id (by rintro ⟨q,e,r⟩;exact ⟨q,e,r.mono h⟩),B.inj,B.ow,B.ne,B.oe,B.oa,fun k=>(by obtain ⟨es,ep,e⟩:=B.od k;exact ⟨es,ep,h _ _ e⟩),B.len⟩)
theorem jB.nl {z:Addr} {l:List Val} (B:jB m d O V k) (h:m z=some (.list l)):¬O z:=fun q=>by
 obtain ⟨_,_,_,_,B⟩:=B
 obtain ⟨es,ep,e⟩:=B.od q
 rw [h] at e;cases e
theorem OV (F:cp c) (hD:1<D) {root:Str} (h:∀d O m',jB m' d O ⟨root,[],fun zz=>[]⟩ 0→MH.Le mh m'→mh d=none→(∀{z},O z→mh z=none)→Q (.ref d) m'):aq c D "Dtd" [.str root] mh Q:=by
 refine ((F.k 3).callC F hD fun d hd=>(F.m 18).has.callC F (Nat.lt_succ_self _) rfl (zy.mpr ?_)).yx
 have step:∀{M:MH} {x:Str} {fs:List (Str×Val)} {K:MH→Prop},(fW "Dtd").contains x=true→fs.length<100→(∀b ep,M b=none→b≠d→K ((M.set b (.ax [] ep)).set d (.inst "Dtd" (E7 x (.ref b) fs))))→dE (M.set d (.inst "Dtd" fs)) (fun b m=>aS m b K (.ref d) x) []:=fun hx hl q=>
  dE.mk rfl fun ep zz b hb=>have ne:b≠d:=fun e=>by rw [e,MH.set_same] at hb;exact c5 hb
   .mk ((MH.Le.set hb) _ _ (MH.set_same ..)) hx hl (by rw [JO ne];exact q b ep (bV hb) ne)
 refine zO rfl (Nat.le_of_ble_eq_true rfl) (step rfl (Nat.le_of_ble_eq_true rfl) fun e ep he ne=>step rfl (Nat.le_of_ble_eq_true rfl) fun a ap ha na=>step rfl (Nat.le_of_ble_eq_true rfl) fun n np hn nn=>⟨rfl,?_⟩)
 have h1:=MH.Le.set (o:=.ax [] ep) he
 have h2:=MH.Le.set (o:=.ax [] ap) ha
 have h3:=MH.Le.set (o:=.ax [] np) hn
 have e1:=(MH.ae _ (.inst "Dtd" [("root",.str root),("elements",.ref e),("attributes",.ref a),("notations",.ref n)]) ne).trans (h3 _ _ (h2 _ _ (MH.set_same ..)))
 have a1:=(MH.ae _ (.inst "Dtd" [("root",.str root),("elements",.ref e),("attributes",.ref a),("notations",.ref n)]) na).trans (h3 _ _ (MH.set_same ..))
 refine h d (fun z=>z=e∨z=a) _ ⟨e,a,n,[],MH.set_same ..,⟨_,e1⟩,⟨_,a1⟩,fun x=>.inl ⟨rfl,rfl⟩,fun h=>(nomatch h),fun h=>(nomatch h),eH (MH.set_same ..) ha,.inl rfl,.inr rfl,?_,Nat.le_refl _⟩ (((h1.trans h2).trans h3).ir hd) hd ?_
 ·rintro z (rfl | rfl)
  ·exact ⟨_,_,e1⟩
  ·exact ⟨_,_,a1⟩
 ·rintro z (rfl | rfl)
  ·exact he
  ·exact h1.none ha
theorem EI (od:∀{z},O z→∃es ep,m z=some (.ax es ep)) {x:Addr} {es:List (Str×Val)} {ep:Nat} {z:Addr} (h:O z∨z=x):∃Fp ep',(m.set x (.ax es ep)) z=some (.ax Fp ep'):=by
 by_cases q:z=x
 ·rw [q];exact ⟨_,_,MH.set_same ..⟩
 ·rw [MH.ae _ _ q];exact h.elim (fun k=>od k) fun k=>absurd k q
theorem jh (F:cp c) (hD:0<D) (B:jB mh d O V k) {x:Str} {v:Val} {i:Int} (hx:V.jw.lookup x=none) (hl:V.jw.length<1000)
 (h:∀m',jB m' d O ⟨V.root,V.jw++[(x,v)],V.rules⟩ k→Fr O mh m'→Q .none m'):cb c D "Dtd" "declare_element" [.ref d,.str x,v,.int i] mh Q:=by
 obtain ⟨e,a,n,as,B⟩:=B
 obtain ⟨ep,el⟩:=B.el
 refine (F.m 19).has.go F hD rfl nK (ao.mk B.me rfl rfl (mJ.E6 el ?_))
 rw [hx]
 refine ao.mk B.me rfl rfl (bb.ax el (cJ hl) fun ep'=>?_)
 rw [ux hx]
 have nI:∀{z C fs},mh z=some (.inst C fs)→z≠e:=fun h q=>by rw [q,el] at h;cases h
 have ki:∀{z C fs},mh z=some (.inst C fs)→(mh.set e (.ax (V.jw++[(x,v)]) ep')) z=some (.inst C fs):=fun h=>(MH.ae _ _ (nI h)).trans h
 exact h _ ⟨e,a,n,as,ki B.me,⟨ep',MH.set_same ..⟩,B.at'.imp fun zz h=>(MH.ae _ _ B.ne.symm).trans h,fun z=>(B.ru z).imp id (by rintro ⟨q,e1,r⟩;exact ⟨q,e1,r.keep (MH.ae _ _ (B.ow e1).2.1).trans ki⟩),B.inj,B.ow,B.ne,B.oe,B.oa,fun k=>EI B.od (.inl k),B.len⟩ (Fr.refl.set (.inl B.oe))
theorem wg (F:cp c) (hD:1<D) {k mo:Str} {ch:List Str} {v:Val} (hch:ch.length<1000) (h:∀q m',MH.Le mh m'→mh q=none→sx m' q ⟨k,ch,mo,v⟩→Q (.ref q) m'):aq c D "AttributeRule" [.str k,.tup (aw ch),.str mo,v] mh Q:=
 ((F.k 0).callC F hD fun q hq=>(F.m 0).has.callC F (Nat.lt_succ_self _) rfl (ju.mpr (zO rfl (Nat.le_of_ble_eq_true rfl) (.tuple .tup (by rw [aw,List.length_map];exact cJ hch) (zO rfl (Nat.le_of_ble_eq_true rfl) (zO rfl (Nat.le_of_ble_eq_true rfl) (zO rfl (Nat.le_of_ble_eq_true rfl) ⟨rfl,h q _ (.set hq) hq (MH.set_same ..)⟩))))))).yx
theorem RQ {l:List Str} {x:Str} (h:l.Nodup) (hx:x∉l):(l++[x]).Nodup:=List.nodup_append.mpr ⟨h,List.pairwise_singleton _ _,fun y hy z hz e=>hx (by rw [List.mem_singleton.mp hz] at e;exact e▸hy)⟩
theorem BM (B:U2 m d O V e a n as k) {x y:Str} {q q2:Addr} {r:dB} (hr:sx m q r) (hy:V.rule x y=none) (hx:as.lookup x=some (.ref q2)) (hl:(V.rules x).length<900)
 (h:∀m',U2 m' d O (V.decl x y r) e a n as k→Fr O m m'→Q .none m'):c7 (.str y) (.ref q) Q (.ref q2) m:=by
 have ow:=B.ow hx
 have hru:eg m q2 (V.rules x):=(B.ru x).elim (fun h=>by rw [hx] at h;exact c5 h.1) (by rintro ⟨q',e1,R⟩;exact by rw [hx] at e1;cases e1;exact R)
 obtain ⟨l,ep,R,el⟩:=hru
 have hy':l.lookup y=none:=by
  unfold cv.rule at hy
  rw [el,cY fun q:dB×Addr=>q.1] at hy
  exact Option.map_eq_none_iff.mp hy
 have Yj:(l.map fun p=>(p.1,Val.ref p.2.2)).lookup y=none:=by rw [cY fun q:dB×Addr=>Val.ref q.2,hy'];rfl
 refine mJ.E6 R.me ?_
 rw [Yj]
 refine bb.ax R.me (by rw [List.length_map];exact cJ R.lt) fun ep'=>?_
 rw [ux Yj]
 have nI:∀{z C fs},m z=some (.inst C fs)→z≠q2:=fun h e=>by rw [e,R.me] at h;cases h
 have ki:∀{z C fs},m z=some (.inst C fs)→(m.set q2 (.ax ((l.map fun p=>(p.1,.ref p.2.2))++[(y,.ref q)]) ep')) z=some (.inst C fs):=fun h=>(MH.ae _ _ (nI h)).trans h
 refine h _ ⟨ki B.me,B.el.imp fun zz h=>(MH.ae _ _ ow.2.1.symm).trans h,B.at'.imp fun zz h=>(MH.ae _ _ ow.2.2.symm).trans h,fun z=>?_,B.inj,B.ow,B.ne,B.oe,B.oa,fun k=>EI B.od (.inl k),B.len⟩ (Fr.refl.set (.inl ow.1))
 show JC _ as (bif decide (z=x) then V.rules x++[(y,r)] else V.rules z) z
 by_cases hz:z=x
 ·rw [decide_eq_true hz,hz]
  refine .inr ⟨q2,hx,l++[(y,r,q)],ep',⟨by rw [MH.set_same,List.map_append];rfl,fun p hp=>?_,?_,?_⟩,by rw [List.map_append,←el];rfl⟩
  ·rcases List.mem_append.mp hp with hp | hp
   ·exact ki (R.ru p hp)
   ·rw [List.mem_singleton.mp hp];exact ki hr
  ·rw [List.map_append]
   exact RQ R.nd fun hm=>(by obtain ⟨p,hp,e⟩:=List.mem_map.mp hm;exact bne_iff_ne.mp (List.lookup_eq_none_iff.mp hy' p hp) e.symm)
  ·rw [el,List.length_map] at hl
   rw [List.length_append];exact Nat.lt_trans (Nat.succ_lt_succ hl) (by decide)
 ·rw [decide_eq_false hz]
  exact (B.ru z).imp id (by rintro ⟨q0,e1,r0⟩;exact ⟨q0,e1,r0.keep (MH.ae _ _ fun (e:q0=q2)=>hz (B.inj (e▸e1) hx)).trans ki⟩)
theorem qF (F:cp c) (hD:0<D) (B:jB mh d O V k) {x y:Str} {q:Addr} {r:dB} (hr:sx mh q r) (hy:V.rule x y=none) (hk:k<1000) (hl:(V.rules x).length<900)
 (h:∀m' O',jB m' d O' (V.decl x y r) (k+1)→Fr O mh m'→(∀{z},O' z→O z∨mh z=none)→Q .none m'):cb c D "Dtd" "declare_attribute" [.ref d,.str x,.str y,.ref q] mh Q:=by
 obtain ⟨e,a,n,as,B⟩:=B
 obtain ⟨ap,at'⟩:=B.at'
 refine (F.m 20).has.go F hD rfl j9 (ao.mk B.me rfl rfl (Rw at' ?_))
 rcases B.ru x with ⟨hx,hn⟩ | ⟨q2,hx,R⟩
 ·rw [hx]
  refine nQ.mk (dE.mk rfl fun ep zz q2 hq=>?_)
  have lq:=MH.Le.set (o:=.ax [] ep) hq
  refine ao.mk (lq _ _ B.me) rfl rfl (bb.ax (lq _ _ at') (cJ (Nat.lt_of_le_of_lt B.len hk)) fun Yp=>?_)
  have nqa:q2≠a:=fun z=>by rw [z,at'] at hq;exact c5 hq
  obtain ⟨ep1,el⟩:=B.el
  have nqe:q2≠e:=fun z=>by rw [z,el] at hq;exact c5 hq
  have nI:∀{z C fs},mh z=some (.inst C fs)→z≠a:=fun h e=>by rw [e,at'] at h;cases h
  have kp:∀{z o},z≠a→mh z=some o→((mh.set q2 (.ax [] ep)).set a (.ax (putK x (.ref q2) as) Yp)) z=some o:=fun n h=>(MH.ae _ _ n).trans (lq _ _ h)
  have ki:∀{z C fs},mh z=some (.inst C fs)→((mh.set q2 (.ax [] ep)).set a (.ax (putK x (.ref q2) as) Yp)) z=some (.inst C fs):=fun h=>kp (nI h) h
  have nq:∀{z p},as.lookup z=some (.ref p)→p≠q2:=fun h z=>by obtain ⟨_,_,h'⟩:=B.od (B.ow h).1;rw [z,hq] at h';exact a8 h'
  have lk:∀{z p},(putK x (.ref q2) as).lookup z=some (.ref p)→(z=x∧p=q2)∨as.lookup z=some (.ref p):=fun {z p} h=>by
   rw [lookup_putK] at h
   by_cases hz:z=x
   ·rw [if_pos hz] at h;cases h;exact .inl ⟨hz,rfl⟩
   ·rw [if_neg hz] at h;exact .inr h
  have fr:Fr O mh ((mh.set q2 (.ax [] ep)).set a (.ax (putK x (.ref q2) as) Yp)):=(Fr.refl.set (.inr hq)).set (.inl B.oa)
  refine BM (O:=fun z=>O z∨z=q2) (k:=k+1) ⟨ki B.me,⟨ep1,kp B.ne el⟩,⟨Yp,MH.set_same ..⟩,fun z=>?_,fun {z y p} h1 h2=>?_,fun {z p} h1=>?_,B.ne,.inl B.oe,.inl B.oa,fun {z} hz=>?_,Nat.le_trans kj (Nat.succ_le_succ B.len)⟩ (ki hr) hy (by rw [lookup_putK,if_pos rfl]) hl fun m' B' Xo=>h m' _ ⟨e,a,n,_,B'⟩ (fr.trans Xo fun zz s=>s.imp id fun e=>by rw [e];exact hq) fun s=>s.imp id fun e=>by rw [e];exact hq
  ·unfold JC
   rw [lookup_putK]
   by_cases hz:z=x
   ·rw [if_pos hz,hz,hn];exact .inr ⟨q2,rfl,[],ep,⟨(MH.ae _ _ nqa).trans (MH.set_same ..),fun zz h=>(nomatch h),List.nodup_nil,by decide⟩,rfl⟩
   ·rw [if_neg hz];exact (B.ru z).imp id (by rintro ⟨q0,e1,r0⟩;exact ⟨q0,e1,r0.keep (kp (B.ow e1).2.2) ki⟩)
  ·rcases lk h1 with ⟨a1,b1⟩ | a1<;>rcases lk h2 with ⟨a2,b2⟩ | a2
   ·exact a1.trans a2.symm
   ·exact absurd b1 (nq a2)
   ·exact absurd b2 (nq a1)
   ·exact B.inj a1 a2
  ·rcases lk h1 with ⟨a1,b1⟩ | a1
   ·rw [b1];exact ⟨.inr rfl,nqe,nqa⟩
   ·exact ⟨.inl (B.ow a1).1,(B.ow a1).2⟩
  ·exact EI (O:=fun z=>O z∨z=q2) (fun k=>EI B.od k) (.inl hz)
 ·rw [hx]
  exact nQ.mk (BM B hr hy hx hl fun m' B' fr=>h m' O ⟨e,a,n,as,B'.me,B'.el,B'.at',B'.ru,B'.inj,B'.ow,B'.ne,B'.oe,B'.oa,B'.od,Nat.le_succ_of_le B'.len⟩ fr .inl)
end
noncomputable def SrcL (x y:Int):MO:=.list [.int x,.int y]
def SrcAt (m:MH) (s:Addr):Prop:=∃x y:Int,0≤y∧y<2147483648∧m s=some (SrcL x y)
theorem sF {a b:Int} (h1: -(2 ^ 64)<b) (h2:b<2 ^ 64):IntMulOk a b:=IntMulOk.of_right (intBits_le_64 h1 h2)
noncomputable def lwl (v:Str):List Str:=Txt.split (Txt.replace v "\n" " ") " "
noncomputable def IP (w:Str):Bool:=!decide (w="")
noncomputable def eV (v:Str):Bool:=cC v&&(decide (v.length+(v.length+1) * (" ":Str).length<1000)&&(decide ((Txt.replace v "\n" " ").length<1000)&&
 (decide ((Builtin.Str.partsBetween (Txt.replace v "\n" " ") (Builtin.Str.occurrences (Txt.replace v "\n" " ") " " 0 (Txt.replace v "\n" " ").length ((Txt.replace v "\n" " ").length+1)) (" ":Str).length).length<1000)&&
 (decide ((lwl v).length<1000)&&decide ((lwl v).filter IP=bS v)))))
structure cq where
 el:Str
 nm:Str
 kind:Str
 eN:List Str
 mode:Str
 val:Val
noncomputable def cT (R:cq):Val:=.tup [.str R.el,.str R.nm,.str R.kind,.tup (aw R.eN),.str R.mode,R.val]
noncomputable def xU (k:Str):List Str:=bif decide (k="NMTOKEN") then ["u","v","x","7"] else ["u","v","x"]
noncomputable def G2 (k told:Str):List Str:=bif decide (k="IDREFS") then bS told else [told]
noncomputable def OW (v:Val) (s:Str):Bool:=match v with
 | .str x=>decide (s=x)
 | _=>false
noncomputable def Ta (k:Str) (ws:List Str):Bool:=!ws.isEmpty&&ws.all (xU k).contains
noncomputable def IQ (R:cq) (told:Str):Bool:=bif decide (R.kind="CDATA") then true else bif decide (R.kind="enumeration") then R.eN.contains told else Ta R.kind (G2 R.kind told)
noncomputable def wh (R:cq) (v:Str):Bool:=bif decide (R.mode="fixed")&& !OW R.val (eG R.kind v) then false else IQ R (eG R.kind v)
section
variable {c:Cfg} {D:Nat} {mh m:MH} {Q:VQ} {s:Addr}
theorem eV.g {v:Str} (h:eV v=true):cC v=true:=(aC h).1
theorem SrcAt.le {m m':MH} (S:SrcAt m s) (h:MH.Le m m'):SrcAt m' s:=(by obtain ⟨x,y,h0,h1,e⟩:=S;exact ⟨x,y,h0,h1,h _ _ e⟩)
theorem SrcAt.keep {m m':MH} {O:Addr→Prop} (S:SrcAt m s) (h:Fr O m m') (n:¬O s):SrcAt m' s:=(by obtain ⟨x,y,h0,h1,e⟩:=S;exact ⟨x,y,h0,h1,h.keep n e⟩)
theorem EJ (F:cp c) (hD:0<D) {sc:Addr} {ns:List Int} (hs:mh sc=some (.ro (bj ns))) (hl:ns.length<1000) (h:∀s m',MH.Le mh m'→mh s=none→SrcAt m' s→Q (.ref s) m'):aq c D "_law_pool" [.ref sc,.int 0] mh Q:=by
 refine (F.f 21).has.go F hD rfl Ie (.len (.seq (.ro hs) (by rw [p8];exact cJ hl) (.mk ?_)))
 have fin:∀x:Int,kM Q (.int 0) (.int x) mh:=fun x=>.B9 (.mk (.sub (.B9 (.max (.B9 (.mod (by decide) (.E5 (sF (by decide) (by decide)) (.E5 (sF (by decide) (by decide)) (.uM (.E5 (sF (by decide) (by decide)) (.uM (.uM (.E5 (sF (by decide) (by decide)) (.B9 (.mod (by decide)
  (.pow (by decide) (by decide) (.int (.Mv (.E5 (sF (by split<;>decide) (by split<;>decide)) fun a ha=>h a _ (.set ha) ha ⟨_,_,Int.fmod_nonneg_of_pos _ (by decide),Int.lt_trans (Int.fmod_lt_of_pos _ (by decide)) (by decide),MH.set_same ..⟩)))))))))))))))))))
 cases hb:decide ((0:Int)<((bj ns).length:Int)) with
 | false=>exact fin 0
 | true=>
   cases ns with
   | nil=>exact iZ hb
   | cons x ns=>exact .seq (.ro hs) (by decide) (by decide) rfl (fin x)
theorem cL (F:cp c) (hD:0<D) (S:SrcAt mh s) {n:Nat} (h0:0<n) (h:∀k m',k<n→SrcAt m' s→Fr (fun a=>a=s) mh m'→Q (aL k) m'):aq c D "_law_take" [.ref s,aL n] mh Q:=by
 obtain ⟨x,y,y0,y1,hs⟩:=S
 have p:(0:Int)<n:=Int.ofNat_lt.mpr h0
 have ne:(n:Int)≠0:=Int.ne_of_gt p
 have fin:∀(z:Int) m',SrcAt m' s→Fr (fun a=>a=s) mh m'→Q (.int (z.fmod n)) m':=fun z m' S fr=>by
  obtain ⟨k,hk⟩:=Int.eq_ofNat_of_zero_le (Int.fmod_nonneg_of_pos z p)
  have:=Int.fmod_lt_of_pos z p
  rw [hk] at this⊢
  exact h k m' (Int.ofNat_lt.mp this) S fr
 refine (F.f 22).has.go F hD rfl Ih (pL (i:=0) hs (by decide) rfl (.mk ?_))
 cases decide ((0:Int)<x) with
 | true=>exact pL (i:=0) hs (by decide) rfl (.B9 (.mod ne (pL (i:=0) hs (by decide) rfl (.div ne (.list hs (by decide) (by decide:(0:Int)<2) (by decide) (fin x _ ⟨_,y,y0,y1,MH.set_same ..⟩ (Fr.refl.set (.inl rfl))))))))
 | false=>
   refine pL (i:=1) hs (by decide) rfl (.E5 (sF (by decide) (by decide)) (.uM (.B9 (.mod (by decide) (.list hs (by decide) (by decide:(1:Int)<2) (by decide) ?_)))))
   have z0:0≤(y * 39373+7).fmod 2147483647:=Int.fmod_nonneg_of_pos _ (by decide)
   have z1:(y * 39373+7).fmod 2147483647<2147483647:=Int.fmod_lt_of_pos _ (by decide)
   show tA Q (aL n) (.ref s) (mh.set s (SrcL x ((y * 39373+7).fmod 2147483647)))
   generalize (y * 39373+7).fmod 2147483647=z at *
   have hz:(mh.set s (SrcL x z)) s=some (SrcL x z):=MH.set_same ..
   exact pL (i:=1) hz (by decide) rfl (pL (i:=1) hz (by decide) rfl (.E5 (sF (Int.lt_of_lt_of_le (by decide) z0) (Int.lt_trans z1 (by decide))) (.B9 (.mod (by decide) (.div (by decide) (.B9 (.mod ne (fin _ _ ⟨x,z,z0,Int.lt_trans z1 (by decide),hz⟩ (Fr.refl.set (.inl rfl))))))))))
theorem wO (F:cp c) (hD:1<D) (S:SrcAt mh s) {q:Addr} {vs:List Val} (hq:mh q=some (.list vs)) (hqs:q≠s) (hv:0<vs.length) (hl:vs.length<1000) (h:∀v m',v∈vs→SrcAt m' s→Fr (fun a=>a=s) mh m'→Q v m'):aq c D "_law_one" [.ref s,.ref q] mh Q:=
 (F.f 23).has.go F hD rfl Lx ⟨(F.f 22).ok,xA hq (cJ hl) (cL F (by decide) S hv fun k m1 hk S1 fr=>pL (fr.keep hqs hq) (cJ (Nat.lt_trans hk hl)) (List.getElem?_eq_getElem hk) (h _ m1 (List.getElem_mem hk) S1 fr))⟩
theorem OX (F:cp c) (hD:1<D) (S:SrcAt mh s) {vs:List Val} (hv:0<vs.length) (hl:vs.length<1000) (h:∀v m',v∈vs→SrcAt m' s→Fr (fun a=>a=s) mh m'→Q v m'):aH mh (.list vs) (fun x m=>aq c D "_law_one" [.ref s,x] m Q):=fun q hq=>
 wO F hD (S.le (.set hq)) (MH.set_same ..) (fun e=>by obtain ⟨_,_,_,_,z⟩:=S;rw [←e,hq] at z;exact a8 z) hv hl fun v m' hv S' fr=>h v m' hv S' ((Fr.of_le (.set hq)).tr fr)
theorem dP (F:cp c) (hD:0<D) {v:Str} (hv:eV v=true) (h:∀b m',MH.Le mh m'→mh b=none→m' b=some (.list (aw (bS v)))→Q (.ref b) m'):aq c D "_law_words" [.str v] mh Q:=by
 obtain ⟨h2,hv⟩:=aC (aC hv).2
 obtain ⟨h3,hv⟩:=aC hv
 obtain ⟨h4,hv⟩:=aC hv
 obtain ⟨h5,h6⟩:=aC hv
 rw [←of_decide_eq_true h6] at h
 refine (F.f 28).has.go F hD rfl Gj (.mk (by decide) (cJ (of_decide_eq_true h2)) (.str rfl (.split (by decide) (cJ (of_decide_eq_true h3)) (cJ (of_decide_eq_true h4)) fun b hb=>?_)))
 refine dx (g:=.str) (e:=.str) (f:=IP) (l:=lwl v) (.list (MH.set_same ..)) rfl (cJ (of_decide_eq_true h5)) (fun w zz acc K hl hK=>cM.str ?_) fun b2 rq=>h b2 _ ((MH.Le.set hb).trans (.set rq)) ((MH.Le.set hb).none rq) (MH.set_same ..)
 unfold IP at hK
 revert hK
 cases (decide (w="")) with
 | true=>exact id
 | false=>exact fun hK=>⟨hl,hK⟩
theorem filter_nil {p:Str→Bool} {l:List Str}:((l.filter fun w=>!p w).map Val.str).isEmpty=l.all p:=by
 induction l with
 | nil=>rfl
 | cons x l ih=>
   rw [List.all_cons]
   cases h:p x with
   | true=>rw [List.filter_cons_of_neg (by rw [h];decide)];exact ih
   | false=>rw [List.filter_cons_of_pos (by rw [h];rfl)];rfl
theorem zQ {k:Str} {ws:List Str} {b:Addr} (hb:m b=some (.list (aw ws))) (hl:ws.length<1000) (h:∀m',MH.Le m m'→Q (.bool (Ta k ws)) m'):kO (.str k) Q (.ref b) m:=fun b2 rq=>by
 have l2:=MH.Le.set (o:=.list []) rq
 refine cM.nil (l2 _ _ hb) (MH.set_same ..) (.mk ?_)
 cases ws with
 | nil=>exact h _ l2
 | cons w ws=>
   refine Oc (g:=.str) (e:=.str) (f:=fun w=>!(xU k).contains w) (l:=w::ws) (MH.Le m) l2 (fun m' j=>.list (j _ _ hb)) rfl (cJ hl) (fun x hx acc m' K j ha hK=>cM.str ?_) fun m' j b3 Mq b4 Yq=>cM.nil ((MH.Le.set Yq) _ _ (MH.set_same ..)) (MH.set_same ..) ?_
   ·have go:∀l:List Str,xU k=l→aH m' (.list (aw l)) (kN (.str x) acc K):=fun l e a hn=>mJ.J4 (MH.set_same ..) (cg l) (by
     have hK:=hK _ (j.trans (.set (o:=.list (aw l)) hn))
     rw [e] at hK
     revert hK
     show _→br (!l.contains x) _ _
     cases l.contains x with
     | true=>exact id
     | false=>exact fun hK=>⟨ha,hK⟩)
    unfold xU at go
    revert go
    cases decide (k="NMTOKEN") with
    | true=>exact fun go=>go _ rfl
    | false=>exact fun go=>go _ rfl
   ·rw [filter_nil]
    exact h _ ((j.trans (.set Mq)).trans (.set Yq))
structure LOk (R:cq):Prop where
 fixed:R.mode="fixed"→∃x,R.val= .str x
theorem EK (F:cp c) (hD:1<D) {R:cq} (hR:LOk R) {v:Str} (hv:eV v=true) (hc:eV (fH v)=true) (h:∀m',MH.Le mh m'→Q (.bool (wh R v)) m'):aq c D "_law_fits" [cT R,.str v] mh Q:=by
 have kinds:∀(m:MH) (told:Str),eV told=true→(∀m',MH.Le m m'→Q (.bool (IQ R told)) m')→kP c 1 (.str R.kind) Q (.str told) (cT R) m:=fun m told ht h=>by
  unfold IQ at h
  refine cM.str ?_
  cases h1:decide (R.kind="CDATA") with
  | true=>rw [h1] at h;exact h _ (.refl _)
  | false=>
    rw [h1] at h
    refine cM.str ?_
    cases h2:decide (R.kind="enumeration") with
    | true=>rw [h2] at h;exact .seq .tup (by decide) (by decide) rfl (mJ.wR (cg _) (h _ (.refl _)))
    | false=>
      rw [h2] at h
      refine cM.str ?_
      unfold G2 at h
      cases h3:decide (R.kind="IDREFS") with
      | true=>rw [h3] at h;exact ⟨(F.f 28).ok,dP F (by decide) ht fun b m' le zz hb=>zQ hb (Nat.lt_trans (cC.n (eV.g ht)) (by decide)) fun m2 c8=>h m2 (le.trans c8)⟩
      | false=>rw [h3] at h;exact fun b hb=>zQ (ws:=[told]) (MH.set_same ..) (Nat.le_of_ble_eq_true rfl) fun m2 c8=>h m2 ((MH.Le.set hb).trans c8)
 have rest:∀(m:MH),MH.Le mh m→eV (eG R.kind v)=true→kQ c 1 Q (cT R) (.str R.kind) (.str R.mode) (.str (eG R.kind v)) m:=fun m le ht=>by
  have h:=fun m' (k:MH.Le m m')=>h m' (le.trans k)
  unfold wh at h
  generalize eG R.kind v=told at *
  refine .mk (cM.str ?_)
  cases h1:decide (R.mode="fixed") with
  | false=>rw [h1] at h;exact kinds m told ht h
  | true=>
    obtain ⟨x,hx⟩:=hR.fixed (of_decide_eq_true h1)
    rw [h1,Bool.true_and,show OW R.val told=decide (told=x) from by rw [hx];rfl] at h
    refine .seq .tup (by decide) (by decide) rfl ?_
    rw [hx]
    refine cM.str ?_
    revert h
    cases decide (told=x) with
    | true=>exact kinds m told ht
    | false=>exact fun h=>h m (.refl _)
 refine (F.f 29).has.go F hD rfl Ii (.seq .tup (by decide) (by decide) rfl (.seq .tup (by decide) (by decide) rfl (.seq .tup (by decide) (by decide) rfl (cM.str ?_))))
 unfold eG at rest
 by_cases h1:R.kind="CDATA"
 ·rw [if_pos h1] at rest;exact dj (decide_eq_true h1) (rest mh (.refl _) hv)
 ·rw [if_neg h1] at rest
  exact cI (decide_eq_false h1) (.str rfl ⟨(F.f 28).ok,dP F (by decide) hv fun b m le zz hb=>JF (d:=0) (.list hb) (cC.l (eV.g hv)) fun zz=>rest m le hc⟩)
end
section
variable {c:Cfg} {D:Nat} {mh:MH} {Q:VQ} {t:Addr} {rows:List aG}
def IS (c:Cfg) (t:Addr) (rows:List aG) (d i:Nat):Prop:=∀{D:Nat} {mh:MH} {Q:VQ},d<D→bq mh t rows→(fJ rows i).length<5000→(∀b m',MH.Le mh m'→m' b=some (.list (aB (fJ rows i)))→Q (.ref b) m')→aq c D "_law_walk" [.ref t,aL i] mh Q
theorem BN (F:cp c) (W:WF rows) {d i:Nat} (hi:i<rows.length) (ih:∀k∈(ag rows i).children,IS c t rows (d+1) k):IS c t rows (d+2) i:=fun {D mh Q} hD T hl h=>by
 have mt:=T.choose_spec.choose_spec.me
 have eq:=kh W hi
 have tail:∀l0 m1 b,MH.Le mh m1→m1 b=some (.list (aB l0))→fJ rows i=l0++(ag rows i).children.flatMap (fJ rows)→kR c (d+2) (.ref t) (aL i) Q (.ref b) m1:=fun l0 m1 b jx hb eq=>by
  refine bc (jx _ _ mt) rfl (F.m 40).ok (d5 F (Nat.le_add_left ..) (T.mono jx) (aQ hi) fun cl hcl=>?_)
  rw [eq] at hl h
  refine jy (g:=aL) (l:=(ag rows i).children) (fun j:Addr×Option Val=>[some (.ref t),some (aL i),some (.ref j.1),j.2]) (fun pre j m=>MH.Le (m1.set cl (.list (aB (ag rows i).children))) m∧m j.1=some (.list (aB (l0++pre.flatMap (fJ rows))))) (b,none) rfl rfl (fun zz zz zz I=>.list (I.1 _ _ (MH.set_same ..))) (fun pre k d9 j m K e I hK zz=>?_) ⟨.refl _,by rw [List.flatMap_nil,List.append_nil];exact (MH.Le.set hcl) _ _ hb⟩ fun j m I=>AO.mpr (h j.1 m ((jx.trans (.set hcl)).trans I.1) I.2)
  have eq2:l0++(pre++[k]).flatMap (fJ rows)=l0++pre.flatMap (fJ rows)++fJ rows k:=by rw [List.flatMap_append,List.flatMap_cons,List.flatMap_nil,List.append_nil,List.append_assoc]
  rw [e,List.append_cons,List.flatMap_append,←List.append_assoc,eq2,List.length_append] at hl
  have hl:=Nat.lt_of_le_of_lt (Nat.le_add_right ..) hl
  have hlk:(fJ rows k).length<5000:=by rw [List.length_append] at hl;exact Nat.lt_of_le_of_lt (Nat.le_add_left ..) hl
  refine AN.mpr ⟨(F.f 31).ok,ih k (qD e) (Nat.lt_succ_self _) (T.mono ((jx.trans (.set hcl)).trans I.1)) hlk fun b2 m2 c8 rq=>.fY (c8 _ _ I.2) rq ?_ fun b3 Mq=>hK (_,_) _ ⟨(I.1.trans c8).trans (.set Mq),by rw [MH.set_same,c9,eq2]⟩⟩
  rw [bt,bt,←List.length_append]
  exact Nat.lt_trans hl (by decide)
 refine (F.f 31).has.go F hD rfl Ij (bc mt rfl (F.m 37).ok (sv F (Nat.le_add_left ..) T (aQ hi) (cM.str ?_)))
 show br (nU rows i) _ _
 cases e:nU rows i with
 | true=>rw [e,if_pos rfl] at eq;exact fun b hb=>tail [i] _ b (.set hb) (MH.set_same ..) eq
 | false=>rw [e,if_neg (by decide)] at eq;exact fun b hb=>tail [] _ b (.set hb) (MH.set_same ..) eq
theorem RR (F:cp c) (W:WF rows) {N:Nat} (hN:∀i,∀k∈(ag rows i).children,k<N):∀(n i:Nat),N≤n+i→i<rows.length→IS c t rows (n+2) i:=by
 intro n
 induction n with
 | zero=>exact fun i hn hi=>BN F W hi fun k hk=>absurd (Nat.lt_of_lt_of_le (Nat.lt_trans (W.ch i k hk).1 (hN i k hk)) hn) (by rw [Nat.zero_add];exact Nat.lt_irrefl _)
 | succ n ih=>exact fun i hn hi=>BN F W hi fun k hk=>ih k (Nat.le_trans hn (by rw [Nat.succ_add];exact Nat.add_le_add_left (W.ch i k hk).1 n)) (W.ch i k hk).2
end
def pow (R:Nat→Nat→Prop) (b k:Nat):Nat→Prop:=Nat.rec (fun e=>b=e) (fun zz r e=>∃x,r x∧R x e) k
def ji (mk:Str) (R:Nat→Nat→Prop) (b e:Nat):Prop:=(isOpt mk=true∧b=e)∨bif dR mk then ∃k,pow R b (k+1) e else R b e
noncomputable abbrev xF:=Nat→Nat→Prop
def BO (w:List Str) (s:Str) (b e:Nat):Prop:=e=b+1∧w[b]? =some s
noncomputable def Xp:xF×xF:=(fun b e=>b=e,fun zz zz=>False)
noncomputable def Tb (r:xF) (q:xF×xF):xF×xF:=(fun b e=>∃x,r b x∧q.1 x e,fun b e=>r b e∨q.2 b e)
noncomputable def Pt.M (w:List Str) (p:Pt):xF:=Pt.rec (motive_1:=fun zz=>xF) (motive_2:=fun zz=>xF×xF) (fun s m=>ji m (BO w s)) (fun zz m r=>ji m r.1) (fun zz m r=>ji m r.2) Xp (fun zz zz=>Tb) p
noncomputable def fz.M (w:List Str) (l:fz):xF×xF:=fz.rec (motive_1:=fun zz=>xF) (motive_2:=fun zz=>xF×xF) (fun s m=>ji m (BO w s)) (fun zz m r=>ji m r.1) (fun zz m r=>ji m r.2) Xp (fun zz zz=>Tb) l
noncomputable def Mr (m:Str):Bool:=(["","?","*","+"]:List Str).contains m
noncomputable def Yr (m:Str) (r:Bool×Nat):Bool:=Mr m&&(r.1&&decide (r.2≤4))
noncomputable def Pt.ok (p:Pt):Bool:=Pt.rec (motive_1:=fun zz=>Bool) (motive_2:=fun zz=>Bool×Nat) (fun zz m=>Mr m) (fun zz m r=>Yr m r) (fun zz m r=>Yr m r) (true,0) (fun zz zz r q=>(r&&q.1,q.2+1)) p
noncomputable def fz.ok (l:fz):Bool×Nat:=fz.rec (motive_1:=fun zz=>Bool) (motive_2:=fun zz=>Bool×Nat) (fun zz m=>Mr m) (fun zz m r=>Yr m r) (fun zz m r=>Yr m r) (true,0) (fun zz zz r q=>(r&&q.1,q.2+1)) l
def Up (n:Nat) (R:xF):Prop:=∀{b x},b≤n→R b x→b≤x∧x≤n
section
variable {R:xF} {n b e k:Nat} {mk:Str} {w:List Str}
theorem IU (up:Up n R) (hb:b≤n):∀{e},pow R b k e→b≤e∧e≤n:=by
 induction k with
 | zero=>rintro e rfl;exact ⟨Nat.le_refl _,hb⟩
 | succ k ih=>
   rintro e ⟨x,h,r⟩
   have a:=ih h
   have c:=up a.2 r
   exact ⟨Nat.le_trans a.1 c.1,c.2⟩
theorem EL (up:Up n R):Up n (ji mk R):=fun {b x} hb h=>h.elim (fun h=>h.2▸⟨Nat.le_refl _,hb⟩) fun h=>by
 revert h
 cases dR mk with
 | true=>exact (by rintro ⟨k,h⟩;exact IU up hb h)
 | false=>exact up hb
theorem EM {s:Str}:Up w.length (BO w s):=fun h r=>by
 rw [r.1];exact ⟨Nat.le_succ _,(List.getElem?_eq_some_iff.mp r.2).1⟩
theorem U3:(∀p:Pt,Up w.length (p.M w))∧∀l:fz,Up w.length (l.M w).1∧Up w.length (l.M w).2:=
 Pt.ind (fun s m=>EL EM) (fun l m h=>EL h.1) (fun l m h=>EL h.2) ⟨fun hb h=>h▸⟨Nat.le_refl _,hb⟩,fun zz h=>h.elim⟩ fun p l hp hl=>
  ⟨fun hb ⟨x,h,k⟩=>have a:=hp hb h;have c:=hl.1 a.2 k;⟨Nat.le_trans a.1 c.1,c.2⟩,fun hb h=>h.elim (hp hb) (hl.2 hb)⟩
theorem RT (up:Up n R) (hb:b≤n):∀{e},pow R b k e→∃j,j+b≤e∧pow R b j e:=by
 induction k with
 | zero=>rintro e rfl;exact ⟨0,Nat.le_of_eq (Nat.zero_add _),rfl⟩
 | succ k ih=>
   rintro e ⟨x,h,r⟩
   obtain ⟨j,hj,hp⟩:=ih h
   rcases Nat.eq_or_lt_of_le (up (IU up hb h).2 r).1 with q | q
   ·exact ⟨j,q▸hj,q▸hp⟩
   ·exact ⟨j+1,by rw [Nat.succ_add];exact Nat.lt_of_le_of_lt hj q,x,hp,r⟩
noncomputable def turns (mk:Str) (n:Nat):Nat:=bif dR mk then n+1 else 1
theorem IV (up:Up n R) (hb:b≤n):ji mk R b e↔(isOpt mk=true∧b=e)∨∃k,k<turns mk n∧pow R b (k+1) e:=by
 unfold ji turns
 refine or_congr_right ?_
 cases dR mk with
 | false=>exact ⟨fun h=>⟨0,Nat.one_pos,b,rfl,h⟩,fun ⟨k,hk,h⟩=>by obtain rfl:=Nat.lt_one_iff.mp hk;obtain ⟨x,rfl,r⟩:=h;exact r⟩
 | true=>
   refine ⟨fun ⟨k,x,h,r⟩=>?_,fun ⟨k,z1,h⟩=>⟨k,h⟩⟩
   obtain ⟨j,hj,hp⟩:=RT up hb h
   exact ⟨j,Nat.lt_succ_of_le (Nat.le_trans (Nat.le_add_right j b) (Nat.le_trans hj (IU up hb h).2)),x,hp,r⟩
end
structure Ps (n:Nat) (l:List Nat):Prop where
 nd:l.Nodup
 le:∀y∈l,y≤n
theorem Ps.len {n:Nat} {l:List Nat} (h:Ps n l):l.length≤n+1:=by
 have:=BJ (n+1) (l.map fun (x:Nat)=>(x:Int)+1) (h.nd.map _ fun a b ne e=>ne (Int.ofNat_inj.mp ((Int.add_left_inj 1).mp e))) fun x hx=>(by obtain ⟨y,hy,e⟩:=List.mem_map.mp hx;exact e▸⟨Int.lt_add_one_of_le (Int.natCast_nonneg y),Int.add_le_add_right (Int.ofNat_le.mpr (h.le y hy)) 1⟩)
 rwa [List.length_map] at this
noncomputable def BP (l:List Nat):LI:=l.map Nat.cast
theorem mC {l:List Nat}:aB l=bj (BP l):=(List.map_map ..).symm
theorem wj {x:Int}:∀{l:LI},x∈dedup l↔x∈l:=by
 intro l
 induction l with
 | nil=>exact .rfl
 | cons y l ih=>
   rw [dedup]
   by_cases h:y∈l
   ·rw [if_pos h,ih,List.mem_cons];exact ⟨.inr,fun k=>k.elim (fun e=>e▸h) id⟩
   ·rw [if_neg h,List.mem_cons,List.mem_cons,ih]
theorem G3:∀(l:LI),(dedup l).Nodup:=by
 intro l
 induction l with
 | nil=>exact .nil
 | cons y l ih=>
   rw [dedup]
   by_cases h:y∈l
   ·rw [if_pos h];exact ih
   ·rw [if_neg h];exact List.nodup_cons.mpr ⟨fun k=>h (wj.mp k),ih⟩
theorem RU:∀{L:LI},(∀x∈L,∃n:Nat,(n:Int)=x)→∃Z:List Nat,BP Z=L:=by
 intro L
 induction L with
 | nil=>exact fun zz=>⟨[],rfl⟩
 | cons x L ih=>
   intro h
   obtain ⟨n,rfl⟩:=h x (List.mem_cons_self ..)
   obtain ⟨Z,rfl⟩:=ih fun y hy=>h y (List.mem_cons_of_mem _ hy)
   exact ⟨n::Z,rfl⟩
theorem mem_cast {x:Nat} {l:List Nat}:(x:Int)∈BP l↔x∈l:=⟨fun h=>(by obtain ⟨y,hy,e⟩:=List.mem_map.mp h;exact Int.ofNat_inj.mp e▸hy),fun h=>List.mem_map.mpr ⟨x,h,rfl⟩⟩
theorem Tc {m:MH} {Q:VQ} {l:List Nat} {b:Addr} (hb:m b=some (.list (aB l))) (hl:l.length<60) (h:∀Z a,m a=none→Z.Nodup→(∀x,x∈Z↔x∈l)→Q (.ref a) (m.set a (.list (aB Z)))):A9 m Q (.ref b):=by
 obtain ⟨Z,hZ⟩:=RU (L:=qH (dedup (BP l))) fun x hx=>(by obtain ⟨y,_,e⟩:=List.mem_map.mp (wj.mp ((iu _).mem_iff.mp hx));exact ⟨y,e⟩)
 have nd:(BP Z).Nodup:=hZ▸(iu _).nodup_iff.mpr (G3 _)
 refine .mk hb (by rw [mC];exact ix) (by rw [bt];exact hl) fun a ha=>?_
 rw [←hZ,←mC]
 exact h Z a ha (nd.of_map _ fun a b ne e=>ne (congrArg _ e)) fun x=>by rw [←mem_cast,hZ,(iu _).mem_iff,wj,mem_cast]
def BR (c:Cfg) (w:List Str) (v:Val) (R:xF) (d:Nat):Prop:=∀{D:Nat} {mh:MH} {Q:VQ} {nl bg:Addr} {B:List Nat},d<D→mh nl=some (.list (aw w))→mh bg=some (.list (aB B))→Ps w.length B→
 (∀b m' Z,MH.Le mh m'→m' b=some (.list (aB Z))→Ps w.length Z→(∀x,x∈Z↔∃y∈B,R y x)→Q (.ref b) m')→aq c D "_law_behind" [v,.ref nl,.ref bg] mh Q
section
variable {c:Cfg} {w:List Str} {d:Nat}
theorem Td {R:xF} {n:Nat} {B Z:List Nat} (up:Up n R) (hB:Ps n B) (nd:Z.Nodup) (h:∀x,x∈Z↔∃y∈B,R y x):Ps n Z:=⟨nd,fun x hx=>(by obtain ⟨y,hy,r⟩:=(h x).mp hx;exact (up (hB.le y hy) r).2)⟩
noncomputable def JQ (w:List Str) (s:Str) (y:Nat):Bool:=decide (w[y]? =some s)
theorem OY (F:cp c) (hw:w.length≤11) (s:Str):BR c w (.tup [.str "name",.str s,.str ""]) (BO w s) 0:=fun {D mh Q nl bg B} hD E2 OZ hB h=>by
 refine (F.f 26).has.go F hD rfl gK (.seq .tup (by decide) (by decide) rfl (cM.str (.seq .tup (by decide) (by decide) rfl (cM.str ?_))))
 have hBl:=Nat.lt_of_le_of_lt hB.len (Nat.lt_of_le_of_lt (Nat.succ_le_succ hw) (by decide:12<bw))
 have ll:(aw w).length=w.length:=List.length_map ..
 refine dx (g:=aL) (e:=fun y=>aL (y+1)) (f:=JQ w s) (l:=B) (.list OZ) rfl hBl (fun y hy acc K hl hK=>xA E2 (by rw [ll];exact Nat.lt_of_le_of_lt hw (by decide)) (.mk ?_)) fun b hb=>h b _ ((B.filter (JQ w s)).map (·+1)) (.set hb) (by rw [MH.set_same,aB,List.map_map];rfl) ?_ ?_
 ·rw [ll]
  unfold JQ at hK
  by_cases hy:y<w.length
  ·refine dj (decide_eq_true (Int.ofNat_lt.mpr hy)) (pL E2 (Nat.lt_of_lt_of_le hy (Nat.le_trans hw (by decide))) (by rw [aw,List.getElem?_map,List.getElem?_eq_getElem hy];rfl) (.seq .tup (by decide) (by decide) rfl (cM.str ?_)))
   rw [List.getElem?_eq_getElem hy] at hK
   by_cases e:w[y]=s
   ·rw [decide_eq_true (congrArg some e)] at hK;exact dj (decide_eq_true e) (.uM ⟨hl,hK⟩)
   ·rw [decide_eq_false fun q=>e (Option.some.inj q)] at hK;exact cI (decide_eq_false e) hK
  ·rw [List.getElem?_eq_none (Nat.le_of_not_lt hy),decide_eq_false fun q=>nomatch q] at hK
   exact cI (decide_eq_false fun q=>hy (Int.ofNat_lt.mp q)) hK
 all_goals
  have mem:∀x,x∈(B.filter (JQ w s)).map (·+1)↔∃y∈B,BO w s y x:=fun x=>⟨fun hx=>(by obtain ⟨y,hy,e⟩:=List.mem_map.mp hx;exact ⟨y,(List.mem_filter.mp hy).1,e.symm,of_decide_eq_true (List.mem_filter.mp hy).2⟩),(by rintro ⟨y,hy,e,h2⟩;exact List.mem_map.mpr ⟨y,List.mem_filter.mpr ⟨hy,decide_eq_true h2⟩,e.symm⟩)⟩
 ·exact Td EM hB ((hB.nd.filter _).map _ fun a b ne e=>ne (Nat.succ.inj e)) mem
 ·exact mem
theorem RV (F:cp c) {l:fz} (hl:l.All fun p=>BR c w p.val (p.M w) d):BR c w (.tup [.str "seq",.tup l.vals,.str ""]) (l.M w).1 (d+1):=fun {D mh Q nl bg B} hD E2 OZ hB h=>by
 refine (F.f 26).has.go F hD rfl gK (.seq .tup (by decide) (by decide) rfl (cM.str (.seq .tup (by decide) (by decide) rfl (cM.str (.seq .tup (by decide) (by decide) rfl (cM.str (.seq .tup (by decide) (by decide) rfl ?_)))))))
 refine ID (R:=fun p=>BR c w p.val (p.M w) d) (fun j:Addr×Option Val=>[some (.tup [.str "seq",.tup l.vals,.str ""]),some (.ref nl),some (.ref j.1),j.2,none,none,none,none]) (fun l' j m=>MH.Le mh m∧∃Z,m j.1=some (.list (aB Z))∧Ps w.length Z∧∀x,(∃y∈B,(l.M w).1 y x)↔∃z∈Z,(l'.M w).1 z x) (bg,none) rfl hl (fun p l' j m K hp I hK=>?_) ⟨.refl _,B,OZ,hB,fun zz=>.rfl⟩ fun j m I=>?_
 ·obtain ⟨le,Z,hZ,pZ,I⟩:=I
  refine xp.mpr ⟨(F.f 26).ok,hp (Nat.lt_succ_self _) (le _ _ E2) hZ pZ fun b m2 Z2 c8 hb p2 h2=>hK (_,_) _ ⟨le.trans c8,Z2,hb,p2,fun x=>(I x).trans ⟨(by rintro ⟨z,hz,y,h3,h4⟩;exact ⟨y,(h2 y).mpr ⟨z,hz,h3⟩,h4⟩),(by rintro ⟨y,hy,h4⟩;exact (by obtain ⟨z,hz,h3⟩:=(h2 y).mp hy;exact ⟨z,hz,y,h3,h4⟩))⟩⟩⟩
 ·obtain ⟨le,Z,hZ,pZ,I⟩:=I
  exact xq.mpr (h j.1 m Z le hZ pZ fun x=>⟨fun hx=>(I x).mpr ⟨x,hx,rfl⟩,fun hx=>(by obtain ⟨z,hz,e⟩:=(I x).mp hx;exact (show z=x from e)▸hz)⟩)
theorem RW {I:fz→List Val→MH→Prop} {R:Pt→Prop} {turn:Val→List Val→MH→(List Val→MH→Prop)→Prop} {m:MH} {Q:List Val→MH→Prop} {l:fz} {acc:List Val} (hr:l.All R)
 (ht:∀p l acc m (K:List Val→MH→Prop),R p→I (.cons p l) acc m→(∀eY m',I l eY m'→K eY m')→turn p.val acc m K) (hi:I l acc m) (he:∀acc m,I .nil acc m→Q acc m):cw turn (.tup l.vals) acc m Q:=by
 refine ⟨l.vals,none,?_⟩
 suffices ∀l':fz,l'.All R→∀acc m,I l' acc m→i4 (fun m=>Walk m (.tup l.vals) l.vals none) turn l'.vals acc m Q from this l hr acc m hi
 exact (Pt.ind (P:=fun zz=>True) (fun zz zz=>trivial) (fun zz zz zz=>trivial) (fun zz zz zz=>trivial) (fun zz acc m h=>⟨.tup,he acc m h⟩) fun p l' zz ih hr acc m h=>⟨.tup,ht p l' acc m _ hr.1 h (ih hr.2)⟩).2
theorem RX (F:cp c) (hw:w.length≤11) {l:fz} (hl:l.All fun p=>BR c w p.val (p.M w) d) (hn:l.ok.2≤4):BR c w (.tup [.str "choice",.tup l.vals,.str ""]) (l.M w).2 (d+1):=fun {D mh Q nl bg B} hD E2 OZ hB h=>by
 refine (F.f 26).has.go F hD rfl gK (.seq .tup (by decide) (by decide) rfl (cM.str (.seq .tup (by decide) (by decide) rfl (cM.str (.seq .tup (by decide) (by decide) rfl (cM.str (.seq .tup (by decide) (by decide) rfl ?_)))))))
 refine RW (R:=fun p=>BR c w p.val (p.M w) d) (I:=fun l' acc m=>MH.Le mh m∧∃Z:List Nat,acc=aB Z∧Z.length+l'.ok.2 * 12≤48∧∀x,(∃y∈B,(l.M w).2 y x)↔x∈Z∨∃y∈B,(l'.M w).2 y x) hl (fun p l' acc m K hp I hK=>?_) ⟨.refl _,[],rfl,by rw [List.length_nil,Nat.zero_add];exact Nat.mul_le_mul_right 12 hn,fun x=>⟨.inr,fun k=>k.elim (fun k=>nomatch k) id⟩⟩ fun acc m I=>?_
 ·obtain ⟨le,Z,rfl,zl,I⟩:=I
  refine ⟨(F.f 26).ok,hp (Nat.lt_succ_self _) (le _ _ E2) (le _ _ OZ) hB fun b m2 Z2 c8 hb p2 h2=>?_⟩
  have U4:Z2.length≤12:=Nat.le_trans p2.len (Nat.succ_le_succ hw)
  have zl:Z.length+(l'.ok.2+1) * 12≤48:=zl
  rw [Nat.succ_mul,Nat.add_comm _ 12,←Nat.add_assoc] at zl
  have zl2:=Nat.le_trans (Nat.add_le_add_right (Nat.add_le_add_left U4 Z.length) (l'.ok.2 * 12)) zl
  refine SM (g:=aL) (e:=aL) (f:=fun zz=>true) (l:=Z2) (·=m2) rfl (fun zz j=>by subst j;exact .list hb) rfl (by rw [bt];exact Nat.lt_of_le_of_lt (Nat.le_trans (Nat.le_add_right ..) zl2) (by decide)) (fun x zz acc m' K' j ha Iu=>⟨ha,Iu _ j⟩) fun m' j=>?_
  subst j
  rw [List.filter_eq_self.mpr fun zz zz=>rfl]
  refine hK _ _ ⟨le.trans c8,Z++Z2,c9 ..,by rw [List.length_append];exact zl2,fun x=>(I x).trans ⟨?_,?_⟩⟩
  ·rintro (k | ⟨y,hy,k | k⟩)
   ·exact .inl (List.mem_append_left _ k)
   ·exact .inl (List.mem_append_right _ ((h2 x).mpr ⟨y,hy,k⟩))
   ·exact .inr ⟨y,hy,k⟩
  ·rintro (k | ⟨y,hy,k⟩)
   ·exact (List.mem_append.mp k).imp id fun k=>(by obtain ⟨y,hy,k⟩:=(h2 x).mp k;exact ⟨y,hy,.inl k⟩)
   ·exact .inr ⟨y,hy,.inr k⟩
 ·obtain ⟨le,Z,rfl,zl,I⟩:=I
  intro b hb
  have mem:∀Z2:List Nat,(∀x,x∈Z2↔x∈Z)→∀x,x∈Z2↔∃y∈B,(l.M w).2 y x:=fun Z2 h2 x=>(h2 x).trans ((I x).trans ⟨fun k=>k.elim id (by rintro ⟨_,_,k⟩;exact k.elim),.inl⟩).symm
  exact Tc (MH.set_same ..) (Nat.lt_of_le_of_lt (Nat.le_trans (Nat.le_add_right ..) zl) (by decide)) fun Z2 b2 rq nd h2=>h b2 _ Z2 ((le.trans (.set hb)).trans (.set rq)) (MH.set_same ..) (Td (U3.2 l).2 hB nd (mem Z2 h2)) (mem Z2 h2)
end
section
variable {c:Cfg} {w:List Str} {d:Nat}
theorem O6 {m:Str} (h:Mr m=true) (n:m≠""):decide (m="+")= !isOpt m∧decide (m="?")= !dR m:=by
 have h:=List.contains_iff_mem.mp h
 rcases List.mem_cons.mp h with rfl | h
 ·exact absurd rfl n
 rcases List.mem_cons.mp h with rfl | h
 ·exact ⟨rfl,rfl⟩
 rcases List.mem_cons.mp h with rfl | h
 ·exact ⟨rfl,rfl⟩
 rcases List.mem_cons.mp h with rfl | h
 ·exact ⟨rfl,rfl⟩
 ·exact nomatch h
def Ys (R:xF) (mk:Str) (B:List Nat) (n y:Nat):Prop:=(isOpt mk=true∧y∈B)∨∃k,k<n∧∃b∈B,pow R b (k+1) y
structure MI (R:xF) (mk:Str) (w:List Str) (B:List Nat) (m0:MH) (bg fd:Addr) (n:Nat) (m:MH):Prop where
 le:MH.Le m0 m
 z:∃Z,m bg=some (.list (aB Z))∧Ps w.length Z∧∀y,y∈Z↔∃b∈B,pow R b n y
 y:∃Y,m fd=some (.list (aB Y))∧Ps w.length Y∧∀y,y∈Y↔Ys R mk B n y
theorem EN (F:cp c) (hw:w.length≤11) {k mk:Str} {x:Val} {R:xF} (hb:BR c w (.tup [.str k,x,.str ""]) R d) (up:Up w.length R) (hm:Mr mk=true):BR c w (.tup [.str k,x,.str mk]) (ji mk R) (d+1):=fun {D mh Q nl bg B} hD E2 OZ hB h=>by
 by_cases hn:mk=""
 ·subst hn
  exact hb (Nat.lt_of_succ_lt hD) E2 OZ hB fun b m' Z le hz pz h2=>h b m' Z le hz pz fun x=>(h2 x).trans ⟨fun ⟨y,hy,r⟩=>⟨y,hy,.inr r⟩,fun ⟨y,hy,r⟩=>⟨y,hy,r.elim (fun k=>nomatch k.1) id⟩⟩
 obtain ⟨h1,h2⟩:=O6 hm hn
 have U4:∀{Z:List Nat},Ps w.length Z→Z.length<13:=fun p=>Nat.lt_succ_of_le (Nat.le_trans p.len (Nat.succ_le_succ hw))
 have ll:(aw w).length=w.length:=List.length_map ..
 have tail:∀(T:Nat) m1 f0 (Z0:List Nat),T=turns mk w.length→MH.Le mh m1→m1 f0=some (.list (aB Z0))→Ps w.length Z0→(∀y,y∈Z0↔Ys R mk B 0 y)→gm c (d+1) (.tup [.str k,x,.str mk]) (.ref nl) (.ref bg) (.tup [.str k,x,.str ""]) (.ref f0) Q (aL T) m1:=fun T m1 f0 Z0 hT le hf p0 h0=>by
  have Xq:T≤12:=by
   rw [hT];unfold turns
   cases dR mk with
   | true=>exact Nat.succ_le_succ hw
   | false=>exact Nat.le_of_ble_eq_true rfl
  refine .range (Int.natCast_nonneg T) (fU (Nat.lt_of_le_of_lt Xq (by decide))) ?_
  refine jy (g:=aL) (l:=List.range T) (fun j:Addr×Addr×Option Val=>[some (.tup [.str k,x,.str mk]),some (.ref nl),some (.ref j.1),none,none,some (.tup [.str k,x,.str ""]),some (.ref j.2.1),j.2.2]) (fun pre j m=>MI R mk w B m1 j.1 j.2.1 pre.length m) (bg,f0,none) rfl rfl (fun zz zz zz zz=>.xG (Int.natCast_nonneg T) (fU (Nat.lt_of_le_of_lt Xq (by decide)))) (fun pre i d9 j m K e I hK zz=>?_)
   ⟨.refl _,⟨B,le _ _ OZ,hB,fun y=>⟨fun hy=>⟨y,hy,rfl⟩,fun ⟨b,hb,e⟩=>(show b=y from e)▸hb⟩⟩,Z0,hf,p0,h0⟩ fun j m I=>?_
  ·obtain ⟨jx,⟨Z,hZ,pZ,z3⟩,Y,hY,pY,y3⟩:=I
   refine xr.mpr ⟨(F.f 26).ok,hb (Nat.lt_succ_self _) (jx _ _ (le _ _ E2)) hZ pZ fun b m2 Z2 c8 rq p2 w3=>.fY (c8 _ _ hY) rq ?_ fun b3 Mq=>?_⟩
   ·rw [bt,bt];exact Nat.lt_trans (Nat.add_lt_add (U4 pY) (U4 p2)) (by decide)
   refine Tc (l:=Y++Z2) (by rw [MH.set_same,c9]) (by rw [List.length_append];exact Nat.lt_trans (Nat.add_lt_add (U4 pY) (U4 p2)) (by decide)) fun Y2 b4 Yq nd h4=>hK (_,_,_) _ ?_
   rw [List.length_append]
   have kz:=(MH.Le.set (o:=.list (aB Y++aB Z2)) Mq).trans (.set (o:=.list (aB Y2)) Yq)
   exact ⟨(jx.trans c8).trans kz,⟨Z2,kz _ _ rq,p2,fun y=>(w3 y).trans ⟨fun ⟨z,hz,r⟩=>let ⟨b,hb,hp⟩:=(z3 z).mp hz;⟨b,hb,z,hp,r⟩,fun ⟨b,hb,z,hp,r⟩=>⟨z,(z3 z).mpr ⟨b,hb,hp⟩,r⟩⟩⟩,Y2,MH.set_same ..,⟨nd,fun y hy=>(List.mem_append.mp ((h4 y).mp hy)).elim (pY.le y) (p2.le y)⟩,fun y=>by
    rw [h4,List.mem_append,y3,w3]
    refine ⟨?_,?_⟩
    ·rintro ((k | ⟨j,hj,k⟩) | ⟨z,hz,r⟩)
     ·exact .inl k
     ·exact .inr ⟨j,Nat.lt_succ_of_lt hj,k⟩
     ·obtain ⟨b,hb,hp⟩:=(z3 z).mp hz
      exact .inr ⟨_,Nat.lt_succ_self _,b,hb,z,hp,r⟩
    ·rintro (k | ⟨j,hj,b,hb,z,hp,r⟩)
     ·exact .inl (.inl k)
     ·rcases Nat.lt_succ_iff_lt_or_eq.mp hj with hj | rfl
      ·exact .inl (.inr ⟨j,hj,b,hb,z,hp,r⟩)
      ·exact .inr ⟨z,(z3 z).mpr ⟨b,hb,hp⟩,r⟩⟩
  ·obtain ⟨jx,-,Y,hY,pY,y3⟩:=I
   refine xt.mpr (h j.2.1 m Y (le.trans jx) hY pY fun y=>(y3 y).trans ?_)
   rw [List.length_range,hT]
   have T:∀b∈B,_:=fun b hb=>IV (mk:=mk) (e:=y) up (hB.le b hb)
   refine ⟨?_,fun ⟨b,hb,r⟩=>((T b hb).mp r).imp (fun (k:_∧b=y)=>⟨k.1,k.2▸hb⟩) fun ⟨j,hj,hp⟩=>⟨j,hj,b,hb,hp⟩⟩
   rintro (⟨a1,a2⟩ | ⟨j,hj,b,hb,hp⟩)
   ·exact ⟨y,a2,.inl ⟨a1,rfl⟩⟩
   ·exact ⟨b,hb,(T b hb).mpr (.inr ⟨j,hj,hp⟩)⟩
 have BS:∀m1 f0 (Z0:List Nat),MH.Le mh m1→m1 f0=some (.list (aB Z0))→Ps w.length Z0→(∀y,y∈Z0↔Ys R mk B 0 y)→gq c (d+1) (.tup [.str k,x,.str mk]) (.ref nl) (.ref bg) Q (.tup [.str k,x,.str ""]) (.ref f0) m1:=fun m1 f0 Z0 le hf p0 h0=>by
  have tail:=fun T hT=>tail T m1 f0 Z0 hT le hf p0 h0
  unfold turns at tail
  refine .mk (.seq .tup (by decide) (by decide) rfl (cM.str ?_))
  rw [h2]
  revert tail
  cases dR mk with
  | true=>exact fun tail=>xA (le _ _ E2) (by rw [ll];exact Nat.lt_of_le_of_lt hw (by decide)) (.uM (by rw [ll];exact tail (w.length+1) rfl))
  | false=>exact fun tail=>tail 1 rfl
 have Te:∀{y},¬∃k,k<0∧∃b∈B,pow R b (k+1) y:=fun ⟨z1,h,z2⟩=>Nat.not_lt_zero _ h
 refine (F.f 26).has.go F hD rfl gK (.seq .tup (by decide) (by decide) rfl (cM.str (cI (decide_eq_false hn) (.tup (k:=2) (Nat.le_of_ble_eq_true rfl) (Nat.le_of_ble_eq_true rfl) (.VY (fun e=>nomatch e) (fun e=>nomatch e) (Nat.le_of_ble_eq_true rfl) (.seq .tup (by decide) (by decide) rfl (cM.str ?_)))))))
 rw [h1,Bool.not_not]
 unfold Ys at BS
 revert BS
 cases isOpt mk with
 | true=>exact fun BS=>.list (.list OZ) (by rw [bt];exact Nat.lt_trans (U4 hB) (by decide)) fun f0 T8=>BS _ f0 B (.set T8) (MH.set_same ..) hB fun y=>⟨fun h=>.inl ⟨rfl,h⟩,fun h=>h.elim (·.2) fun h=>absurd h Te⟩
 | false=>exact fun BS f0 T8=>BS _ f0 [] (.set T8) (MH.set_same ..) ⟨.nil,fun zz h=>nomatch h⟩ fun y=>⟨fun h=>(nomatch h),fun h=>h.elim (fun h=>nomatch h.1) fun h=>absurd h Te⟩
theorem BR.mono {v:Val} {R:xF} {d':Nat} (h:BR c w v R d) (hd:d≤d'):BR c w v R d':=fun hD=>h (Nat.lt_of_le_of_lt hd hD)
theorem RY (P P':Pt→Prop) (h:∀p,P p→P' p):∀{l:fz},l.All P→l.All P':=fun {l}=>(Pt.ind (P:=fun zz=>True) (R:=fun l=>l.All P→l.All P') (fun zz zz=>trivial) (fun zz zz zz=>trivial) (fun zz zz zz=>trivial) id fun zz zz zz ih k=>⟨h _ k.1,ih k.2⟩).2 l
theorem Pt.bhs (F:cp c) (hw:w.length≤11):(∀p:Pt,p.ok=true→BR c w p.val (p.M w) p.E0)∧∀l:fz,l.ok.1=true→l.All fun p=>BR c w p.val (p.M w) l.E0:=
 Pt.ind (fun s m h=>BR.mono (EN F hw (OY F hw s) EM h) (by decide:1≤4)) (fun l m ih h=>EN F hw (RV F (ih (aC (aC h).2).1)) (U3.2 l).1 (aC h).1) (fun l m ih h=>EN F hw (RX F hw (ih (aC (aC h).2).1) (of_decide_eq_true (aC (aC h).2).2)) (U3.2 l).2 (aC h).1) (fun zz=>trivial) fun p l hp hl h=>
  ⟨BR.mono (hp (aC h).1) (Nat.le_max_left ..),RY (fun p=>BR c w p.val (p.M w) l.E0) (fun q=>BR c w q.val (q.M w) (max p.E0 l.E0)) (fun zz k=>BR.mono k (Nat.le_max_right ..)) (hl (aC h).2)⟩
end
structure qG (sz dp:Nat) (p:Pt):Prop where
 ok:p.ok=true
 sz:p.size≤sz
 dp:p.E0≤dp
inductive L2 (P:Pt→Prop):fz→Prop
 | one {p:Pt} (h:P p):L2 P (.cons p .nil)
 | two {p q:Pt} (h:P p) (k:P q):L2 P (.cons p (.cons q .nil))
def mI:gw→Prop
 | .children p=>qG 4 8 p
 | .mixed l=>l.length≤2
 | _=>True
section
variable {c:Cfg} {D:Nat} {m mh:MH} {Q:VQ} {s:Addr} {sz dp:Nat} {l:fz} {mk:Str}
theorem L2.ok (h:L2 (qG sz dp) l) (h4:4≤dp):l.ok.1=true∧decide (l.ok.2≤4)=true∧l.size≤sz+sz∧l.E0≤dp:=by
 cases h with
 | one h=>exact ⟨by show (p.ok&&true)=true;rw [h.ok];rfl,rfl,by rw [show (fz.cons p .nil).size=p.size from congrArg List.length (List.append_nil _)];exact Nat.le_trans h.sz (Nat.le_add_right ..),Nat.max_le.mpr ⟨h.dp,h4⟩⟩
 | two h k=>exact ⟨by show (p.ok&&(q.ok&&true))=true;rw [h.ok,k.ok];rfl,rfl,by rw [show (fz.cons p (.cons q .nil)).size=p.size+q.size from by show (p.bu++(q.bu++[])).length=_;rw [List.append_nil,List.length_append]];exact Nat.add_le_add h.sz k.sz,Nat.max_le.mpr ⟨h.dp,Nat.max_le.mpr ⟨k.dp,h4⟩⟩⟩
theorem qG.seq (h:L2 (qG sz dp) l) (h4:4≤dp) (hm:Mr mk=true):qG (sz+sz) (dp+2) (.seq l mk):=have ⟨a,b,c,d⟩:=h.ok h4;⟨by show (Mr mk&&(l.ok.1&&decide (l.ok.2≤4)))=true;rw [hm,a,b];rfl,c,Nat.add_le_add_right d 2⟩
theorem qG.alt (h:L2 (qG sz dp) l) (h4:4≤dp) (hm:Mr mk=true):qG (sz+sz) (dp+2) (.alt l mk):=have ⟨a,b,c,d⟩:=h.ok h4;⟨by show (Mr mk&&(l.ok.1&&decide (l.ok.2≤4)))=true;rw [hm,a,b];rfl,c,Nat.add_le_add_right d 2⟩
abbrev PU (s:Addr):MH→MH→Prop:=Fr fun a=>a=s
theorem fq (F:cp c) (hD:1<D) (S:SrcAt mh s) (l:List Str) (hl:0<l.length∧l.length<1000) (h:∀x m',x∈l→SrcAt m' s→PU s mh m'→Q (.str x) m'):aH mh (.list (aw l)) (fun x m=>aq c D "_law_one" [.ref s,x] m Q):=
 OX F hD S (by rw [aw,List.length_map];exact hl.1) (by rw [aw,List.length_map];exact hl.2) fun v m' hv=>(by obtain ⟨x,hx,e⟩:=List.mem_map.mp hv;exact e▸h x m' hx)
theorem zR {P:Pt→Prop} {turn:Val→List Val→MH→(List Val→MH→Prop)→Prop} {Q:List Val→MH→Prop} {k:Nat} (hk:k<2) (S:SrcAt m s) (ht:∀x acc m' (K:List Val→MH→Prop),acc.length<bw→SrcAt m' s→(∀p m2,P p→SrcAt m2 s→PU s m' m2→K (acc++[p.val]) m2)→turn x acc m' K)
 (h:∀(l:fz) m',L2 P l→SrcAt m' s→PU s m m'→Q l.vals m'):cw turn (.xG ((1:Int)+k)) [] m Q:=by
 match k,hk with
 | 0,_=>exact ⟨[.int 0],none,.xG (n:=1) (by decide) (by decide),ht _ _ _ _ (by decide) S fun p m2 hp S2 mG=>⟨.xG (n:=1) (by decide) (by decide),h (.cons p .nil) m2 (.one hp) S2 mG⟩⟩
 | 1,_=>exact ⟨[.int 0,.int 1],none,.xG (n:=2) (by decide) (by decide),ht _ _ _ _ (by decide) S fun p m2 hp S2 mG=>⟨.xG (n:=2) (by decide) (by decide),ht _ _ _ _ (Nat.le_of_ble_eq_true rfl) S2 fun q m3 hq S3 fA=>⟨.xG (n:=2) (by decide) (by decide),h (.cons p (.cons q .nil)) m3 (.two hp hq) S3 (mG.tr fA)⟩⟩⟩
theorem L2.len {P:Pt→Prop} (h:L2 P l):l.vals.length<bw:=by cases h<;>exact Nat.le_of_ble_eq_true rfl
theorem Xr {k:Nat} (hk:k<2) (h:Q (.xG ((1:Int)+k)) m):eX m Q "range" [.int ((1:Int)+k)]:=.range (Int.add_nonneg (by decide) (Int.natCast_nonneg k)) (Int.lt_trans (Int.add_lt_add_left (Int.ofNat_lt.mpr hk) 1) (by decide)) h
theorem BU (F:cp c) (hD:1<D) (S:SrcAt mh s) (hm:Mr mk=true) (h:∀p m',qG 1 4 p→SrcAt m' s→PU s mh m'→Q p.val m'):fL c D (.ref s) Q (.str mk) mh:=
 ⟨(F.f 23).ok,fq F hD S ["a","b","c"] (by decide) fun x m' zz S' fr=>h (.name x mk) m' ⟨hm,Nat.le_refl _,Nat.le_refl _⟩ S' fr⟩
theorem marks (l:List Str) (h:l.all Mr=true):∀x∈l,Mr x=true:=List.all_eq_true.mp h
theorem O7 (F:cp c) (hD:2<D) (S:SrcAt mh s) (h:∀p m',qG 1 4 p→SrcAt m' s→PU s mh m'→Q p.val m'):aq c D "_law_particle" [.ref s,.int 0] mh Q:=
 (F.f 24).has.go F hD rfl oN ⟨(F.f 23).ok,fq F (by decide) S ["","","?","*","+"] (by decide) fun mk m1 hm S1 zZ=>cM.int (BU F (by decide) S1 (marks ["","","?","*","+"] rfl mk hm) fun p m' hp S' fr=>h p m' hp S' (zZ.tr fr))⟩
theorem O8 (F:cp c) (hD:3<D) (S:SrcAt mh s) (h:∀p m',qG 2 6 p→SrcAt m' s→PU s mh m'→Q p.val m'):aq c D "_law_particle" [.ref s,.int 1] mh Q:=by
 refine (F.f 24).has.go F hD rfl oN ⟨(F.f 23).ok,fq F (by decide) S ["","","?","*","+"] (by decide) fun mk m1 hm S1 zZ=>cM.int ⟨(F.f 22).ok,cL F (by decide) S1 (n:=2) (by decide) fun k m2 hk S2 mG=>cM.int ?_⟩⟩
 have hm:=marks ["","","?","*","+"] rfl mk hm
 have mG:=zZ.tr mG
 cases decide ((k:Int)=0) with
 | true=>exact BU F (by decide) S2 hm fun p m' hp S' fr=>h p m' ⟨hp.ok,Nat.le_succ_of_le hp.sz,Nat.le_trans hp.dp (by decide)⟩ S' (mG.tr fr)
 | false=>
   refine ⟨(F.f 22).ok,cL F (by decide) S2 (n:=2) (by decide) fun k3 m3 Xs S3 fA=>.uM (Xr Xs (zR (P:=qG 1 4) Xs S3 (fun x acc m4 K ha S4 hK=>⟨(F.f 24).ok,.sub (O7 F (by decide) S4 fun p m5 hp S5 RZ=>⟨ha,hK p m5 hp S5 RZ⟩)⟩) fun l m4 hl S4 SV b hb=>?_))⟩
   refine .tuple (.list (MH.set_same ..)) hl.len ⟨(F.f 23).ok,fq F (by decide) (S4.le (.set hb)) ["seq","choice"] (by decide) fun x m6 hx S6 VJ=>?_⟩
   have Xt:=((mG.tr fA).tr SV).tr ((Fr.of_le (.set hb)).tr VJ)
   rcases List.mem_cons.mp hx with rfl | hx
   ·exact h (.seq l mk) m6 (.seq hl (by decide) hm) S6 Xt
   ·obtain rfl:=List.mem_singleton.mp hx;exact h (.alt l mk) m6 (.alt hl (by decide) hm) S6 Xt
theorem jC (F:cp c) (hD:4<D) (S:SrcAt mh s) (h:∀md m',mI md→SrcAt m' s→PU s mh m'→Q md.val m'):aq c D "_law_model" [.ref s] mh Q:=by
 refine (F.f 25).has.go F hD rfl Gh ⟨(F.f 22).ok,cL F (by decide) S (n:=5) (by decide) fun k m1 hk S1 zZ=>.mk ?_⟩
 by_cases h3:k<3
 ·refine dj (decide_eq_true (Int.ofNat_lt.mpr h3)) ⟨(F.f 23).ok,OX F (by decide) S1 (by decide) (by decide) fun v m2 hv S2 mG=>?_⟩
  obtain ⟨l,hl,rfl⟩:∃l:List Str,l.length≤2∧ .tup (aw l)=v:=by
   rcases List.mem_cons.mp hv with rfl | hv
   ·exact ⟨[],by decide,rfl⟩
   rcases List.mem_cons.mp hv with rfl | hv
   ·exact ⟨["b"],by decide,rfl⟩
   obtain rfl:=List.mem_singleton.mp hv;exact ⟨["b","c"],by decide,rfl⟩
  intro b hb
  have S3:=S2.le (MH.Le.set (o:=.list [gw.any.val,gw.empty.val,(gw.mixed l).val]) hb)
  have fA:PU s mh _:=(zZ.tr mG).tr (.of_le (MH.Le.set (o:=.list [gw.any.val,gw.empty.val,(gw.mixed l).val]) hb))
  have go:∀md:gw,mI md→[gw.any.val,gw.empty.val,(gw.mixed l).val][k]? =some md.val→ay (mh:=m2.set b (.list [gw.any.val,gw.empty.val,(gw.mixed l).val])) Q (.ref b) (.int k):=fun md hm e=>pL (MH.set_same ..) (Nat.lt_trans h3 (by decide)) e (h md _ hm S3 fA)
  match k,h3 with
  | 0,_=>exact go .any trivial rfl
  | 1,_=>exact go .empty trivial rfl
  | 2,_=>exact go (.mixed l) hl rfl
 ·refine cI (decide_eq_false fun e=>h3 (Int.ofNat_lt.mp e)) ⟨(F.f 22).ok,cL F (by decide) S1 (n:=2) (by decide) fun k3 m3 Xs S3 fA=>.uM (Xr Xs (zR (P:=qG 2 6) Xs S3 (fun x acc m4 K ha S4 hK=>⟨(F.f 24).ok,O8 F (by decide) S4 fun p m5 hp S5 RZ=>⟨ha,hK p m5 hp S5 RZ⟩⟩) fun l m4 hl S4 SV b hb=>?_))⟩
  refine .tuple (.list (MH.set_same ..)) hl.len ⟨(F.f 23).ok,fq F (by decide) (S4.le (.set hb)) ["seq","choice"] (by decide) fun x m6 hx S6 VJ=>⟨(F.f 23).ok,fq F (by decide) S6 ["","*","+"] (by decide) fun mk m7 hm S7 Xu=>?_⟩⟩
  have Xt:=((zZ.tr fA).tr SV).tr (((Fr.of_le (.set hb)).tr VJ).tr Xu)
  have hm:=marks ["","*","+"] rfl mk hm
  rcases List.mem_cons.mp hx with rfl | hx
  ·exact h (.children (.seq l mk)) m7 (qG.seq hl (by decide) hm) S7 Xt
  ·obtain rfl:=List.mem_singleton.mp hx;exact h (.children (.alt l mk)) m7 (qG.alt hl (by decide) hm) S7 Xt
noncomputable def wm (mo:Str):List cq:=[⟨"a","i","ID",[],mo,.none⟩,⟨"a","r","IDREFS",[],"implied",.none⟩,⟨"b","k","enumeration",["u","v"],"default",.str "u"⟩,⟨"b","n","NMTOKEN",[],"implied",.none⟩,
 ⟨"b","f","CDATA",[],"fixed",.str "u v"⟩,⟨"a","w","CDATA",[],"required",.none⟩]
noncomputable def zS:List cq:=[⟨"b","i","ID",[],"implied",.none⟩,⟨"b","r","IDREF",[],"implied",.none⟩]
noncomputable def EO (mo:Str) (k:Nat):List cq:=(wm mo).drop k++zS
def EP (R:List cq):Prop:=∃mo k,mo∈(["implied","required"]:List Str)∧k<3∧R=EO mo k
theorem du {o:MO} (h:∀a m,mh a=none→MH.Le mh m→m a=some o→Q (.ref a) m):aH mh o Q:=fun a ha=>h a _ ha (.set ha) (MH.set_same ..)
theorem A4 (F:cp c) (hD:2<D) (S:SrcAt mh s) (h:∀R b m',EP R→m' b=some (.list (R.map cT))→mh b=none→SrcAt m' s→PU s mh m'→Q (.ref b) m'):aq c D "_law_rules" [.ref s] mh Q:=by
 refine (F.f 27).has.go F hD rfl Gi ⟨(F.f 23).ok,fq F (by decide) S ["implied","required"] (by decide) fun mo m1 hmo S1 zZ=>?_⟩
 refine du fun b1 m2 zz l2 h2=>du fun b2 m3 zz l3 h3=>.fY (l3 _ _ h2) h3 (Nat.le_of_ble_eq_true rfl) (du fun b3 m4 zz l4 h4=>du fun b4 m5 zz l5 h5=>.fY (l5 _ _ h4) h5 (Nat.le_of_ble_eq_true rfl) (du fun b5 m6 hb5 l6 h6=>?_))
 have le:=l2.trans (l3.trans (l4.trans (l5.trans l6)))
 refine ⟨(F.f 22).ok,cL F (by decide) (S1.le le) (n:=3) (by decide) fun k m7 hk S7 Xu=>?_⟩
 have hb5s:b5≠s:=fun e=>by
  obtain ⟨_,_,_,_,z⟩:=S1
  rw [←e] at z;exact bQ (((l2.trans (l3.trans (l4.trans l5))) _ _ z)) hb5
 have h7:m7 b5=some (.list ((wm mo).map cT)):=Xu.keep hb5s h6
 refine .from h7 (Int.natCast_nonneg k) (fU (Nat.lt_trans hk (by decide))) (Nat.le_of_ble_eq_true rfl) (du fun b8 m8 hb8 l8 h8=>du fun b9 m9 zz l9 h9=>.fY (l9 _ _ h8) h9 ?_ (du fun FT m10 hb10 l10 h10=>?_))
 ·rw [List.length_drop];exact Nat.lt_of_le_of_lt (Nat.add_le_add_right (Nat.sub_le ..) 2) (Nat.le_of_ble_eq_true rfl:(6:Nat)+2<bw)
 ·exact h (EO mo k) FT m10 ⟨mo,k,hmo,hk,rfl⟩ (by rw [h10,EO,List.map_append,List.map_drop];rfl) (zZ.sQ (le.none (Xu.sQ (l8.none (l9.none hb10))))) (((S7.le l8).le l9).le l10) (((zZ.tr (.of_le le)).tr Xu).tr (.of_le ((l8.trans l9).trans l10)))
end
noncomputable def IW:List Str:=["i","r","k","n","f","w","z"]
noncomputable def A6:List Str:=["u","v"," u","u  v","","7","u v","x"]
noncomputable def R0:List Str:=["x"," \n",""]
noncomputable def core (r:aG):aG:=⟨r.kind,r.name,r.uri,r.loc,r.value,r.parent,[],[]⟩
structure Tf (r:aG):Prop where
 nm:r.name.length<10
 tx:r.kind="text"→r.value∈R0
 at':r.kind="attribute"→r.loc=r.name∧r.value∈A6
structure eK (rows:List aG):Prop where
 lt:∀{b i k},k∈(ag rows i).get b→i<k∧k<rows.length
 un:∀{b i b' j k},k∈(ag rows i).get b→k∈(ag rows j).get b'→b=b'∧i=j
 nd:∀b i,((ag rows i).get b).Nodup
 Xv:∀{i k},k∈(ag rows i).children→k<11
 leaf:∀i,0<i→(ag rows i).kind≠"element"→(ag rows i).children=[]
 ka:∀{i k},k∈(ag rows i).attrs→(ag rows k).kind="attribute"
 an:∀{i k k'},k∈(ag rows i).attrs→k'∈(ag rows i).attrs→(ag rows k).name=(ag rows k').name→k=k'
 al:∀i,(ag rows i).attrs.length≤7
 ok:∀i,Tf (ag rows i)
structure pS (rows:List aG):Prop extends eK rows where
 n3:2<rows.length
 n9:rows.length<900
 k0:(ag rows 0).kind="root"
 c0:(ag rows 0).children=[1,2]
 k1:(ag rows 1).kind="comment"
 k2:(ag rows 2).kind="element"
section
variable {rows rows':List aG} {b:Bool} {p i k:Nat} {r r':aG}
theorem BW (h:core r'=core r):r'.kind=r.kind:=show (core r').kind=(core r).kind from congrArg aG.kind h
theorem O9 (h:core r'=core r):r'.name=r.name:=show (core r').name=(core r).name from congrArg aG.name h
theorem Tf.core (h:core r'=core r) (o:Tf r):Tf r':=
 have e1:=O9 h
 have e2:=BW h
 have e3:r'.value=r.value:=show (Mine.core r').value=(Mine.core r).value from congrArg aG.value h
 have e4:r'.loc=r.loc:=show (Mine.core r').loc=(Mine.core r).loc from congrArg aG.loc h
 ⟨e1▸o.nm,fun q=>e3▸o.tx (e2▸q),fun q=>by rw [e1,e3,e4];exact o.at' (e2▸q)⟩
theorem xD.core (G:xD rows rows' b p r) (h:i≠rows.length):core (ag rows' i)=core (ag rows i):=by
 by_cases e:i=p
 ·rw [e,G.par];cases b<;>rfl
 ·rw [G.old h e]
theorem xD.list (G:xD rows rows' b p r) (hr:∀b,r.get b=[]) (b':Bool) (i:Nat):(ag rows' i).get b'=(ag rows i).get b'∨(b'=b∧i=p∧(ag rows' i).get b'=(ag rows i).get b'++[rows.length]):=by
 by_cases e:i=rows.length
 ·rw [e,G.new,uC (Nat.le_refl _),hr];exact .inl (by cases b'<;>rfl)
 by_cases q:i=p
 ·by_cases z:b'=b
  ·rw [q,z,G.par,add_get];exact .inr ⟨rfl,rfl,rfl⟩
  ·rw [q,G.par,zN z];exact .inl rfl
 ·rw [G.old e q];exact .inl rfl
theorem xD.mem (G:xD rows rows' b p r) (hr:∀b,r.get b=[]) {b':Bool} (h:k∈(ag rows' i).get b'):k∈(ag rows i).get b'∨(b'=b∧i=p∧k=rows.length):=(G.list hr b' i).elim (fun e=>.inl (e▸h)) fun ⟨e1,e2,e⟩=>by
 rw [e] at h;exact (List.mem_append.mp h).imp id fun h=>⟨e1,e2,List.mem_singleton.mp h⟩
theorem eK.grow (W:eK rows) (G:xD rows rows' b p r) (hr:∀b,r.get b=[]) (U5:Tf r) (hp:p<rows.length) (hc:b=true→rows.length<11∧(p=0∨(ag rows p).kind="element")) (ha:b=false→r.kind="attribute"∧(∀k∈(ag rows p).attrs,(ag rows k).name≠r.name)∧(ag rows p).attrs.length<7):eK rows':=by
 have kd:∀{i},i≠rows.length→(ag rows' i).kind=(ag rows i).kind:=fun h=>BW (G.core h)
 have nm:∀{i},i≠rows.length→(ag rows' i).name=(ag rows i).name:=fun h=>O9 (G.core h)
 have no:∀{b i k},k∈(ag rows i).get b→k≠rows.length:=fun h=>Nat.ne_of_lt (W.lt h).2
 refine ⟨fun {b' i k} h=>?_,fun {b1 i b2 j k} h h'=>?_,fun b' i=>?_,fun {i k} h=>?_,fun i h0 hk=>?_,fun {i k} h=>?_,fun {i k k'} h h' e=>?_,fun i=>?_,fun i=>?_⟩
 ·rw [G.len]
  rcases G.mem hr h with h | ⟨-,rfl,rfl⟩
  ·exact ⟨(W.lt h).1,Nat.lt_succ_of_lt (W.lt h).2⟩
  ·exact ⟨hp,Nat.lt_succ_self _⟩
 ·rcases G.mem hr h with h | ⟨e1,e2,e⟩<;>rcases G.mem hr h' with h' | ⟨e1',e2',e'⟩
  ·exact W.un h h'
  ·exact absurd e' (no h)
  ·exact absurd e (no h')
  ·exact ⟨e1.trans e1'.symm,e2.trans e2'.symm⟩
 ·rcases G.list hr b' i with e | ⟨-,-,e⟩
  ·rw [e];exact W.nd b' i
  ·rw [e];exact List.nodup_append.mpr ⟨W.nd b' i,List.pairwise_singleton _ _,fun x hx y hy e=>no hx (e.trans (List.mem_singleton.mp hy))⟩
 ·rcases G.mem (b':=true) hr h with h | ⟨e1,-,e⟩
  ·exact W.Xv h
  ·rw [e];exact (hc e1.symm).1
 ·rcases G.list hr true i with e | ⟨e1,e2,-⟩
  ·refine (show (ag rows' i).children=(ag rows i).children from e).trans ?_
   by_cases q:i=rows.length
   ·rw [q,uC (Nat.le_refl _)];rfl
   ·exact W.leaf i h0 (kd q▸hk)
  ·exact absurd ((hc e1.symm).2.elim (fun q=>absurd (e2.trans q) (Nat.ne_of_gt h0)) fun q=>(kd (e2▸Nat.ne_of_lt hp)).trans (e2▸q)) hk
 ·rcases G.mem (b':=false) hr h with h | ⟨e1,-,e⟩
  ·exact (kd (no (b:=false) h)).trans (W.ka h)
  ·rw [e,G.new];exact (ha e1.symm).1
 ·rcases G.mem (b':=false) hr h with h | ⟨e1,e2,q⟩<;>rcases G.mem (b':=false) hr h' with h' | ⟨e1',e2',q'⟩
  ·rw [nm (no (b:=false) h),nm (no (b:=false) h')] at e;exact W.an h h' e
  ·rw [nm (no (b:=false) h),q',G.new] at e;exact absurd e ((ha e1'.symm).2.1 k (e2'▸h))
  ·rw [nm (no (b:=false) h'),q,G.new] at e;exact absurd e.symm ((ha e1.symm).2.1 k' (e2▸h'))
  ·exact q.trans q'.symm
 ·rcases G.list hr false i with e | ⟨e1,e2,e⟩
  ·exact (congrArg List.length (show (ag rows' i).attrs=(ag rows i).attrs from e)).symm▸W.al i
  ·rw [show (ag rows' i).attrs=(ag rows i).attrs++[rows.length] from e,List.length_append,e2];exact (ha e1.symm).2.2
 ·by_cases q:i=rows.length
  ·rw [q,G.new];exact U5
  ·exact (W.ok i).core (G.core q)
theorem pS.grow (W:pS rows) (G:xD rows rows' b p r) (hr:∀b,r.get b=[]) (U5:Tf r) (hp:p<rows.length) (h0:p≠0) (hl:rows.length<800) (hc:b=true→rows.length<11∧(p=0∨(ag rows p).kind="element")) (ha:b=false→r.kind="attribute"∧(∀k∈(ag rows p).attrs,(ag rows k).name≠r.name)∧(ag rows p).attrs.length<7):pS rows' where
 toeK:=W.toeK.grow G hr U5 hp hc ha
 n3:=by rw [G.len];exact Nat.lt_succ_of_lt W.n3
 n9:=by rw [G.len];exact Nat.lt_trans (Nat.succ_lt_succ hl) (by decide)
 k0:=(BW (G.core (Nat.ne_of_lt (Nat.lt_trans (by decide) W.n3)))).trans W.k0
 c0:=(G.list hr true 0).elim (fun e=>(show (ag rows' 0).children=(ag rows 0).children from e).trans W.c0) fun e=>absurd e.2.1.symm h0
 k1:=(BW (G.core (Nat.ne_of_lt (Nat.lt_trans (by decide) W.n3)))).trans W.k1
 k2:=(BW (G.core (Nat.ne_of_lt W.n3))).trans W.k2
theorem gg {k n u l v:Str} {p:Val} (b:Bool):(iX k n u l v p).get b=[]:=by cases b<;>rfl
theorem eW {b:Bool}:(ag uD i).get b=[]:=by
 cases i with
 | zero=>cases b<;>rfl
 | succ i=>cases b<;>rfl
theorem JR:eK uD where
 lt:=fun h=>by rw [eW] at h;cases h
 un:=fun h=>by rw [eW] at h;cases h
 nd:=fun b i=>by rw [eW];exact .nil
 Xv:=fun {i k} h=>by rw [show (ag uD i).children=[] from eW (b:=true)] at h;cases h
 leaf:=fun i zz zz=>eW (b:=true)
 ka:=fun {i k} h=>by rw [show (ag uD i).attrs=[] from eW (b:=false)] at h;cases h
 an:=fun {i k k'} h=>by rw [show (ag uD i).attrs=[] from eW (b:=false)] at h;cases h
 al:=fun i=>by rw [show (ag uD i).attrs=[] from eW (b:=false)];exact Nat.zero_le _
 ok:=fun i=>by
  cases i with
  | zero=>exact ⟨by decide,fun h=>absurd h (by decide),fun h=>absurd h (by decide)⟩
  | succ i=>exact ⟨(by decide:Om.name.length<10),fun h=>absurd h (by decide:Om.kind≠"text"),fun h=>absurd h (by decide:Om.kind≠"attribute")⟩
noncomputable def Tg:List aG:=kr uD true 0 (iX "comment" "" "" "" "k" (aL 0))
noncomputable def G4:List aG:=kr Tg true 0 (iX "element" "a" "" "a" "" (aL 0))
theorem zT {k n u l v:Str} {p:Val} (hn:n.length<10) (h1:k≠"text") (h2:k≠"attribute"):Tf (iX k n u l v p):=⟨hn,fun h=>absurd h h1,fun h=>absurd h h2⟩
theorem R1:eK Tg:=JR.grow (b:=true) (wd (by decide)) gg (zT (by decide) (by decide) (by decide)) (by decide) (fun zz=>⟨by decide,.inl rfl⟩) fun h=>nomatch h
theorem R2:pS G4 where
 toeK:=R1.grow (rows':=G4) (b:=true) (wd (by decide)) gg (zT (by decide) (by decide) (by decide)) (by decide) (fun zz=>⟨by decide,.inl rfl⟩) fun h=>nomatch h
 n3:=by decide
 n9:=by decide
 k0:=rfl
 c0:=rfl
 k1:=rfl
 k2:=rfl
def VK (rows:List aG) (l:List Nat):Prop:=∀i,i∉l→(ag rows i).attrs=[]
def VL (rows:List aG) (dM:List Nat):Prop:=∀e∈dM,e<rows.length∧(ag rows e).kind="element"
structure Xw (rows:List aG) (dM:List Nat):Prop where
 pos:0<dM.length
 le:dM.length≤7
 nd:dM.Nodup
 el:VL rows dM
theorem VL.grow {dM:List Nat} (E:VL rows dM) (G:xD rows rows' b p r):VL rows' dM:=fun e he=>⟨by rw [G.len];exact Nat.lt_succ_of_lt (E e he).1,(BW (G.core (Nat.ne_of_lt (E e he).1))).trans (E e he).2⟩
theorem VK.grow {l:List Nat} (A:VK rows l) (G:xD rows rows' b p r) (hr:∀b,r.get b=[]) (h:b=false→p∈l):VK rows' l:=fun i hi=>(G.list hr false i).elim (fun e=>(show (ag rows' i).attrs=(ag rows i).attrs from e).trans (A i hi)) (by rintro ⟨e1,e2,_⟩;exact absurd (h e1.symm) (e2▸hi))
structure D1 (rows:List aG) (dM:List Nat) (n:Nat):Prop where
 W:pS rows
 A:VK rows []
 E:Xw rows dM
 n:rows.length=3+n
theorem D1.ne0 {dM:List Nat} {n:Nat} (I:D1 rows dM n) (h:p∈dM):p≠0:=fun e=>by
 have:=(I.E.el p h).2
 rw [e,I.W.k0] at this;exact absurd this (by decide)
theorem D1.child {dM:List Nat} {n:Nat} {kd nm u l v:Str} {pv:Val} (I:D1 rows dM n) (hn:n<8) (hp:p∈dM) (U5:Tf (iX kd nm u l v pv)) (zU:List Nat) (h:zU=dM∨(zU=dM++[rows.length]∧kd="element"∧dM.length<7)):D1 (kr rows true p (iX kd nm u l v pv)) zU (n+1):=by
 have hl:rows.length<11:=by rw [I.n];exact Nat.add_lt_add_left hn 3
 have JN:=I.E.el p hp
 have G:=wd (b:=true) (r:=iX kd nm u l v pv) JN.1
 have E:=I.E.el.grow G
 refine ⟨I.W.grow G gg U5 JN.1 (I.ne0 hp) (Nat.lt_trans hl (by decide)) (fun zz=>⟨hl,.inr JN.2⟩) fun h=>(nomatch h),I.A.grow G gg fun h=>(nomatch h),?_,by rw [G.len,I.n];rfl⟩
 rcases h with rfl | ⟨rfl,hk,h7⟩
 ·exact ⟨I.E.pos,I.E.le,I.E.nd,E⟩
 ·refine ⟨by rw [List.length_append];exact Nat.succ_pos _,by rw [List.length_append];exact h7,List.nodup_append.mpr ⟨I.E.nd,List.pairwise_singleton _ _,fun x hx y hy e=>?_⟩,fun e he=>?_⟩
  ·rw [List.mem_singleton.mp hy] at e;exact absurd e (Nat.ne_of_lt (I.E.el x hx).1)
  ·rcases List.mem_append.mp he with he | he
   ·exact E e he
   ·rw [List.mem_singleton.mp he,G.len,G.new];exact ⟨Nat.lt_succ_self _,hk⟩
theorem R3:D1 G4 [2] 0:=⟨R2,fun i zz=>by
 match i with
 | 0=>rfl
 | 1=>rfl
 | 2=>rfl
 | i+3=>rfl,⟨by decide,by decide,List.pairwise_singleton _ _,fun e he=>by rw [List.mem_singleton.mp he];exact ⟨by decide,rfl⟩⟩,rfl⟩
structure D3 (rows:List aG) (dM pre:List Nat) (e:Nat) (pr:List Str):Prop where
 W:pS rows
 A:VK rows (pre++[e])
 E:VL rows dM
 n:rows.length≤11+7 * pre.length+pr.length
 l:(ag rows e).attrs.length≤pr.length
 m:∀k∈(ag rows e).attrs,(ag rows k).name∈pr
theorem D3.V6 {dM pre:List Nat} {e:Nat} {pr:List Str} {x:Str} (I:D3 rows dM pre e pr) (hx:x∉pr):∀k∈(ag rows e).attrs,k<rows.length∧(ag rows k).loc≠x:=fun k hk=>⟨(I.W.lt (b:=false) hk).2,fun q=>hx (by rw [←q,((I.W.ok k).at' (I.W.ka hk)).1];exact I.m k hk)⟩
theorem D3.skip {dM pre:List Nat} {e:Nat} {pr:List Str} (I:D3 rows dM pre e pr) (x:Str):D3 rows dM pre e (pr++[x]):=⟨I.W,I.A,I.E,by rw [List.length_append];exact Nat.le_succ_of_le I.n,by rw [List.length_append];exact Nat.le_succ_of_le I.l,fun k hk=>List.mem_append_left _ (I.m k hk)⟩
theorem D3.push {dM pre:List Nat} {e:Nat} {pr:List Str} {x v:Str} {pv:Val} (I:D3 rows dM pre e pr) (he:e∈dM) (h7:pr.length<7) (RA:pre.length<7) (hx:x∉pr) (UR:x.length<10) (hv:v∈A6):D3 (kr rows false e (iX "attribute" x "" x v pv)) dM pre e (pr++[x]):=by
 have hp:=I.E e he
 have G:=wd (b:=false) (r:=iX "attribute" x "" x v pv) hp.1
 have ne0:e≠0:=fun q=>by have:=hp.2;rw [q,I.W.k0] at this;exact absurd this (by decide)
 have hl:rows.length<800:=Nat.lt_of_le_of_lt I.n (Nat.lt_of_lt_of_le (Nat.add_lt_add_left h7 _) (Nat.le_trans (Nat.add_le_add_right (Nat.add_le_add_left (Nat.mul_le_mul_left 7 (Nat.le_of_lt RA)) 11) 7) (by decide)))
 refine ⟨I.W.grow G gg ⟨UR,fun h=>absurd h (by decide:("attribute":Str)≠"text"),fun zz=>⟨rfl,hv⟩⟩ hp.1 ne0 hl (fun h=>(nomatch h)) fun zz=>⟨rfl,fun k hk (q:_=x)=>hx (q▸I.m k hk),Nat.lt_of_le_of_lt I.l h7⟩,I.A.grow G gg fun zz=>List.mem_append_right _ (List.mem_singleton.mpr rfl),I.E.grow G,?_,?_,fun k hk=>?_⟩
 ·rw [G.len,List.length_append];exact Nat.succ_le_succ I.n
 ·rw [show (ag (kr rows false e (iX "attribute" x "" x v pv)) e).attrs=(ag rows e).attrs++[rows.length] from congrArg aG.attrs G.par,List.length_append,List.length_append]
  exact Nat.succ_le_succ I.l
 ·rcases G.mem (b':=false) gg hk with hk | ⟨-,-,rfl⟩
  ·rw [O9 (G.core (Nat.ne_of_lt (I.W.lt (b:=false) hk).2))]
   exact List.mem_append_left _ (I.m k hk)
  ·rw [G.new];exact List.mem_append_right _ (List.mem_singleton.mpr rfl)
end
structure DI (mh:MH) (s t el:Addr) (O0 O:Addr→Prop) (rows:List aG) (dM:List Nat) (m:MH):Prop where
 B:d8 m t O rows
 S:SrcAt m s
 so:¬O s
 eo:¬O el
 es:el≠s
 he:m el=some (.list (aB dM))
 fr:Fr (fun a=>a=s∨O0 a) mh m
 sub:∀{a},O a→(a=s∨O0 a)∨mh a=none
 e0:mh el=none
section
variable {c:Cfg} {D d:Nat} {m m' mh:MH} {Q:VQ} {s t el nl:Addr} {O0 O O':Addr→Prop} {rows rows':List aG} {dM zU pre:List Nat} {e n:Nat}
theorem DI.take (I:DI mh s t el O0 O rows dM m) (S:SrcAt m' s) (fr:PU s m m'):DI mh s t el O0 O rows dM m':=
 ⟨I.B.keep fun {a o} ha=>fr.keep fun (q:a=s)=>I.so (q▸ha),S,I.so,I.eo,I.es,fr.keep I.es I.he,I.fr.trans fr fun zz q=>.inl (.inl q),I.sub,I.e0⟩
theorem DI.post (I:DI mh s t el O0 O rows dM m) (P:qX m m' t O O' rows'):DI mh s t el O0 O' rows' dM m':=
 have e:=P.out I.eo I.he
 have so:¬O' s:=fun k=>(P.sub k).elim I.so fun z=>by obtain ⟨_,_,_,_,h⟩:=I.S;exact bQ h z
 ⟨P.B,I.S.keep P.fr I.so,so,e.1,I.es,e.2,I.fr.trans P.fr fun zz=>I.sub,fun k=>(P.sub k).elim I.sub fun z=>.inr (I.fr.sQ z),I.e0⟩
theorem DI.le (I:DI mh s t el O0 O rows dM m) (h:MH.Le m m'):DI mh s t el O0 O rows dM m':=⟨I.B.keep fun zz=>h _ _,I.S.le h,I.so,I.eo,I.es,h _ _ I.he,I.fr.trans (.of_le (S:=fun zz=>False) h) fun zz k=>k.elim,I.sub,I.e0⟩
theorem DI.Xx (I:DI mh s t el O0 O rows dM m):DI mh s t el O0 O rows zU (m.set el (.list (aB zU))):=
 ⟨I.B.set I.eo,I.S.keep (O:=fun a=>a=el) (Fr.refl.set (.inl rfl)) fun q=>I.es q.symm,I.so,I.eo,I.es,MH.set_same ..,I.fr.set (.inr I.e0),I.sub,I.e0⟩
theorem DI.tm (I:DI mh s t el O0 O rows dM m):∃L,m t=some (.inst "Tree" [("rows",.ref L)]):=⟨_,I.B.I.choose_spec.choose_spec.choose_spec.choose_spec.me⟩
theorem U6 (F:cp c) (hd:4<d) (I:DI mh s t el O0 O rows dM m) (J:D1 rows dM n) (hn:n<8) {v10 v11:Val} {gL dD:Option Val} {dh:Val} {K:aE}
 (hK:∀m' O' rows' zU y z w,DI mh s t el O0 O' rows' zU m'→D1 rows' zU (n+1)→K none [some (.ref s),some (.ref t),some v10,some v11,some (.ref el),some dh,y,z,w,dD] m'):
 i9 c d (.ref s) (.ref el) (.ref t) v10 v11 dD gL dh m K:=by
 have Xy:(aB dM).length=dM.length:=bt _
 refine ⟨(F.f 23).ok,wO F (Nat.lt_trans (by decide) hd) I.S I.he I.es (Xy▸J.E.pos) (by rw [Xy];exact Nat.lt_of_le_of_lt J.E.le (by decide)) fun v m1 hv S1 zZ=>?_⟩
 obtain ⟨p,hp,rfl⟩:=List.mem_map.mp hv
 have JN:=J.E.el p hp
 have U7:G1 (ag rows p).kind=true:=by rw [JN.2];decide
 have hl:rows.length<900:=J.W.n9
 refine ⟨(F.f 22).ok,cL F (Nat.lt_trans (by decide) hd) S1 (n:=5) (by decide) fun k m2 hk S2 mG=>.mk (.mk ?_)⟩
 have I:=I.take S2 (zZ.tr mG)
 obtain ⟨L,mt⟩:=I.tm
 have other:ff c d (.int k) (.ref s) (.ref t) (aL p) K v10 v11 (.ref el) dh gL dD m2:=by
  refine cM.int ?_
  cases decide ((k:Int)=3) with
  | true=>
    refine .inst mt rfl (F.m 33).ok ⟨(F.f 23).ok,fq F (Nat.lt_trans (by decide) hd) I.S R0 (by decide) fun x m3 hx S3 fA=>?_⟩
    have I:=I.take S3 fA
    exact IM F hd I.B hl JN.1 U7 fun m4 O4 P=>hK m4 O4 _ dM _ _ _ (I.post P) (J.child hn hp ⟨Nat.le_of_ble_eq_true rfl,fun zz=>hx,fun h=>absurd h (by decide:("text":Str)≠"attribute")⟩ dM (.inl rfl))
  | false=>exact bc mt rfl (F.m 34).ok (qY F hd I.B hl JN.1 U7 fun m4 O4 P=>hK m4 O4 _ dM _ _ _ (I.post P) (J.child hn hp (zT (by decide) (by decide) (by decide)) dM (.inl rfl)))
 cases decide ((k:Int)<3) with
 | false=>exact other
 | true=>
   refine xA I.he (by rw [Xy];exact Nat.lt_of_le_of_lt J.E.le (by decide)) (.mk ?_)
   rw [Xy]
   by_cases h7:dM.length<7
   ·refine dj (decide_eq_true (Int.ofNat_lt.mpr h7)) ⟨(F.f 23).ok,fq F (Nat.lt_trans (by decide) hd) I.S ["a","b","b","c"] (by decide) fun x m3 hx S3 fA=>?_⟩
    have I:=I.take S3 fA
    obtain ⟨L,mt⟩:=I.tm
    have UR:x.length<10:=of_decide_eq_true (List.all_eq_true.mp (by decide:(["a","b","b","c"]:List Str).all (fun x=>decide (x.length<10))=true) x hx)
    refine .list I.he rfl (bc mt rfl (F.m 32).ok (jA F hd I.B hl JN.1 U7 fun m4 O4 P=>?_))
    have I:=I.post P
    have e:aB dM++[aL rows.length]=aB (dM++[rows.length]):=c9 dM [rows.length]
    exact .append I.he (by rw [Xy];exact Nat.lt_trans h7 (by decide)) (e▸hK _ O4 _ (dM++[rows.length]) _ _ _ I.Xx (J.child hn hp (zT UR (by decide) (by decide)) _ (.inr ⟨rfl,rfl,h7⟩)))
   ·exact cI (decide_eq_false fun q=>h7 (Int.ofNat_lt.mp q)) other
theorem U8 (F:cp c) (hd:4<d) (I:DI mh s t el O0 O rows dM m) (hn:m nl=some (.list (aw IW))) (no:¬O nl) (ns:nl≠s) {pr d9:List Str} {x:Str} (e1:IW=pr++x::d9) (J:D3 rows dM pre e pr) (he:e∈dM) (RA:pre.length<7) {sM rH sN:Val} {Hm EZ zi:Option Val} {K:aE}
 (hK:∀m' O' rows',DI mh s t el O0 O' rows' dM m'→m' nl=some (.list (aw IW))→¬O' nl→D3 rows' dM pre e (pr++[x])→K none [some (.ref s),some (.ref t),some sM,some rH,some sN,Hm,EZ,zi,some (.str x),some (aL e)] m'):
 ja c d (.ref s) (.ref t) (aL e) sM rH sN Hm EZ zi (.str x) m K:=by
 have nd:IW.Nodup:=by decide
 rw [e1] at nd
 have hx:x∉pr:=fun h=>(List.nodup_append.mp nd).2.2 x h x (List.mem_cons_self ..) rfl
 have UR:x.length<10:=of_decide_eq_true (List.all_eq_true.mp (by decide:IW.all (fun x=>decide (x.length<10))=true) x (qD e1))
 refine ⟨(F.f 22).ok,cL F (Nat.lt_trans (by decide) hd) I.S (n:=4) (by decide) fun k m2 hk S2 mG=>cM.int ?_⟩
 have I:=I.take S2 mG
 have hn:=mG.keep ns hn
 cases decide ((k:Int)=0) with
 | false=>exact hK m2 O rows I hn no (J.skip x)
 | true=>
   obtain ⟨L,mt⟩:=I.tm
   refine .inst mt rfl (F.m 36).ok ⟨(F.f 23).ok,fq F (Nat.lt_trans (by decide) hd) I.S A6 (by decide) fun v m3 hv S3 fA=>?_⟩
   have I:=I.take S3 fA
   have hn:=fA.keep ns hn
   exact xE F (Nat.lt_of_succ_lt hd) I.B J.W.n9 (J.E e he).1 (J.E e he).2 (J.V6 hx) fun m4 O4 P=>hK m4 O4 _ (I.post P) (P.out no hn).2 (P.out no hn).1 (J.push he (ur e1) RA hx UR hv)
structure D2 (rows:List aG) (dM pre:List Nat):Prop where
 W:pS rows
 A:VK rows pre
 E:VL rows dM
 n:rows.length≤11+7 * pre.length
theorem U9 (F:cp c) (hd:4<d) (I:DI mh s t el O0 O rows dM m) {d9:List Nat} (e1:dM=pre++e::d9) (nd:dM.Nodup) (hl:dM.length≤7) (J:D2 rows dM pre) {uK sO kx:Val} {CV Au PH Uq:Option Val} {K:aE}
 (hK:∀m' O' rows' y,DI mh s t el O0 O' rows' dM m'→D2 rows' dM (pre++[e])→K none [some (.ref s),some (.ref t),some uK,some sO,some kx,CV,Au,PH,y,some (aL e)] m'):
 jb c d (.ref s) (.ref t) uK sO kx CV Au PH Uq (aL e) m K:=du fun nl m2 E2 c8 hn=>by
 have I2:=I.le c8
 rw [e1] at nd
 have hx:e∉pre:=fun h=>(List.nodup_append.mp nd).2.2 e h e (List.mem_cons_self ..) rfl
 have ns:nl≠s:=fun q=>by obtain ⟨_,_,_,_,z⟩:=I.S;rw [←q,E2] at z;exact a8 z
 refine jy (g:=Val.str) (l:=IW) (fun j:Option Val=>[some (.ref s),some (.ref t),some uK,some sO,some kx,CV,Au,PH,j,some (aL e)]) (fun pr zz m=>∃O rows,DI mh s t el O0 O rows dM m∧m nl=some (.list (aw IW))∧¬O nl∧D3 rows dM pre e pr) Uq rfl rfl ((by rintro _ _ _ ⟨_,_,_,h,_⟩;exact .list h)) (fun pr x d9 j m K e3 I3 Iu zz=>?_)
  ⟨O,rows,I2,hn,I.B.no E2,J.W,fun i hi=>J.A i fun h=>hi (List.mem_append_left _ h),J.E,J.n,Nat.le_of_eq (congrArg List.length (J.A e hx)),fun k hk=>by rw [J.A e hx] at hk;cases hk⟩ fun j m I3=>?_
 ·obtain ⟨O,rows,I3,hn,no,J3⟩:=I3
  exact tU.mpr (U8 F hd I3 hn no ns e3 J3 (qD e1) (Nat.lt_of_lt_of_le (ur e1) hl) fun m' O' rows' I' wy no' J'=>Iu (some (.str x)) m' ⟨O',rows',I',wy,no',J'⟩)
 ·obtain ⟨O,rows,I3,hn,no,J3⟩:=I3
  exact tV.mpr (hK m O rows _ I3 ⟨J3.W,J3.A,J3.E,by rw [List.length_append];exact J3.n⟩)
theorem wo (F:cp c) (hD:5<D) (S:SrcAt mh s) (B:d8 mh t O []) (so:¬O s) (h:∀m' rows,pS rows→bq m' t rows→Fr (fun a=>a=s∨O a) mh m'→Q (.int 0) m'):aq c D "_law_document" [.ref s,.ref t,.str "a"] mh Q:=by
 have tt:∀{m O rows},d8 m t O rows→∃L,m t=some (.inst "Tree" [("rows",.ref L)]):=fun B=>⟨_,B.I.choose_spec.choose_spec.choose_spec.choose_spec.me⟩
 refine (F.f 30).has.go F hD rfl zw (bc (tt B).choose_spec rfl (F.m 30).ok (zP F (by decide) B fun m1 O1 P1=>?_))
 refine bc (tt P1.B).choose_spec rfl (F.m 34).ok (qY F (by decide) (p:=0) P1.B (by decide) (by decide) (by decide) fun m2 O2 P2=>?_)
 refine bc (tt P2.B).choose_spec rfl (F.m 32).ok (jA F (by decide) (p:=0) P2.B (by decide) (by decide) (by decide) fun m3 O3 P3=>du fun el m4 FG vZ he=>?_)
 obtain ⟨x,y,y0,y1,hs⟩:=S
 have s1:=P1.out so hs
 have s2:=P2.out s1.1 s1.2
 have s3:=P3.out s2.1 s2.2
 have Xz:∀{a},O2 a→O a∨mh a=none:=fun k=>(P2.sub k).elim P1.sub fun z=>.inr (P1.fr.sQ z)
 have mG:=P1.fr.trans P2.fr fun zz=>P1.sub
 have fA:Fr O mh m3:=mG.trans P3.fr fun zz=>Xz
 have I4:DI mh s t el O O3 G4 [2] m4:=⟨P3.B.keep fun zz=>vZ _ _,⟨x,y,y0,y1,vZ _ _ s3.2⟩,s3.1,P3.B.no FG,(fun q=>by rw [q,s3.2] at FG;exact c5 FG),he,⟨fun n e=>vZ _ _ (fA.keep (fun k=>n (.inr k)) e),fun e=>fA.sQ (vZ.none e)⟩,fun k=>((P3.sub k).elim Xz fun z=>.inr (mG.sQ z)).imp .inr id,fA.sQ FG⟩
 refine ⟨(F.f 22).ok,cL F (by decide) I4.S (n:=7) (by decide) fun k m5 hk S5 RZ=>.uM ?_⟩
 have I5:=I4.take S5 RZ
 have h9:(2:Int)+k<bw:=Int.lt_trans (Int.add_lt_add_left (Int.ofNat_lt.mpr hk) 2) (by decide)
 have h0:(0:Int)≤2+k:=Int.add_nonneg (by decide) (Int.natCast_nonneg k)
 refine .range h0 h9 (jy (g:=aL) (l:=List.range (2+k)) (fun j:Option Val×Option Val×Option Val×Option Val×Option Val=>[some (.ref s),some (.ref t),some (.str "a"),some (.int 0),some (.ref el),j.1,j.2.1,j.2.2.1,j.2.2.2.1,j.2.2.2.2]) (fun pre zz m=>∃O' rows dM,DI mh s t el O O' rows dM m∧D1 rows dM pre.length) (none,none,none,none,none) rfl ?_ (fun zz zz zz zz=>.xG h0 h9) (fun pre i d9 j m K e I hK zz=>?_) ⟨O3,G4,[2],I5,R3⟩ fun j m I=>?_)
 ·rw [Hp,show ((2:Int)+k).toNat=2+k from by rw [show (2:Int)+k=((2+k:Nat):Int) from (Int.natCast_add 2 k).symm];rfl]
 ·obtain ⟨O',rows,dM,I,J⟩:=I
  have hn:pre.length<8+1 - 1:=Nat.lt_of_lt_of_le (ur e) (by rw [List.length_range];exact Nat.le_trans (Nat.add_le_add_left (Nat.le_of_lt_succ hk) 2) (by decide))
  exact tT.mpr (U6 F (by decide) I J hn fun m' O' rows' zU y z w I' J'=>hK (_,_,_,_,_) m' ⟨O',rows',zU,I',by rw [List.length_append];exact J'⟩)
 ·obtain ⟨O',rows,dM,I,J⟩:=I
  refine tY.mpr (jy (g:=aL) (l:=dM) (fun j:Option Val×Option Val=>[some (.ref s),some (.ref t),some (.str "a"),some (.int 0),some (.ref el),_,_,_,j.1,j.2]) (fun pre zz m=>∃O' rows,DI mh s t el O O' rows dM m∧D2 rows dM pre) (_,_) rfl rfl ((by rintro _ _ _ ⟨_,_,h,_⟩;exact .list h.he)) (fun pre e d9 j m K e1 I2 hK zz=>?_) ⟨O',rows,I,J.W,J.A,J.E.el,?_⟩ fun j m I2=>?_)
  ·obtain ⟨O',rows,I2,J2⟩:=I2
   exact tW.mpr (U9 F (by decide) I2 e1 J.E.nd J.E.le J2 fun m' O' rows' y I' J'=>hK (_,_) m' ⟨O',rows',I',J'⟩)
  ·rw [J.n,List.length_range];exact Nat.add_le_add_left (Nat.add_le_add_left (Nat.le_of_lt_succ hk) 2) 3
  ·obtain ⟨O',rows,I2,J2⟩:=I2
   exact tX.mpr (h m rows J2.W (I2.B.OQ (Nat.lt_trans J2.W.n9 (by decide))) I2.fr)
end
inductive Seg (f:Int→LI) (eJ:Int→Str) (w:List Str) (b:Nat) (q:Int):Nat→Int→Prop
 | one (h:w[b]? =some (eJ q)):Seg f eJ w b q (b+1) q
 | snoc {e:Nat} {r s:Int} (k:Seg f eJ w b q e r) (i:s∈f r) (h:w[e]? =some (eJ s)):Seg f eJ w b q (e+1) s
def Pa (s:RS) (f:Int→LI) (eJ:Int→Str) (w:List Str) (b e:Nat):Prop:=∃q r,q∈s.F∧Seg f eJ w b q e r∧r∈s.L
def Acc (s:RS) (eJ:Int→Str) (w:List Str) (b e:Nat):Prop:=(s.N=true∧b=e)∨Pa s s.fol eJ w b e
section
variable {f g:Int→LI} {eJ:Int→Str} {w:List Str} {b e x:Nat} {q r:Int} {s t:RS} {lo mid hi n:Nat} {fol iw:Int→LI}
theorem Seg.imp {P:Int→Prop} (h:∀{r s},P r→s∈f r→s∈g r∧P s) (hq:P q) (k:Seg f eJ w b q e r):Seg g eJ w b q e r∧P r:=by
 induction k with
 | one h=>exact ⟨.one h,hq⟩
 | snoc k i hw ih=>exact ⟨.snoc ih.1 (h ih.2 i).1 hw,(h ih.2 i).2⟩
theorem Seg.app {q' r':Int} (k:Seg f eJ w b q x r) (i:q'∈f r) (k':Seg f eJ w x q' e r'):Seg f eJ w b q e r':=by
 induction k' with
 | one h=>exact .snoc k i h
 | snoc _ i' h ih=>exact .snoc ih i' h
theorem Seg.up (h:∀{r s},s∈f r→s∈g r) (k:Seg f eJ w b q e r):Seg g eJ w b q e r:=(k.imp (P:=fun zz=>True) (fun zz i=>⟨h i,trivial⟩) trivial).1
theorem Th {s':Int} (h:s.In lo mid iw) (k:t.In mid hi s.fol) (hr:Pl lo mid r):s'∈t.fol r↔s'∈s.fol r:=by rw [k.o (hr.mono (Nat.zero_le _) (Nat.le_refl _))]
theorem JS {J:Int→Int→Prop} (h:s.In lo mid iw) (k:t.In mid hi s.fol) (hg:∀{r s'},s'∈g r→s'∈t.fol r∨(J r s'∧Pl lo mid r∧Pl mid hi s')) (sg:Seg g eJ w b q e r):
 (Pl lo mid q→(Seg s.fol eJ w b q e r∧Pl lo mid r)∨∃x r1 q1,Seg s.fol eJ w b q x r1∧J r1 q1∧Seg t.fol eJ w x q1 e r∧Pl mid hi r)∧(Pl mid hi q→Seg t.fol eJ w b q e r∧Pl mid hi r):=by
 have no:∀{r},Pl lo mid r→¬Pl mid hi r:=fun a c=>Int.lt_irrefl _ (Int.lt_of_lt_of_le c.1 a.2)
 induction sg with
 | one h=>exact ⟨fun c=>.inl ⟨.one h,c⟩,fun c=>⟨.one h,c⟩⟩
 | @snoc e r s' _ i hw ih=>
   refine ⟨fun c=>?_,fun c=>?_⟩
   ·rcases ih.1 c with ⟨a,pr⟩ | ⟨x,r1,q1,a,j,d,pr⟩<;>rcases hg i with i | ⟨jj,pl,pu⟩
    ·have i:=(Th h k pr).mp i
     exact .inl ⟨.snoc a i hw,(h.g pr).2 _ i⟩
    ·exact .inr ⟨e,r,s',a,jj,.one hw,pu⟩
    ·exact .inr ⟨x,r1,q1,a,j,.snoc d i hw,(k.g pr).2 _ i⟩
    ·exact absurd pr (no pl)
   ·have ⟨a,pr⟩:=ih.2 c
    rcases hg i with i | ⟨jj,pl,pu⟩
    ·exact ⟨.snoc a i hw,(k.g pr).2 _ i⟩
    ·exact absurd pr (no pl)
theorem IX (h:s.In lo mid iw) (k:t.In mid hi s.fol) (hg:∀{r s'},s'∈t.fol r→s'∈g r) (c:Pl lo mid q) (sg:Seg s.fol eJ w b q e r):Seg g eJ w b q e r:=
 (sg.imp (P:=Pl lo mid) (fun pr i=>⟨hg ((Th h k pr).mpr i),(h.g pr).2 _ i⟩) c).1
theorem R4 (h:s.In lo mid iw) (k:t.In mid hi s.fol):Acc (s.alt t) eJ w b e↔Acc s eJ w b e∨Acc t eJ w b e:=by
 have no:∀{r},Pl lo mid r→¬Pl mid hi r:=fun a c=>Int.lt_irrefl _ (Int.lt_of_lt_of_le c.1 a.2)
 refine ⟨?_,?_⟩
 ·rintro (⟨hN,rfl⟩ | ⟨q,r,hq,sg,hr⟩)
  ·exact (Bool.or_eq_true_iff.mp hN).imp (fun z=>.inl ⟨z,rfl⟩) fun z=>.inl ⟨z,rfl⟩
  ·have cut:=JS (J:=fun zz zz=>False) h k (fun i=>.inl i) sg
   rcases dN.mp hq with hq | hq
   ·rcases cut.1 (h.f.2 q hq) with ⟨a,pr⟩ | ⟨_,_,_,_,j,_⟩
    ·exact .inl (.inr ⟨q,r,hq,a,(dN.mp hr).resolve_right fun z=>no pr (k.l.2 r z)⟩)
    ·exact j.elim
   ·have ⟨a,pr⟩:=cut.2 (k.f.2 q hq)
    exact .inr (.inr ⟨q,r,hq,a,(dN.mp hr).resolve_left fun z=>no (h.l.2 r z) pr⟩)
 ·rintro ((⟨hN,rfl⟩ | ⟨q,r,hq,sg,hr⟩) | (⟨hN,rfl⟩ | ⟨q,r,hq,sg,hr⟩))
  ·exact .inl ⟨by show (s.N || t.N)=true;rw [hN];rfl,rfl⟩
  ·exact .inr ⟨q,r,dN.mpr (.inl hq),IX h k id (h.f.2 q hq) sg,dN.mpr (.inl hr)⟩
  ·exact .inl ⟨by show (s.N || t.N)=true;rw [hN,Bool.or_true],rfl⟩
  ·exact .inr ⟨q,r,dN.mpr (.inr hq),sg,dN.mpr (.inr hr)⟩
theorem JT:q∈(s.cat t).F↔q∈s.F∨(s.N=true∧q∈t.F):=by
 show q∈(bif s.N then sD s.F t.F else s.F)↔_
 cases s.N with
 | true=>exact dN.trans (or_congr_right ⟨fun h=>⟨rfl,h⟩,And.right⟩)
 | false=>exact ⟨.inl,fun h=>h.elim id fun h=>nomatch h.1⟩
theorem BX:r∈(s.cat t).L↔(t.N=true∧r∈s.L)∨r∈t.L:=by
 refine dN.trans (or_congr_left ?_)
 cases t.N with
 | true=>exact ⟨fun h=>⟨rfl,h⟩,And.right⟩
 | false=>exact ⟨fun h=>(nomatch h),fun h=>nomatch h.1⟩
theorem JU (h:s.In lo mid iw) (k:t.In mid hi s.fol):Acc (s.cat t) eJ w b e↔∃x,Acc s eJ w b x∧Acc t eJ w x e:=by
 have no:∀{r},Pl lo mid r→¬Pl mid hi r:=fun a c=>Int.lt_irrefl _ (Int.lt_of_lt_of_le c.1 a.2)
 have up:∀{r s'},s'∈t.fol r→s'∈(s.cat t).fol r:=fun i=>gV.mpr (.inl i)
 refine ⟨?_,?_⟩
 ·rintro (⟨hN,rfl⟩ | ⟨q,r,hq,sg,hr⟩)
  ·have hN:=Bool.and_eq_true_iff.mp hN
   exact ⟨b,.inl ⟨hN.1,rfl⟩,.inl ⟨hN.2,rfl⟩⟩
  ·have cut:=JS (J:=fun r1 q1=>r1∈s.L∧q1∈t.F) h k (fun {r s'} i=>(gV.mp i).imp id fun j=>⟨j,h.l.2 r j.1,k.f.2 s' j.2⟩) sg
   rcases JT.mp hq with hq | ⟨hN,hq⟩
   ·rcases cut.1 (h.f.2 q hq) with ⟨a,pr⟩ | ⟨x,r1,q1,a,j,d,pr⟩
    ·have ⟨n1,hr⟩:=(BX.mp hr).resolve_right fun z=>no pr (k.l.2 r z)
     exact ⟨e,.inr ⟨q,r,hq,a,hr⟩,.inl ⟨n1,rfl⟩⟩
    ·exact ⟨x,.inr ⟨q,r1,hq,a,j.1⟩,.inr ⟨q1,r,j.2,d,(BX.mp hr).resolve_left fun z=>no (h.l.2 r z.2) pr⟩⟩
   ·have ⟨a,pr⟩:=cut.2 (k.f.2 q hq)
    exact ⟨b,.inl ⟨hN,rfl⟩,.inr ⟨q,r,hq,a,(BX.mp hr).resolve_left fun z=>no (h.l.2 r z.2) pr⟩⟩
 ·rintro ⟨x,⟨hN,rfl⟩ | ⟨q,r,hq,sg,hr⟩,⟨hN',rfl⟩ | ⟨q',r',JK,XA,T5⟩⟩
  ·exact .inl ⟨by show (s.N&&t.N)=true;rw [hN,hN'];rfl,rfl⟩
  ·exact .inr ⟨q',r',JT.mpr (.inr ⟨hN,JK⟩),XA.up up,BX.mpr (.inr T5)⟩
  ·exact .inr ⟨q,r,JT.mpr (.inl hq),IX h k up (h.f.2 q hq) sg,BX.mpr (.inl ⟨hN',hr⟩)⟩
  ·exact .inr ⟨q,r',JT.mpr (.inl hq),(IX h k up (h.f.2 q hq) sg).app (gV.mpr (.inr ⟨hr,JK⟩)) (XA.up up),BX.mpr (.inr T5)⟩
theorem Pb (hq:q∈s.F) (sg:Seg (joinM s.L s.F s.fol) eJ w b q e r):∃x q' k,pow (Acc s eJ w) b k x∧q'∈s.F∧Seg s.fol eJ w x q' e r:=by
 induction sg with
 | one h=>exact ⟨b,q,0,rfl,hq,.one h⟩
 | @snoc e r s' _ i hw ih=>
   obtain ⟨x,q',k,hp,JK,sg⟩:=ih
   rcases gV.mp i with i | ⟨hr,hs⟩
   ·exact ⟨x,q',k,hp,JK,.snoc sg i hw⟩
   ·exact ⟨e,s',k+1,⟨x,hp,.inr ⟨q',r,JK,sg,hr⟩⟩,hs,.one hw⟩
theorem BY (h:b=x∨Pa s (joinM s.L s.F s.fol) eJ w b x) (a:Acc s eJ w x e):(s.N=true∧b=e)∨Pa s (joinM s.L s.F s.fol) eJ w b e:=by
 have up:∀{r s'},s'∈s.fol r→s'∈joinM s.L s.F s.fol r:=fun i=>gV.mpr (.inl i)
 rcases h with rfl | ⟨q,r,hq,sg,hr⟩<;>rcases a with ⟨hN,rfl⟩ | ⟨q',r',JK,XA,T5⟩
 ·exact .inl ⟨hN,rfl⟩
 ·exact .inr ⟨q',r',JK,XA.up up,T5⟩
 ·exact .inr ⟨q,r,hq,sg,hr⟩
 ·exact .inr ⟨q,r',hq,sg.app (gV.mpr (.inr ⟨hr,JK⟩)) (XA.up up),T5⟩
theorem Pc:∀{k e},pow (Acc s eJ w) b k e→b=e∨Pa s (joinM s.L s.F s.fol) eJ w b e:=by
 intro k
 induction k with
 | zero=>exact fun h=>.inl h
 | succ k ih=>exact fun ⟨x,h,a⟩=>(BY (ih h) a).imp And.right id
theorem zV {m:Str}:Acc (s.JI m) eJ w b e↔ji m (Acc s eJ w) b e:=by
 have key:Pa s (bif dR m then joinM s.L s.F s.fol else s.fol) eJ w b e∨(s.N=true∧b=e)↔bif dR m then ∃k,pow (Acc s eJ w) b (k+1) e else Acc s eJ w b e:=by
  cases dR m with
  | false=>exact or_comm
  | true=>
    refine ⟨?_,(by rintro ⟨k,x,h,a⟩;exact (BY (Pc h) a).symm)⟩
    rintro (⟨q,r,hq,sg,hr⟩ | a)
    ·obtain ⟨x,q',k,hp,JK,sg⟩:=Pb hq sg
     exact ⟨k,x,hp,.inr ⟨q',r,JK,sg,hr⟩⟩
    ·exact ⟨0,b,rfl,.inl a⟩
 unfold ji
 rw [←key]
 refine ⟨?_,?_⟩
 ·rintro (⟨hN,rfl⟩ | k)
  ·exact (Bool.or_eq_true_iff.mp hN).elim (fun z=>.inr (.inr ⟨z,rfl⟩)) fun z=>.inl ⟨z,rfl⟩
  ·exact .inr (.inl k)
 ·rintro (⟨z,rfl⟩ | k | ⟨z,rfl⟩)
  ·exact .inl ⟨by show (s.N || isOpt m)=true;rw [z,Bool.or_true],rfl⟩
  ·exact .inr k
  ·exact .inl ⟨by show (s.N || isOpt m)=true;rw [z];rfl,rfl⟩
theorem R5 {nm:Str} (h:eJ ((n:Int)+1)=nm):Acc (RS.one n fol) eJ w b e↔BO w nm b e:=by
 refine ⟨?_,(by rintro ⟨h1,h2⟩;exact .inr ⟨_,_,List.mem_singleton.mpr rfl,by rw [h1];exact .one (by rw [h2,h]),List.mem_singleton.mpr rfl⟩)⟩
 rintro (⟨hN,_⟩ | ⟨q,r,hq,sg,hr⟩)
 ·exact iZ hN
 ·have hq:=List.mem_singleton.mp hq
  have :e=b+1∧r=q∧w[b]? =some (eJ q):=by
   clear hr
   induction sg with
   | one h=>exact ⟨rfl,rfl,h⟩
   | @snoc e r s' _ i hw ih=>
     have i:s'∈GP n fol r:=i
     rw [ih.2.1,hq,GP,decide_eq_true rfl] at i;cases i
  rw [hq,h] at this
  exact ⟨this.1,this.2.2⟩
def uE (eJ:Int→Str) (n:Nat) (l:List Str):Prop:=∀{i:Nat} {s},l[i]? =some s→eJ (((n+i:Nat):Int)+1)=s
theorem uE.left {l l':List Str} (h:uE eJ n (l++l')):uE eJ n l:=fun e=>h (by rw [List.getElem?_append_left (List.getElem?_eq_some_iff.mp e).1];exact e)
theorem uE.right {l l':List Str} (h:uE eJ n (l++l')):uE eJ (n+l.length) l':=fun {i s} e=>by
 rw [Nat.add_assoc];exact h (by rw [List.getElem?_append_right (Nat.le_add_right ..),Nat.add_sub_cancel_left];exact e)
theorem JV (hN:s.N=true) (hF:s.F=[]):Acc s eJ w b e↔b=e:=⟨fun h=>h.elim And.right ((by rintro ⟨q,_,hq,_⟩;exact by rw [hF] at hq;cases hq)),fun h=>.inl ⟨hN,h⟩⟩
theorem Pd (hN:s.N=false) (hF:s.F=[]):¬Acc s eJ w b e:=fun h=>h.elim (fun h=>by rw [hN] at h;exact iZ h.1) (by rintro ⟨q,_,hq,_⟩;exact by rw [hF] at hq;cases hq)
theorem sG {m:Str} {R R':xF} (h:∀b e,R b e↔R' b e):ji m R b e↔ji m R' b e:=by
 rw [show R=R' from by funext b e;exact propext (h b e)]
theorem R6:(∀p:Pt,∀n fol,uE eJ n p.bu→∀b e,Acc (p.rd n fol) eJ w b e↔p.M w b e)∧
 ∀l:fz,∀{lo n fol s},s.In lo n fol→uE eJ n l.bu→∀b e,(Acc (l.SP n s) eJ w b e↔∃x,Acc s eJ w b x∧(l.M w).1 x e)∧(Acc (l.SR n s) eJ w b e↔Acc s eJ w b e∨(l.M w).2 b e):=by
 refine Pt.ind (fun s m n fol hl b e=>zV.trans (sG fun b e=>R5 (hl (i:=0) rfl))) (fun l m ih n fol hl b e=>zV.trans (sG fun b e=>(ih .nil hl b e).1.trans ⟨fun ⟨x,h,k⟩=>(JV rfl rfl).mp h▸k,fun k=>⟨b,(JV rfl rfl).mpr rfl,k⟩⟩))
  (fun l m ih n fol hl b e=>zV.trans (sG fun b e=>(ih .nil hl b e).2.trans ⟨fun h=>h.elim (fun h=>absurd h (Pd rfl rfl)) id,.inr⟩)) (fun zz zz b e=>⟨⟨fun h=>⟨e,h,rfl⟩,fun ⟨x,h,q⟩=>(show x=e from q)▸h⟩,.inl,fun h=>h.elim id False.elim⟩) fun p l hp hl lo n fol s i hL b e=>?_
 have ip:=pP.1 p n s.fol
 have hp:=hp n s.fol hL.left
 refine ⟨(hl (i.cat ip) hL.right b e).1.trans ⟨fun ⟨x,h,k⟩=>?_,fun ⟨y,h,x,k,k'⟩=>⟨x,(JU i ip).mpr ⟨y,h,(hp y x).mpr k⟩,k'⟩⟩,(hl (i.alt ip) hL.right b e).2.trans (((or_congr_left (R4 i ip)).trans or_assoc).trans (or_congr_right (or_congr_left (hp b e))))⟩
 obtain ⟨y,h1,h2⟩:=(JU i ip).mp h
 exact ⟨y,h1,x,(hp y x).mp h2,k⟩
end
section
variable {p:Pt} {w:List Str} {st:LI} {n:Nat} {x:Int} {nm:Str}
theorem Pe:x∈iy p st nm↔∃q∈st,x∈p.R.next q∧uy p.bu x=nm:=by
 have :∀(l z:LI),x∈l.foldl (qT p nm) z↔x∈z∨∃q∈l,x∈p.R.next q∧uy p.bu x=nm:=by
  intro l
  induction l with
  | nil=>exact fun z=>⟨.inl,fun h=>h.elim id (by rintro ⟨_,h,_⟩;exact nomatch h)⟩
  | cons a l ih=>
    intro z
    show x∈l.foldl (qT p nm) (qT p nm z a)↔_
    rw [ih,qT,dN,List.mem_filter,or_assoc]
    refine or_congr_right ⟨?_,?_⟩
    ·rintro (⟨h1,h2⟩ | ⟨q,hq,h⟩)
     ·exact ⟨a,List.mem_cons_self ..,h1,of_decide_eq_true h2⟩
     ·exact ⟨q,List.mem_cons_of_mem _ hq,h⟩
    ·rintro ⟨q,hq,h1,h2⟩
     rcases List.mem_cons.mp hq with rfl | hq
     ·exact .inl ⟨h1,decide_eq_true h2⟩
     ·exact .inr ⟨q,hq,h1,h2⟩
 exact (this st []).trans ⟨fun h=>h.elim (fun h=>nomatch h) id,.inr⟩
theorem R7:∀{w:List Str} {st:LI},runM p st w=true↔∃q∈w.foldl (iy p) st,JL p q=true:=by
 intro w
 induction w with
 | nil=>intro st;exact List.find?_isSome
 | cons x w ih=>
   intro st
   show (bif (bj (iy p st x)).isEmpty then false else runM p (iy p st x) w)=true↔∃q∈w.foldl (iy p) (iy p st x),_
   rw [←ih]
   cases iy p st x with
   | cons a l=>exact .rfl
   | nil=>
     refine ⟨fun h=>(nomatch h),fun h=>?_⟩
     have :∀w:List Str,w.foldl (iy p) []=[]:=fun w=>by
      induction w with
      | nil=>rfl
      | cons y w ih=>exact ih
     obtain ⟨q,hq,_⟩:=ih.mp h
     rw [this] at hq;cases hq
theorem reach (hn:n≤w.length):∀{x},x∈(w.take n).foldl (iy p) [0]↔(n=0∧x=0)∨(0<n∧∃q,q∈p.R.F∧Seg p.R.fol (uy p.bu) w 0 q n x):=by
 have i:=pP.1 p 0 fun zz=>[]
 have rg:∀{q n x},q∈p.R.F→Seg p.R.fol (uy p.bu) w 0 q n x→Pl 0 (0+p.size) x:=fun hq sg=>(sg.imp (g:=p.R.fol) (P:=Pl 0 (0+p.size)) (fun pr j=>⟨j,(i.g pr).2 _ j⟩) (i.f.2 _ hq)).2
 induction n with
 | zero=>exact fun {x}=>⟨fun h=>.inl ⟨rfl,List.mem_singleton.mp h⟩,fun h=>h.elim (fun h=>List.mem_singleton.mpr h.2) fun h=>absurd h.1 (Nat.lt_irrefl 0)⟩
 | succ n ih=>
   intro x
   have ih:=@ih (Nat.le_of_succ_le hn)
   have hw:w[n]? =some w[n]:=List.getElem?_eq_getElem hn
   rw [List.take_succ_eq_append_getElem hn,List.foldl_append]
   show x∈iy p _ w[n]↔_
   rw [Pe]
   refine ⟨fun ⟨q,hq,h1,h2⟩=>.inr ⟨Nat.succ_pos _,?_⟩,fun h=>?_⟩
   ·unfold RS.next at h1
    rcases ih.mp hq with ⟨rfl,rfl⟩ | ⟨h0,q0,R8,sg⟩
    ·exact ⟨x,h1,.one (by rw [hw,h2])⟩
    ·rw [decide_eq_false fun (z:q=0)=>absurd (rg R8 sg).1 (z▸Int.lt_irrefl 0)] at h1
     exact ⟨q0,R8,.snoc sg h1 (by rw [hw,h2])⟩
   ·obtain ⟨-,q0,R8,sg⟩:=h.resolve_left fun h=>nomatch h.1
    cases sg with
    | one h=>
      rw [hw] at h
      exact ⟨0,ih.mpr (.inl ⟨rfl,rfl⟩),R8,(Option.some.inj h).symm⟩
    | @snoc e r s sg j h=>
      rw [hw] at h
      refine ⟨r,ih.mpr (.inr ⟨?_,q0,R8,sg⟩),?_,(Option.some.inj h).symm⟩
      ·cases sg<;>exact Nat.succ_pos _
      ·unfold RS.next
       rw [decide_eq_false fun (z:r=0)=>absurd (rg R8 sg).1 (z▸Int.lt_irrefl 0)];exact j
theorem Pf:uz p w=true↔p.M w 0 w.length:=by
 have i:=pP.1 p 0 fun zz=>[]
 have hl:uE (uy p.bu) 0 p.bu:=fun {j s} e=>by
  unfold uy
  rw [Int.add_sub_cancel,Int.toNat_natCast,Nat.zero_add,e];rfl
 have R:=fun {x}=>reach (p:=p) (w:=w) (Nat.le_refl _) (x:=x)
 rw [List.take_length] at R
 rw [←R6.1 p 0 (fun zz=>[]) hl 0 w.length,uz,R7]
 refine ⟨fun ⟨q,hq,h⟩=>?_,?_⟩
 ·rcases R.mp hq with ⟨h0,rfl⟩ | ⟨h0,q0,R8,sg⟩<;>rcases Bool.or_eq_true_iff.mp h with h | h
  ·exact absurd (i.l.2 0 (List.contains_iff_mem.mp h)).1 (Int.lt_irrefl 0)
  ·exact .inl ⟨(Bool.and_eq_true_iff.mp h).2,h0.symm⟩
  ·exact .inr ⟨q0,q,R8,sg,List.contains_iff_mem.mp h⟩
  ·have:=(sg.imp (g:=p.R.fol) (P:=Pl 0 (0+p.size)) (fun pr j=>⟨j,(i.g pr).2 _ j⟩) (i.f.2 _ R8)).2.1
   rw [of_decide_eq_true (Bool.and_eq_true_iff.mp h).1] at this
   exact absurd this (Int.lt_irrefl 0)
 ·rintro (⟨hN,h0⟩ | ⟨q,r,hq,sg,hr⟩)
  ·exact ⟨0,R.mpr (.inl ⟨h0.symm,rfl⟩),by show (_ || (decide ((0:Int)=0)&&p.R.N))=true;rw [show p.R.N=true from hN,Bool.or_eq_true_iff];exact .inr rfl⟩
  ·refine ⟨r,R.mpr (.inr ⟨?_,q,hq,sg⟩),Bool.or_eq_true_iff.mpr (.inl (List.contains_iff_mem.mpr hr))⟩
   generalize w.length=n at sg
   cases sg<;>exact Nat.succ_pos _
end
theorem R9:(A6.all fun v=>eV v&&eV (fH v))=true:=by decide+kernel
theorem sH {v:Str} (h:v∈A6):eV v=true∧eV (fH v)=true:=aC (List.all_eq_true.mp R9 v h)
theorem Sa:(R0.all fun v=>decide (iq v=(bS v).isEmpty)&&eV v)=true:=by decide+kernel
theorem Pg {v:Str} (h:v∈R0):iq v=(bS v).isEmpty∧eV v=true:=have h:=aC (List.all_eq_true.mp Sa v h);⟨of_decide_eq_true h.1,h.2⟩
noncomputable def A7 (rows:List aG):Nat→Nat→List Nat:=vY (fun i l=>i::l.flatten) rows
section
variable {rows:List aG} {n i k x:Nat}
theorem xV:∀{n i},vY (fun zz l=>1+l.sum) rows n i=(A7 rows n i).length:=by
 intro n
 induction n with
 | zero=>exact fun {i}=>rfl
 | succ n ih=>
   intro i
   show 1+List.sum _=(i::List.flatten _).length
   rw [List.length_cons,List.length_flatten,List.map_map,Nat.add_comm,show (List.length∘vY (fun i l=>i::l.flatten) rows n)=vY (fun zz l=>1+l.sum) rows n from funext fun k=>(@ih k).symm]
theorem G5:∀{n i},vY (fun i l=>(if nU rows i=true then [i] else [])++l.flatten) rows n i=(A7 rows n i).filter (nU rows):=by
 have one:∀i l,(if nU rows i=true then [i] else [])++List.filter (nU rows) l=(i::l).filter (nU rows):=fun i l=>by
  rw [List.filter_cons]
  cases nU rows i<;>rfl
 intro n
 induction n with
 | zero=>exact fun {i}=>one i []
 | succ n ih=>
   intro i
   show _++List.flatten _=(i::List.flatten _).filter (nU rows)
   rw [←one,List.filter_flatten,List.map_map]
   exact congrArg (_++List.flatten ·) (List.map_congr_left fun k zz=>ih)
theorem ER:∀{n k},x∈A7 rows n k→x=k∨∃p∈A7 rows n k,x∈(ag rows p).children:=by
 intro n
 induction n with
 | zero=>exact fun h=>.inl (List.mem_singleton.mp h)
 | succ n ih=>
   intro k h
   rcases List.mem_cons.mp h with h | h
   ·exact .inl h
   ·obtain ⟨l,hl,hx⟩:=List.mem_flatten.mp h
    obtain ⟨c,hc,rfl⟩:=List.mem_map.mp hl
    rcases ih hx with rfl | ⟨p,hp,hx⟩
    ·exact .inr ⟨k,List.mem_cons_self ..,hc⟩
    ·exact .inr ⟨p,List.mem_cons_of_mem _ (List.mem_flatten.mpr ⟨_,hl,hp⟩),hx⟩
variable (W:eK rows)
include W
theorem eK.up:∀{n k},x∈A7 rows n k→k≤x:=by
 intro n
 induction n with
 | zero=>exact fun h=>Nat.le_of_eq (List.mem_singleton.mp h).symm
 | succ n ih=>
   intro k h
   rcases List.mem_cons.mp h with h | h
   ·exact Nat.le_of_eq h.symm
   ·obtain ⟨l,hl,hx⟩:=List.mem_flatten.mp h
    obtain ⟨c,hc,rfl⟩:=List.mem_map.mp hl
    exact Nat.le_trans (Nat.le_of_lt (W.lt (b:=true) hc).1) (ih hx)
theorem eK.one {k':Nat} (hk:k∈(ag rows i).children) (xM:k'∈(ag rows i).children):∀x,x∈A7 rows n k→x∈A7 rows n k'→k=k':=by
 have no:∀{k p x},k∈(ag rows i).children→p∈A7 rows n k→x∈(ag rows p).children→x∉(ag rows i).children:=fun hk hp hx PW=>by
  have e:=(W.un (b:=true) (b':=true) hx PW).2
  exact Nat.lt_irrefl _ (Nat.lt_of_lt_of_le (W.lt (b:=true) hk).1 (e▸W.up hp))
 intro x
 induction x using Nat.strongRecOn with
 | ind x ih=>
   intro h h'
   rcases ER h with rfl | ⟨p,hp,hx⟩<;>rcases ER h' with e | ⟨p',JN,PW⟩
   ·exact e
   ·exact absurd hk (no xM JN PW)
   ·exact absurd (e▸xM) (no hk hp hx)
   ·have e:=(W.un (b:=true) (b':=true) hx PW).2
    exact ih p (W.lt (b:=true) hx).1 hp (e▸JN)
theorem eK.Ph:∀{n i},(A7 rows n i).Nodup:=by
 intro n
 induction n with
 | zero=>exact fun {i}=>List.pairwise_singleton _ _
 | succ n ih=>
   intro i
   refine List.nodup_cons.mpr ⟨fun h=>?_,List.pairwise_flatten.mpr ⟨fun l hl=>(by obtain ⟨k,_,e⟩:=List.mem_map.mp hl;exact e▸ih),List.pairwise_map.mpr ?_⟩⟩
   ·obtain ⟨l,hl,hx⟩:=List.mem_flatten.mp h
    obtain ⟨c,hc,rfl⟩:=List.mem_map.mp hl
    exact Nat.lt_irrefl _ (Nat.lt_of_lt_of_le (W.lt (b:=true) hc).1 (W.up hx))
   ·exact (W.nd true i).imp_of_mem fun {k k'} hk xM ne x hx y hy e=>ne (W.one hk xM x hx (e▸hy))
theorem eK.xV (h:i≤10):(A7 rows n i).length≤11:=Ps.len (n:=10) ⟨W.Ph,fun x hx=>(ER hx).elim (fun e=>e▸h) (by rintro ⟨p,_,hx⟩;exact Nat.le_of_lt_succ (W.Xv hx))⟩
theorem eK.val (h:k∈(ag rows i).attrs):(ag rows k).value∈A6:=((W.ok k).at' (W.ka h)).2
theorem eK.wx (h0:0<rows.length):WX rows where
 ch:=fun i k=>W.lt (b:=true)
 leaf:=W.leaf
 Yh:=fun i k=>W.lt (b:=false)
 pos:=h0
 cnt:=by
  show vY (fun zz l=>1+l.sum) rows _ 0<5000
  rw [Mine.xV];exact Nat.lt_of_le_of_lt (W.xV (Nat.zero_le _)) (by decide)
 vals:=fun i k hk=>eV.g (sH (W.val hk)).1
 an:=fun i=>Nat.le_trans (W.al i) (by decide)
 nm:=fun i=>Nat.lt_trans (W.ok i).nm (by decide)
 vals2:=fun i k hk=>eV.g (sH (W.val hk)).2
theorem eK.Yt:(ag rows i).children.length≤11:=Ps.len (n:=10) ⟨W.nd true i,fun y hy=>Nat.le_of_lt_succ (W.Xv hy)⟩
end
theorem pS.wx {rows:List aG} (W:pS rows):WX rows:=W.toeK.wx (Nat.lt_trans (by decide) W.n3)
theorem pS.Pj {rows:List aG} (W:pS rows):fJ rows 0=dt rows∧(dt rows).Nodup∧∃l,dt rows=2::l:=by
 have X:=W.wx.toWF
 have e:∀{i},(ag rows i).kind≠"element"→¬nU rows i=true:=fun h k=>h (of_decide_eq_true k)
 have e0:fJ rows 0=dt rows:=by rw [kh X X.pos,if_neg (e (by rw [W.k0];decide))];rfl
 refine ⟨e0,?_,?_⟩
 ·rw [←e0,show fJ rows 0=_ from G5 (n:=rows.length - 0)];exact W.toeK.Ph.filter _
 ·unfold dt
  rw [W.c0,List.flatMap_cons,List.flatMap_cons,kh X (Nat.lt_trans (by decide) W.n3),if_neg (e (by rw [W.k1];decide)),W.leaf 1 (by decide) (by rw [W.k1];decide),kh X W.n3,if_pos (show nU rows 2=true from decide_eq_true W.k2)]
  exact ⟨_,rfl⟩
noncomputable def BZ (rows:List aG) (l:List Nat):List Str:=(l.filter (qU rows)).map fun i=>(ag rows i).value
noncomputable def JW (v:Str):Bool:=!(bS v).isEmpty
noncomputable def cwM (rows:List aG) (e:Nat):Option gw→Nat
 | none=>1
 | some m=>qV rows e m
section
variable {c:Cfg} {D d e:Nat} {m mh:MH} {Q:VQ} {t:Addr} {rows:List aG}
theorem Pk (W:eK rows) {l:List Nat}:(!(((BZ rows l).filter JW).map Val.str).isEmpty)=(l.find? (eh rows)).isSome:=by
 induction l with
 | nil=>rfl
 | cons i l ih=>
   unfold BZ at ih⊢
   rw [List.filter_cons,List.find?_cons]
   unfold eh at ih⊢
   cases h:qU rows i with
   | false=>exact ih
   | true=>
     have h2:=(Pg ((W.ok i).tx (of_decide_eq_true h))).1
     rw [if_pos rfl,List.map_cons,List.filter_cons,JW,h2]
     cases (bS (ag rows i).value).isEmpty with
     | true=>exact ih
     | false=>rfl
theorem XB {b:Bool} (h:Q (aL (bif b then 1 else 0)) m):eX m Q "int" [.bool b]:=.Mv (by cases b<;>exact h)
theorem XC {a:Addr} {l:List Val} (ha:m a=some (.list l)) (h:∀m',MH.Le m m'→Q (aL (bif !l.isEmpty then 1 else 0)) m'):fE Q (.ref a) m:=fun b hb=>cM.nil ((MH.Le.set hb) _ _ ha) (MH.set_same ..) (XB (h _ (.set hb)))
theorem Mc (F:cp c) (hd:9<d) (W:eK rows) (h0:0<rows.length) (T:bq m t rows) (he:e<rows.length) {x1 x2:Addr} (h1:m x1=some (.list (aw (cU rows e)))) (h2:m x2=some (.list (aw (BZ rows (ag rows e).children)))) {md:gw} (hm:mI md)
 (h:∀m',MH.Le m m'→Q (aL (qV rows e md)) m'):fF c d md.val Q (.ref t) (aL e) (.ref x1) (.ref x2) m:=by
 have il:(cU rows e).length≤11:=Nat.le_trans (Nat.le_trans (Nat.le_of_eq (List.length_map ..)) (List.length_filter_le ..)) W.Yt
 cases md with
 | any=>exact nQ.mk (.seq .tup (by decide) (by decide) rfl (cM.str (h m (.refl _))))
 | empty=>
   refine nQ.mk (.seq .tup (by decide) (by decide) rfl (cM.str (.seq .tup (by decide) (by decide) rfl (cM.str (bc T.choose_spec.choose_spec.me rfl (F.m 40).ok (d5 F (Nat.lt_trans (by decide) hd) T (aQ he) fun a ha=>XC (MH.set_same ..) fun m' le=>?_))))))
   have h:=h m' ((MH.Le.set ha).trans le)
   unfold qV at h
   revert h
   cases (ag rows e).children<;>exact id
 | mixed l=>
   refine nQ.mk (.seq .tup (by decide) (by decide) rfl (cM.str (.seq .tup (by decide) (by decide) rfl (cM.str (.seq .tup (by decide) (by decide) rfl (cM.str ?_))))))
   refine dx (g:=.str) (e:=.str) (f:=fun s=>!l.contains s) (.list h1) rfl (Nat.lt_of_le_of_lt il (by decide)) (fun s zz acc K hl hK=>.seq .tup (by decide) (by decide) rfl (mJ.wR (cg l) ?_)) fun b hb=>xA (MH.set_same ..) ?_ ?_
   ·cases e: !l.contains s with
    | true=>rw [e] at hK;exact dj rfl ⟨hl,hK⟩
    | false=>rw [e] at hK;exact cI rfl hK
   ·rw [List.length_map];exact Nat.lt_of_le_of_lt (Nat.le_trans (List.length_filter_le ..) il) (by decide)
   ·rw [List.length_map];exact h _ (.set hb)
 | children p=>
   refine nQ.mk (.seq .tup (by decide) (by decide) rfl (cM.str (.seq .tup (by decide) (by decide) rfl (cM.str (.seq .tup (by decide) (by decide) rfl (cM.str (xA h1 (by rw [aw,List.length_map];exact Nat.lt_of_le_of_lt il (by decide)) ⟨(F.f 26).ok,.seq .tup (by decide) (by decide) rfl fun bg OZ=>?_⟩)))))))
   have le:=MH.Le.set (o:=.list [.int 0]) OZ
   have bh:BR c (cU rows e) p.val (p.M (cU rows e)) p.E0:=(Pt.bhs F il).1 p hm.ok
   refine bh (B:=[0]) (Nat.lt_of_le_of_lt hm.dp (Nat.lt_trans (by decide) hd)) (le _ _ h1) (MH.set_same ..) ⟨List.pairwise_singleton _ _,fun y hy=>List.mem_singleton.mp hy▸Nat.zero_le _⟩ fun b m2 Z c8 hb pZ hZ=>?_
   rw [mC] at hb
   refine mJ.PX hb ix ?_
   have hc:(BP Z).contains ((aw (cU rows e)).length:Int)=uz p (cU rows e):=by
    rw [show (aw (cU rows e)).length=(cU rows e).length from List.length_map ..,Bool.eq_iff_iff,Pf,List.contains_iff_mem,mem_cast,hZ]
    exact ⟨(by rintro ⟨y,hy,r⟩;exact List.mem_singleton.mp hy▸r),fun r=>⟨0,List.mem_singleton.mpr rfl,r⟩⟩
   rw [hc]
   have h:∀m',MH.Le m2 m'→Q (aL (bif uz p (cU rows e) then (bif ((ag rows e).children.find? (eh rows)).isSome then 1 else 0) else 1)) m':=fun m' (k:MH.Le m2 m')=>h m' ((le.trans c8).trans k)
   revert h
   cases uz p (cU rows e) with
   | false=>exact fun h=>h m2 (.refl _)
   | true=>
     intro h
     have h2:=c8 _ _ (le _ _ h2)
     have tl:(BZ rows (ag rows e).children).length≤11:=Nat.le_trans (Nat.le_trans (Nat.le_of_eq (List.length_map ..)) (List.length_filter_le ..)) W.Yt
     refine Oc (g:=.str) (e:=.str) (f:=JW) (l:=BZ rows (ag rows e).children) (MH.Le m2) (.refl _) (fun m' j=>.list (j _ _ h2)) rfl (Nat.lt_of_le_of_lt tl (by decide)) (fun v hv acc m' K j ha hK=>⟨(F.f 28).ok,?_⟩) fun m' j b hb=>XC (MH.set_same ..) fun m3 kz=>?_
     ·obtain ⟨i,hi,rfl⟩:=List.mem_map.mp hv
      refine dP F (Nat.lt_trans (by decide) hd) (Pg ((W.ok i).tx (of_decide_eq_true (List.mem_filter.mp hi).2))).2 fun b m3 kz zz hb b2 rq=>cM.nil ((MH.Le.set rq) _ _ hb) (MH.set_same ..) ?_
      have hK:=hK _ ((j.trans kz).trans (.set (o:=.list []) rq))
      unfold JW at hK
      revert hK
      cases bS (ag rows i).value with
      | nil=>exact id
      | cons _ _=>exact fun hK=>⟨ha,hK⟩
     ·rw [Pk W]
      exact h m3 ((j.trans (.set hb)).trans kz)
theorem nP (F:cp c) (hD:10<D) (W:eK rows) (h0:0<rows.length) (T:bq mh t rows) (he:e<rows.length) {md:Option gw} (hm:∀m,md=some m→mI m)
 (h:∀m',MH.Le mh m'→Q (aL (cwM rows e md)) m'):aq c D "_law_content_wrong" [.ref t,aL e,(md.map gw.val).getD .none] mh Q:=by
 have X:=W.wx h0
 have me:=T.choose_spec.choose_spec.me
 have cl:(ag rows e).children.length<bw:=Nat.lt_of_le_of_lt W.Yt (by decide)
 refine (F.f 32).has.go F hD rfl qf (bc me rfl (F.m 40).ok (d5 F (by decide) T (aQ he) fun a ha=>?_))
 have l1:=MH.Le.set (o:=.list (aB (ag rows e).children)) ha
 refine dx (g:=aL) (e:=fun i=>.str (az rows i)) (f:=nU rows) (l:=(ag rows e).children) (.list (MH.set_same ..)) rfl cl (fun i hi acc K hl hK=>?_) fun x1 h1=>bc ((MH.Le.set h1) _ _ (l1 _ _ me)) rfl (F.m 40).ok (d5 F (by decide) ((T.mono l1).mono (.set h1)) (aQ he) fun a2 Xe=>?_)
 ·have wi:=(X.ch e i hi).2
  refine bc (l1 _ _ me) rfl (F.m 37).ok (sv F (by decide) (T.mono l1) (aQ wi) (cM.str ?_))
  show br (nU rows i) _ _
  cases e:nU rows i with
  | true=>rw [e] at hK;exact bc (l1 _ _ me) rfl (F.m 38).ok (eD F (by decide) (T.mono l1) (aQ wi) ⟨hl,hK⟩)
  | false=>rw [e] at hK;exact hK
 have l2:=MH.Le.set (o:=.list (((ag rows e).children.filter (nU rows)).map fun i=>Val.str (az rows i))) h1
 have l3:=MH.Le.set (o:=.list (aB (ag rows e).children)) Xe
 have T3:=T.mono (l1.trans (l2.trans l3))
 have me3:=l3 _ _ (l2 _ _ (l1 _ _ me))
 refine dx (g:=aL) (e:=fun i=>.str (ag rows i).value) (f:=qU rows) (l:=(ag rows e).children) (.list (MH.set_same ..)) rfl cl (fun i hi acc K hl hK=>?_) fun x2 h2=>?_
 ·have wi:=(X.ch e i hi).2
  refine bc me3 rfl (F.m 37).ok (sv F (by decide) T3 (aQ wi) (cM.str ?_))
  show br (qU rows i) _ _
  cases e:qU rows i with
  | true=>rw [e] at hK;exact bc me3 rfl (F.m 39).ok (mv F (by decide) T3 (aQ wi) ⟨hl,hK⟩)
  | false=>rw [e] at hK;exact hK
 have l4:=MH.Le.set (o:=.list (((ag rows e).children.filter (qU rows)).map fun i=>Val.str (ag rows i).value)) h2
 have le:=l1.trans (l2.trans (l3.trans l4))
 cases md with
 | none=>exact nQ.mk (h _ le)
 | some md=>exact Mc F (by decide) W h0 (T.mono le) he (l4 _ _ (l3 _ _ ((MH.set_same ..).trans (by rw [aw,cU,List.map_map];rfl)))) ((MH.set_same ..).trans (by rw [aw,BZ,List.map_map];rfl)) (hm md rfl) fun m' k=>h m' (le.trans k)
end
noncomputable def iB (r:cq):dB:=⟨r.kind,r.eN,r.mode,r.val⟩
noncomputable def wq (x:Str) (r:cq):Bool:=decide (r.el=x)
noncomputable def Ti (r:cq):Str×cq:=(r.nm,r)
noncomputable def iC (R:List cq) (x:Str):List (Str×cq):=(R.filter (wq x)).map Ti
noncomputable def jk (R:List cq) (x y:Str):Option cq:=(iC R x).lookup y
noncomputable def VD (root:Str) (ms:List (Str×Val)) (R:List cq):cv:=⟨root,ms,fun x=>(iC R x).map fun p=>(p.1,iB p.2)⟩
noncomputable def ES (r:cq):Bool:=(bif decide (r.mode="fixed") then (match r.val with
 | .str x=>decide (x.length<1000)
 | _=>false) else true)&&(decide (r.kind.length<1000)&&(decide (zC r.eN+r.eN.length<1000)&&(decide (r.nm.length<1000)&&A6.all fun v=>decide (BC (iB r) (eG r.kind v)=wh r v))))
structure fR (R:List cq):Prop where
 pw:R.Pairwise fun r r'=>¬(r.el=r'.el∧r.nm=r'.nm)
 ok:∀r∈R,ES r=true
 len:R.length≤8
theorem Va:(["implied","required"]:List Str).all (fun mo=>(wm mo++zS).all ES)=true:=by decide+kernel
theorem EP.k {R:List cq} (h:EP R):fR R:=by
 obtain ⟨mo,k,hmo,hk,rfl⟩:=h
 have s:(EO mo k).Sublist (wm mo++zS):=(List.drop_sublist ..).append_right _
 have pw:(wm mo++zS).Pairwise fun r r'=>¬(r.el=r'.el∧r.nm=r'.nm):=List.pairwise_map (f:=fun r:cq=>(r.el,r.nm)) (R:=fun p p'=>¬(p.1=p'.1∧p.2=p'.2)) |>.mp (show (([("a","i"),("a","r"),("b","k"),("b","n"),("b","f"),("a","w"),("b","i"),("b","r")]:List (Str×Str)).Pairwise fun r r'=>¬(r.1=r'.1∧r.2=r'.2)) from by decide:List.Pairwise (fun r r'=>¬(r.1=r'.1∧r.2=r'.2)) ((wm mo++zS).map fun r=>(r.el,r.nm)))
 exact ⟨pw.sublist s,fun r hr=>List.all_eq_true.mp (List.all_eq_true.mp Va mo hmo) r (s.subset hr),s.length_le⟩
section
variable {R:List cq} {r:cq} {root x y:Str} {ms:List (Str×Val)} {mdl:Str→Option gw}
theorem ES.f (h:ES r=true):r.mode="fixed"→∃x,r.val= .str x∧x.length<1000:=fun e=>by
 have h:=(aC h).1
 rw [decide_eq_true e] at h
 cases hv:r.val with
 | str x=>rw [hv] at h;exact ⟨x,rfl,of_decide_eq_true h⟩
 | _=>rw [hv] at h;exact iZ h
theorem ES.l (h:ES r=true):LOk r:=⟨fun e=>(by obtain ⟨x,e,_⟩:=ES.f h e;exact ⟨x,e⟩)⟩
theorem ES.ro (h:ES r=true):Et (iB r):=⟨ES.f h,of_decide_eq_true (aC (aC h).2).1,of_decide_eq_true (aC (aC (aC h).2).2).1⟩
theorem ES.n (h:ES r=true):r.nm.length<1000:=of_decide_eq_true (aC (aC (aC (aC h).2).2).2).1
theorem ES.e (h:ES r=true) {v:Str} (hv:v∈A6):BC (iB r) (eG r.kind v)=wh r v:=of_decide_eq_true (List.all_eq_true.mp (aC (aC (aC (aC h).2).2).2).2 v hv)
theorem wt {p:Str×cq} (h:p∈iC R x):p.2∈R∧p.1=p.2.nm∧p.2.el=x:=by
 obtain ⟨r,hr,rfl⟩:=List.mem_map.mp h
 exact ⟨(List.mem_filter.mp hr).1,rfl,of_decide_eq_true (List.mem_filter.mp hr).2⟩
theorem B0 (h:jk R x y=some r):r∈R:=(wt (of_lookup h)).1
theorem xW:(VD root ms R).rule x y=(jk R x y).map iB:=cY iB y _
theorem Sb:(VD root ms R).decl r.el r.nm (iB r)=VD root ms (R++[r]):=by
 refine congrArg (cv.mk root ms) (funext fun z=>?_)
 show (bif decide (z=r.el) then _ else _)=(iC (R++[r]) z).map _
 unfold iC
 rw [List.filter_append,List.map_append,List.map_append,List.filter_cons,wq]
 by_cases h:z=r.el
 ·rw [decide_eq_true h,h,decide_eq_true rfl];rfl
 ·rw [decide_eq_false h,decide_eq_false fun e=>h e.symm];exact (List.append_nil _).symm
theorem G6 (K:fR R):((iC R x).map (·.1)).Nodup:=List.pairwise_map.mpr (List.pairwise_map.mpr ((K.pw.filter _).imp_of_mem fun ha hb h e=>h ⟨(of_decide_eq_true (List.mem_filter.mp ha).2).trans (of_decide_eq_true (List.mem_filter.mp hb).2).symm,e⟩))
theorem Md {pre d9:List cq} (K:fR R) (e:R=pre++r::d9):jk pre r.el r.nm=none:=List.lookup_eq_none_iff.mpr fun p hp=>bne_iff_ne.mpr fun q=>by
 have pw:=K.pw
 rw [e] at pw
 have:=wt hp
 exact (List.pairwise_append.mp pw).2.2 p.2 this.1 r (List.mem_cons_self ..) ⟨this.2.2,this.2.1.symm.trans q.symm⟩
theorem wu (K:fR R):(iC R x).length≤8:=Nat.le_trans (Nat.le_trans (Nat.le_of_eq (List.length_map ..)) (List.length_filter_le ..)) K.len
theorem XD (K:fR R) (hm:∀x,ms.lookup x=(mdl x).map gw.val) (ho:∀x m,mdl x=some m→mI m):Xf (VD root ms R) mdl where
 mo:=hm
 sz:=fun {x p} h=>have o:qG 4 8 p:=ho x _ h;⟨Nat.le_trans o.sz (by decide),Nat.le_trans o.dp (by decide)⟩
 ro:=fun {x y r} h=>by
  rw [xW] at h
  obtain ⟨q,hq,rfl⟩:=Option.map_eq_some_iff.mp h
  exact ES.ro (K.ok q (B0 hq))
 rn:=fun x p hp=>by
  obtain ⟨q,hq,rfl⟩:=List.mem_map.mp hp
  have:=wt hq
  exact (show q.1.length<1000 from this.2.1▸ES.n (K.ok q.2 this.1))
noncomputable def sI (R:List cq) (x:Str):List (Str×Val):=(iC R x).reverse.map fun p=>(p.1,cT p.2)
theorem Sd:∀{ps es:List (Str×Val)},((es++ps).map (·.1)).Nodup→ps.foldl (fun es p=>putK p.1 p.2 es) es=es++ps:=by
 intro ps
 induction ps with
 | nil=>exact fun {es} zz=>(List.append_nil es).symm
 | cons p ps ih=>
   intro es h
   rw [List.foldl_cons,ux (List.lookup_eq_none_iff.mpr fun q hq=>bne_iff_ne.mpr fun e=>?_),ih (by rw [List.append_assoc];exact h),List.append_assoc];rfl
   rw [List.map_append] at h
   exact (List.nodup_append.mp h).2.2 q.1 (List.mem_map_of_mem (f:=(·.1)) hq) p.1 (List.mem_cons_self ..) e.symm
theorem Pm:∀{ps es:List (Str×Val)},(ps.foldl (fun es p=>putK p.1 p.2 es) es).lookup y=(ps.reverse.lookup y).or (es.lookup y):=by
 intro ps
 induction ps with
 | nil=>exact fun {es}=>rfl
 | cons p ps ih=>
   intro es
   rw [List.foldl_cons,ih,lookup_putK,List.reverse_cons,List.lookup_append,List.lookup_cons]
   by_cases e:y=p.1
   ·rw [if_pos e,e,beq_self_eq_true];cases ps.reverse.lookup p.1<;>rfl
   ·rw [if_neg e,beq_eq_false_iff_ne.mpr e,List.lookup_nil,Option.or_none]
theorem G7 (K:fR R):(sI R x).foldl (fun es p=>putK p.1 p.2 es) []=sI R x:=Sd (by
 rw [List.nil_append,sI,List.map_map,List.map_reverse]
 exact (List.reverse_perm _).nodup_iff.mpr (G6 K))
theorem Se (K:fR R):(sI R x).lookup y=(jk R x y).map cT:=by
 rw [←G7 K,Pm,List.lookup_nil,Option.or_none,sI,←List.map_reverse,List.reverse_reverse,cY];rfl
noncomputable def Sf (x:Str) (r:cq):Bool:=wq x r&&decide (r.kind=("ID":Str))
noncomputable def Vb (R:List cq) (x:Str):List cq:=(R.filter (Sf x)).take 1
noncomputable def zW (R:List cq) (rows:List aG) (e k:Nat):Bool:=match Vb R (az rows e) with
 | []=>false
 | r::_=>decide (az rows k=r.nm)
noncomputable def gx (rows:List aG) (k:Nat):List Str:=bS (ag rows k).value
noncomputable def G8 (R:List cq) (rows:List aG) (e:Nat):List Str:=(((ag rows e).attrs.filter (zW R rows e)).map (gx rows)).filterMap Ey
theorem Pn:(VD root ms R).vW x=(Vb R x).head?.map cq.nm:=by
 have e:R.filter (Sf x)=(R.filter (wq x)).filter fun r=>decide (r.kind=("ID":Str)):=by
  rw [List.filter_filter];exact List.filter_congr fun r zz=>Bool.and_comm ..
 unfold Vb cv.vW
 rw [e]
 show (((((R.filter (wq x)).map Ti).map fun p=>(p.1,iB p.2)).filter fun p=>decide (p.2.kind=("ID":Str))).map (·.1)).head? =_
 rw [List.map_map,List.filter_map,List.map_map,List.head?_map]
 show (((R.filter (wq x)).filter fun r=>decide (r.kind=("ID":Str))).head?).map cq.nm=_
 cases (R.filter (wq x)).filter fun r=>decide (r.kind=("ID":Str))<;>rfl
theorem G9 {rows:List aG} {x:Str}:∀{l:List Nat},l.Nodup→(∀k∈l,∀k'∈l,(ag rows k).name=(ag rows k').name→k=k')→l.filter (mx rows x)=(l.find? (mx rows x)).toList:=by
 intro l
 induction l with
 | nil=>exact fun zz zz=>rfl
 | cons k l ih=>
   intro hd h
   rw [List.nodup_cons] at hd
   rw [List.filter_cons,List.find?_cons]
   cases e:mx rows x k with
   | false=>exact ih hd.2 fun k hk k' xM=>h k (List.mem_cons_of_mem _ hk) k' (List.mem_cons_of_mem _ xM)
   | true=>
     rw [if_pos rfl,show l.filter (mx rows x)=[] from List.filter_eq_nil_iff.mpr fun a ha e'=>hd.1 (h k (List.mem_cons_self ..) a (List.mem_cons_of_mem _ ha) ((show (ag rows k).name=x from of_decide_eq_true e).trans (show (ag rows a).name=x from of_decide_eq_true e').symm)▸ha)];rfl
theorem Vc {rows:List aG} (W:eK rows) {e:Nat}:G8 R rows e=(qS rows (VD root ms R) e).toList:=by
 unfold G8 qS
 rw [Pn]
 unfold zW az
 cases Vb R (ag rows e).name with
 | nil=>
   show (((ag rows e).attrs.filter fun zz=>false).map (gx rows)).filterMap Ey=[]
   rw [List.filter_eq_nil_iff.mpr fun a zz (h:false=true)=>(nomatch h)];rfl
 | cons r l=>
   show (((ag rows e).attrs.filter (mx rows r.nm)).map (gx rows)).filterMap Ey=(Ov rows e r.nm).toList
   unfold Ov
   rw [G9 (show (ag rows e).attrs.Nodup from W.nd false e) fun k hk k' xM=>W.an hk xM]
   cases (ag rows e).attrs.find? (mx rows r.nm) with
   | none=>rfl
   | some k=>
     show [gx rows k].filterMap Ey=(Ey (gx rows k)).toList
     rw [List.filterMap_cons]
     cases Ey (gx rows k)<;>rfl
theorem Sg {rows:List aG} (W:eK rows):(dt rows).flatMap (G8 R rows)=GH rows (VD root ms R):=by
 unfold GH
 induction dt rows with
 | nil=>rfl
 | cons e l ih=>
   rw [List.flatMap_cons,List.filterMap_cons,Vc (root:=root) (ms:=ms) W,ih]
   cases qS rows (VD root ms R) e<;>rfl
theorem B4 {f:Nat→List Nat} {a e:Nat} {l:List Nat} (hd:l.Nodup) (he:e∈l) (h:∀x∈l,a∈f x→x=e):(l.flatMap f).count a=(f e).count a:=by
 obtain ⟨pre,d9,rfl⟩:=List.append_of_mem he
 have nd:=List.nodup_append.mp hd
 have a1:(pre.flatMap f).count a=0:=List.count_eq_zero.mpr fun k=>(by obtain ⟨x,hx,k⟩:=List.mem_flatMap.mp k;exact nd.2.2 x hx e (List.mem_cons_self ..) (h x (List.mem_append_left _ hx) k))
 have a2:(d9.flatMap f).count a=0:=List.count_eq_zero.mpr fun k=>(by obtain ⟨x,hx,k⟩:=List.mem_flatMap.mp k;exact (List.nodup_cons.mp nd.2.1).1 (h x (List.mem_append_right _ (List.mem_cons_of_mem _ hx)) k▸hx))
 rw [List.flatMap_append,List.flatMap_cons,List.count_append,List.count_append,a1,a2,Nat.zero_add,Nat.add_zero]
noncomputable def uF (rows:List aG) (V:cv) (e k:Nat):List Nat:=((eE rows V e k).filter (gv rows V)).map (·.1)
theorem JX {rows:List aG} {V:cv} {e k:Nat}:∀p∈eE rows V e k,p.1=k:=fun p hp=>by
 unfold eE at hp
 split at hp
 ·cases hp
 ·revert hp
  cases isRef r.kind with
  | false=>exact fun h=>nomatch h
  | true=>exact fun h=>(by obtain ⟨w,_,q⟩:=List.mem_map.mp h;exact q▸rfl)
theorem B6 {rows:List aG} {V:cv} {e k:Nat}:uF rows V e k=List.replicate ((eE rows V e k).filter (gv rows V)).length k:=(List.map_congr_left fun p hp=>JX p (List.mem_filter.mp hp).1).trans (List.map_const' ..)
theorem Sh {rows:List aG} {V:cv} (W:pS rows) {e k:Nat} (he:e∈dt rows) (hk:k∈(ag rows e).attrs):dk rows V k=uF rows V e k:=by
 have in1:∀{e k a},a∈uF rows V e k→a=k:=fun h=>(by obtain ⟨p,hp,q⟩:=List.mem_map.mp h;exact q▸JX p (List.mem_filter.mp hp).1)
 have e1:(pN rows V).map (·.1)=(dt rows).flatMap fun e=>(ag rows e).attrs.flatMap (uF rows V e):=by
  unfold pN Ir zF
  rw [List.map_flatMap]
  exact congrArg (List.flatMap · _) (funext fun e=>by rw [List.filter_flatMap,List.map_flatMap];rfl)
 have e2:zM (pN rows V) k=((eE rows V e k).filter (gv rows V)).length:=by
  unfold zM
  rw [e1,B4 W.Pj.2.1 he fun x zz h=>?_,B4 (show (ag rows e).attrs.Nodup from W.nd false e) hk fun x zz h=>(in1 h).symm,B6,List.count_replicate_self]
  obtain ⟨k',xM,h⟩:=List.mem_flatMap.mp h
  exact (W.un (b:=false) (b':=false) (in1 h▸xM) hk).2
 unfold dk
 rw [e2,B6]
theorem JY {rows:List aG} {e:Nat}:((iC R (az rows e)).reverse.filter fun p=>iA rows e (p.1,iB p.2)).length=(mH rows (VD root ms R) e).length:=by
 rw [List.filter_reverse,List.length_reverse,mH]
 show _=(((iC R (az rows e)).map fun p=>(p.1,iB p.2)).filter (iA rows e)).length
 rw [List.filter_map,List.length_map];rfl
theorem JZ {rows:List aG} (W:pS rows) (K:fR R):(A0 rows (VD root ms R) mdl).length<900000:=by
 have X:=W.wx
 have w11:(dt rows).length≤11:=by rw [←W.Pj.1,show fJ rows 0=_ from G5 (n:=rows.length - 0)];exact Nat.le_trans (List.length_filter_le ..) (W.toeK.xV (Nat.zero_le _))
 have bk:∀a,(dk rows (VD root ms R) a).length≤1100:=fun a=>by
  unfold dk
  rw [List.length_replicate]
  exact Nat.le_trans (Nat.le_trans List.count_le_length (Nat.le_of_eq (List.length_map ..))) (Nat.le_trans (ko fun e zz=>Nat.le_trans (List.length_filter_le ..) (p7 X.toWV e)) (Nat.mul_le_mul_right 100 w11))
 have at':∀{e tkn} {l:List Nat} {q},(l.foldl (iz rows (VD root ms R) e) (q,tkn)).1.length≤q.length+l.length:=fun {e tkn l}=>by
  induction l generalizing tkn with
  | nil=>exact fun {q}=>Nat.le_refl _
  | cons k l ih=>
    intro q
    refine Nat.le_trans ih ?_
    rw [List.length_cons,Nat.add_comm l.length,←Nat.add_assoc]
    refine Nat.add_le_add_right ?_ _
    cases (fK (VD root ms R) (az rows e) (az rows k) (ag rows k).value tkn).1 with
    | true=>exact Nat.le_of_eq List.length_append
    | false=>exact Nat.le_succ _
 have one:∀q e,(dy rows (VD root ms R) mdl q e).1.length≤q.1.length+10000:=fun q e=>by
  unfold dy zL ck
  rw [List.length_append,List.length_append,List.length_append,List.length_append,List.length_replicate,List.length_replicate,Nat.add_assoc]
  refine Nat.add_le_add_left (Nat.le_trans (Nat.add_le_add (Nat.add_le_add (?_:_≤1000) (Nat.add_le_add (?_:_≤8) (Nat.le_trans at' (Nat.le_trans (Nat.le_of_eq (Nat.zero_add _)) (W.al e))))) (Nat.le_trans (ko fun k zz=>bk k) (Nat.mul_le_mul_right 1100 (W.al e)))) (by decide)) _
  ·unfold uB
   cases mdl (az rows e) with
   | none=>exact Nat.le_of_ble_eq_true rfl
   | some md=>exact Nat.le_of_lt (GW md (Nat.lt_of_le_of_lt W.Yt (by decide)))
  ·rw [mH];exact Nat.le_trans (List.length_filter_le ..) (Nat.le_trans (Nat.le_of_eq (List.length_map ..)) (wu K))
 have all:∀{l:List Nat} {q},(l.foldl (dy rows (VD root ms R) mdl) q).1.length≤q.1.length+l.length * 10000:=fun {l}=>by
  induction l with
  | nil=>exact fun {q}=>Nat.le_add_right ..
  | cons e l ih=>
    intro q
    refine Nat.le_trans ih ?_
    rw [List.length_cons,Nat.succ_mul,Nat.add_comm (l.length * 10000),←Nat.add_assoc]
    exact Nat.add_le_add_right (one q e) _
 refine Nat.lt_of_le_of_lt all (Nat.lt_of_le_of_lt (Nat.add_le_add (?_:_≤1) (Nat.mul_le_mul_right 10000 w11)) (by decide))
 show (EH rows _).length≤1
 unfold EH
 cases pM rows with
 | none=>exact Nat.zero_le _
 | some x=>
   show (bif decide (az rows x=(VD root ms R).root) then [] else [x]).length≤1
   cases decide (az rows x=(VD root ms R).root)<;>exact Nat.le_of_ble_eq_true rfl
end
structure LC where
 m0:MH
 t:Addr
 md:Addr
 rl:Addr
 il:Addr
 tk:Addr
 rows:List aG
 R:List cq
 mdl:Str→Option gw
 root:Str
 ms:List (Str×Val)
 T:bq m0 t rows
 W:pS rows
 K:fR R
 hR:m0 rl=some (.list (R.map cT))
 hM:∃ep,m0 md=some (.ax ms ep)
 hm:∀x,ms.lookup x=(mdl x).map gw.val
 ho:∀x m,mdl x=some m→mI m
 tn:m0 tk=none
 ni:il≠tk
noncomputable abbrev LC.V (X:LC):cv:=VD X.root X.ms X.R
structure LA (X:LC) (m:MH) (tkn:List Str) (n:Nat):Prop where
 le:MH.Le X.m0 m
 ids:m X.il=some (.list (aw (GH X.rows X.V)))
 tk:∃l,m X.tk=some (.list (aw l))∧(∀x,x∈tkn↔x∈l)∧l.length≤n
abbrev Tj (X:LC):MH→MH→Prop:=Fr fun a=>a=X.tk
section
variable {X:LC} {m m' mh:MH} {tkn:List Str} {n n' k d:Nat} {c:Cfg} {e:Nat}
theorem LA.mono (C:LA X m tkn n) (h:MH.Le m m') (hn:n≤n'):LA X m' tkn n':=⟨C.le.trans h,h _ _ C.ids,(by obtain ⟨l,a,b,c⟩:=C.tk;exact ⟨l,h _ _ a,b,Nat.le_trans c hn⟩)⟩
theorem LA.ne {a:Addr} (C:LA X m tkn n) (h:m a=none):a≠X.tk:=fun e=>by obtain ⟨l,a,_⟩:=C.tk;rw [←e,h] at a;exact a8 a
theorem LA.tree (C:LA X m tkn n):bq m X.t X.rows:=X.T.mono C.le
theorem LA.tm (C:LA X m tkn n):∃L:Addr,m X.t=some (.inst "Tree" [("rows",.ref L)]):=⟨_,C.tree.choose_spec.choose_spec.me⟩
noncomputable def sJ (lr:Option cq) (v:Str) (tkn:List Str):Bool×List Str:=match lr with
 | none=>(true,tkn)
 | some r=>zK (iB r) (eG r.kind v) tkn
theorem Po {x y v:Str}:fK X.V x y v tkn=sJ (jk X.R x y) v tkn:=by
 unfold fK
 rw [xW]
 cases jk X.R x y<;>rfl
noncomputable def qZ (b:Bool) (k:Nat):List Nat:=bif b then [k] else []
theorem uG {K:aE} {bW bF bH bI bJ bK bR bZ bL cB bO bU bP eB cK:Val} {bM bN t5:Option Val} {fb:Addr} {F:List Nat} {b:Bool} (hf:m fb=some (.list (aB F))) (hl:(F++qZ b k).length<bw)
 (h:∀iY m',MH.Le m m'→m iY=none→m' iY=some (.list (aB (F++qZ b k)))→K none [some bW,some bF,some bH,some bI,some bJ,some bK,some (.ref iY),some bR,some bZ,some bL,some cB,bM,some (aL k),bN,some bO,some bU,some bP,some eB,some cK,t5,some (.bool b)] m'):
 gM (aL k) K bW bF bH bI bJ bK bR bZ bL cB bM bN bO bU bP eB cK (.ref fb) t5 (.bool b) m:=du fun b1 m1 n1 l1 h1=>by
 have go:∀l:List Nat,(F++l).length<bw→(∀iY m',MH.Le m m'→m iY=none→m' iY=some (.list (aB (F++l)))→K none [some bW,some bF,some bH,some bI,some bJ,some bK,some (.ref iY),some bR,some bZ,some bL,some cB,bM,some (aL k),bN,some bO,some bU,some bP,some eB,some cK,t5,some (.bool b)] m')→
  aH m1 (.list (aB l)) (fun x m=>aY m (t4 K bW bF bH bI bJ bK bR bZ bL cB bM (aL k) bN bO bU bP eB cK t5 (.bool b)) .Add (.ref fb) x):=fun l hl h=>du fun b2 m2 n2 l2 h2=>.fY (l2 _ _ (l1 _ _ hf)) h2 (by rw [bt,bt,←List.length_append];exact hl) (du fun b3 m3 n3 l3 h3=>h b3 m3 (l1.trans (l2.trans l3)) (l1.none (l2.none n3)) (h3.trans (by rw [c9])))
 cases b with
 | true=>exact .Mv (.mulL h1 (by decide) (Nat.le_of_ble_eq_true rfl |> Int.ofNat_lt.mpr) (by decide) (go [k] hl h))
 | false=>exact .Mv (.mulL h1 (by decide) (Nat.le_of_ble_eq_true rfl |> Int.ofNat_lt.mpr) (by decide) (go [] hl h))
theorem XE (F:cp c) (hd:1<d) (C:LA X m tkn n) (hn:n<900000) {lr:Option cq} (VM:∀r,lr=some r→r∈X.R) {v:Str} (hv:v∈A6) {K:aE} {bF bH bI bJ bK bR bL bO bU bP:Val} {bM bN di:Option Val} {bl fb:Addr} {B G:List Nat}
 (hb:m bl=some (.list (aB B))) (nb:bl≠X.tk) (hf:m fb=some (.list (aB G))) (nf:fb≠X.tk) (hl:(G++qZ (sJ lr v tkn).1 k).length<bw)
 (h:∀m' iY t5 Pp,LA X m' (sJ lr v tkn).2 (n+1)→Tj X m m'→m' iY=some (.list (aB (G++qZ (sJ lr v tkn).1 k)))→iY≠X.tk→m' bl=some (.list (aB B))→
  K none [some (.ref X.t),some bF,some bH,some bI,some bJ,some bK,some (.ref iY),some bR,some (.ref X.tk),some bL,some ((lr.map cT).getD .none),bM,some (aL k),bN,some bO,some bU,some bP,some (.ref bl),some (.str v),t5,Pp] m'):
 gN c d ((lr.map cT).getD .none) (.str v) (.ref X.tk) (aL k) K (.ref X.t) bF bH bI bJ bK bR bL bM bN bO bU bP (.ref fb) di (.ref bl) m:=by
 cases lr with
 | none=>exact nQ.mk (.mk (.mk (uG hf hl fun iY m' le wy Me=>h m' iY _ _ (C.mono le (Nat.le_succ n)) (.of_le le) Me (C.ne wy) (le _ _ hb))))
 | some r=>
   have K0:=X.K.ok r (VM r rfl)
   have vk:=sH hv
   refine nQ.mk (.mk ⟨(F.f 29).ok,EK F hd (ES.l K0) vk.1 vk.2 fun m2 c8=>.mk (.mk ?_)⟩)
   have C2:=C.mono c8 (Nat.le_succ n)
   have e1:sJ (some r) v tkn=bif wh r v then (bif decide (r.kind="ID") then (bif tkn.contains (eG r.kind v) then (true,tkn) else (false,tkn++[eG r.kind v])) else (false,tkn)) else (true,tkn):=by
    show zK (iB r) (eG r.kind v) tkn=_
    unfold zK
    rw [ES.e K0 hv];rfl
   have H:=And.intro hl h
   clear hl h
   rw [e1] at H
   revert H
   cases hft:wh r v with
   | false=>exact fun ⟨hl,h⟩=>uG (b:=true) (c8 _ _ hf) hl fun iY m' le wy Me=>h m' iY _ _ (C2.mono le (Nat.le_refl _)) (.of_le (c8.trans le)) Me (C2.ne wy) (le _ _ (c8 _ _ hb))
   | true=>
     intro H
     refine .seq .tup (by decide) (by decide) rfl (cM.str ?_)
     revert H
     cases Ym:decide (r.kind="ID") with
     | false=>exact fun ⟨hl,h⟩=>uG (b:=false) (c8 _ _ hf) hl fun iY m' le wy Me=>h m' iY _ _ (C2.mono le (Nat.le_refl _)) (.of_le (c8.trans le)) Me (C2.ne wy) (le _ _ (c8 _ _ hb))
     | true=>
       intro H
       have enm:eG r.kind v=fH v:=by rw [of_decide_eq_true Ym];exact if_neg (by decide)
       rw [enm] at H
       refine .str rfl ⟨(F.f 28).ok,dP F (Nat.lt_trans (by decide) hd) vk.1 fun wl m3 kz zz hw=>JF (d:=0) (.list hw) (cC.l (eV.g vk.1)) fun zz=>?_⟩
       obtain ⟨l,ht,hx,hln⟩:=C.tk
       have ht3:=kz _ _ (c8 _ _ ht)
       refine mJ.J4 ht3 (cg l) (je ht3 (by rw [aw,List.length_map];exact Nat.lt_of_le_of_lt hln (Nat.lt_trans hn (by decide))) ?_)
       show gM (aL k) K (.ref X.t) bF bH bI bJ bK bR (.ref X.tk) bL (cT r) bM bN bO bU bP (.ref bl) (.str v) (.ref fb) (some (.str (fH v))) (.bool (l.contains (fH v))) _
       have ec:tkn.contains (fH v)=l.contains (fH v):=by rw [Bool.eq_iff_iff,List.contains_iff_mem,List.contains_iff_mem];exact hx _
       have fA:Tj X m (m3.set X.tk (.list (aw l++[.str (fH v)]))):=(Fr.of_le (c8.trans kz)).set (.inl rfl)
       have at':∀l',(∀x,x∈l'↔x∈l++[fH v])→LA X (m3.set X.tk (.list (aw l++[.str (fH v)]))) l' (n+1):=fun l' e=>⟨(C.le.trans (c8.trans kz)).ir X.tn,(MH.ae _ _ X.ni).trans (kz _ _ (c8 _ _ C.ids)),l++[fH v],by rw [MH.set_same,aw,aw,List.map_append];rfl,e,by rw [List.length_append];exact Nat.succ_le_succ hln⟩
       rw [ec] at H
       revert H
       cases hc:l.contains (fH v) with
       | true=>
         have hm:=List.contains_iff_mem.mp hc
         exact fun ⟨hl,h⟩=>uG (b:=true) (fA.keep nf hf) hl fun iY m' le wy Me=>have A:=at' tkn fun x=>(hx x).trans ⟨List.mem_append_left _,fun q=>(List.mem_append.mp q).elim id fun q=>List.mem_singleton.mp q▸hm⟩
          h m' iY _ _ (A.mono le (Nat.le_refl _)) (fA.tr (.of_le le)) Me (A.ne wy) (le _ _ (fA.keep nb hb))
       | false=>exact fun ⟨hl,h⟩=>uG (b:=false) (fA.keep nf hf) hl fun iY m' le wy Me=>have A:=at' (tkn++[fH v]) (fun x=>by rw [List.mem_append,List.mem_append,hx]);h m' iY _ _ (A.mono le (Nat.le_refl _)) (fA.tr (.of_le le)) Me (A.ne wy) (le _ _ (fA.keep nb hb))
theorem Vd (F:cp c) (hd:1<d) (C:LA X m tkn n) (hn:n<900000) (hk:k∈(ag X.rows e).attrs) {ow bl fb:Addr} {ep:Nat} (how:m ow=some (.ax (sI X.R (az X.rows e)) ep)) {K:aE} {bF bH bI bJ bK bL bO bP:Val} {bM bN di:Option Val} {B G:List Nat}
 (hb:m bl=some (.list (aB B))) (nb:bl≠X.tk) (hf:m fb=some (.list (aB G))) (nf:fb≠X.tk) (hl:(G++qZ (fK X.V (az X.rows e) (az X.rows k) (ag X.rows k).value tkn).1 k).length<bw) (Mf:(B++uF X.rows X.V e k).length<bw)
 (h:∀m' iY Hc o1 o2 t5 Pp,LA X m' (fK X.V (az X.rows e) (az X.rows k) (ag X.rows k).value tkn).2 (n+1)→Tj X m m'→m' iY=some (.list (aB (G++qZ (fK X.V (az X.rows e) (az X.rows k) (ag X.rows k).value tkn).1 k)))→iY≠X.tk→m' Hc=some (.list (aB (B++uF X.rows X.V e k)))→Hc≠X.tk→
  K none [some (.ref X.t),some bF,some bH,some bI,some bJ,some bK,some (.ref iY),some (.ref X.il),some (.ref X.tk),some bL,o1,bM,some (aL k),bN,some bO,some (.ref ow),some bP,some (.ref Hc),o2,t5,Pp] m'):
 t9 c d (.ref X.t) (.ref ow) (.ref X.il) (.ref X.tk) bF bH bI bJ bK bL bM bN bO bP (.ref fb) di (.ref bl) (aL k) m K:=by
 have hv:(ag X.rows k).value∈A6:=X.W.val hk
 have XF:=(X.W.lt (b:=false) hk).2
 obtain ⟨L,mt⟩:=C.tm
 rw [Po] at hl h
 refine .ax how (bc mt rfl (F.m 38).ok (eD F hd C.tree (aQ XF) (.one (.str how) (bc mt rfl (F.m 39).ok (mv F hd C.tree (aQ XF) (.mk (nQ.mk ?_)))))))
 rw [Se X.K,show jk X.R (az X.rows e) (ag X.rows k).name=jk X.R (az X.rows e) (az X.rows k) from rfl]
 have VM:∀r,jk X.R (az X.rows e) (az X.rows k)=some r→r∈X.R:=fun r h=>B0 h
 have e1:eE X.rows X.V e k=match (jk X.R (az X.rows e) (az X.rows k)).map iB with
  | none=>[]
  | some r=>bif isRef r.kind then (bS (ag X.rows k).value).map fun w=>(k,w) else []:=by unfold eE;rw [xW];rfl
 unfold uF at Mf h
 have H:=And.intro Mf h
 clear Mf h
 rw [e1] at H
 have fin:∀m' Hc (B':List Nat),MH.Le m m'→Hc≠X.tk→m' Hc=some (.list (aB B'))→(∀m' iY Hc o1 o2 t5 Pp,LA X m' (sJ (jk X.R (az X.rows e) (az X.rows k)) (ag X.rows k).value tkn).2 (n+1)→Tj X m m'→m' iY=some (.list (aB (G++qZ (sJ (jk X.R (az X.rows e) (az X.rows k)) (ag X.rows k).value tkn).1 k)))→iY≠X.tk→m' Hc=some (.list (aB B'))→Hc≠X.tk→
  K none [some (.ref X.t),some bF,some bH,some bI,some bJ,some bK,some (.ref iY),some (.ref X.il),some (.ref X.tk),some bL,o1,bM,some (aL k),bN,some bO,some (.ref ow),some bP,some (.ref Hc),o2,t5,Pp] m')→
  gN c d (((jk X.R (az X.rows e) (az X.rows k)).map cT).getD .none) (.str (ag X.rows k).value) (.ref X.tk) (aL k) K (.ref X.t) bF bH bI bJ bK (.ref X.il) bL bM bN bO (.ref ow) bP (.ref fb) di (.ref Hc) m':=fun m' Hc B' le VN EV h=>
  XE F hd (C.mono le (Nat.le_refl _)) hn VM hv EV VN (le _ _ hf) nf hl fun m2 fb2 o1 o2 C2 mG Y5 nf2 rq=>h m2 fb2 Hc _ _ o1 o2 C2 ((Fr.of_le le).tr mG) Y5 nf2 rq VN
 clear e1
 revert H VM fin
 cases jk X.R (az X.rows e) (az X.rows k) with
 | none=>exact (by rintro VM ⟨Mf,h⟩ fin;exact fin m bl B (.refl _) nb hb (by rw [show B=B++[] from (List.append_nil B).symm];exact h))
 | some r=>
   rintro VM ⟨Mf,h⟩ fin
   refine .seq .tup (by decide) (by decide) rfl (du fun b1 m1 zz l1 h1=>mJ.J4 (xs:=["IDREF","IDREFS"]) h1 rfl ?_)
   have Mf:(B++((bif isRef r.kind then (bS (ag X.rows k).value).map fun w=>(k,w) else []).filter (gv X.rows X.V)).map (·.1)).length<bw:=Mf
   have fin:=fun m' Hc le VN EV=>fin m' Hc (B++((bif isRef r.kind then (bS (ag X.rows k).value).map fun w=>(k,w) else []).filter (gv X.rows X.V)).map (·.1)) le VN EV h
   clear h
   revert Mf fin
   show _→_→br (isRef r.kind) _ _
   cases isRef r.kind with
   | false=>exact fun Mf fin=>fin m1 bl l1 nb (by rw [show ((bif false then (bS (ag X.rows k).value).map fun w=>(k,w) else []).filter (gv X.rows X.V)).map (·.1)=[] from rfl,List.append_nil];exact l1 _ _ hb)
   | true=>
     intro Mf fin
     have eb:(((bS (ag X.rows k).value).map fun w=>(k,w)).filter (gv X.rows X.V)).map (·.1)=((bS (ag X.rows k).value).filter fun w=>!(GH X.rows X.V).contains w).map fun zz=>k:=by rw [List.filter_map,List.map_map];rfl
     rw [cond_true,eb] at Mf fin
     have g:=eV.g (sH hv).1
     refine ⟨(F.f 28).ok,dP F (Nat.lt_trans (by decide) hd) (sH hv).1 fun wl m2 l2 zz hw=>dx (g:=.str) (e:=fun zz=>aL k) (f:=fun w=>!(GH X.rows X.V).contains w) (.list hw) rfl (Nat.lt_trans (cC.n g) (by decide)) (fun w zz acc K' ha hK=>mJ.J4 (l2 _ _ (l1 _ _ C.ids)) (cg _) ?_) (du fun b3 m3 n3 l3 h3=>.fY (l3 _ _ (l2 _ _ (l1 _ _ hb))) h3 ?_ (du fun b4 m4 n4 l4 h4=>?_))⟩
     ·cases h: !(GH X.rows X.V).contains w with
      | true=>rw [h] at hK;exact dj rfl ⟨ha,hK⟩
      | false=>rw [h] at hK;exact cI rfl hK
     ·rw [bt,List.length_map];rw [List.length_append,List.length_map] at Mf;exact Mf
     ·exact fin m4 b4 (l1.trans (l2.trans (l3.trans l4))) (C.ne (l1.none (l2.none (l3.none n4)))) (h4.trans (by rw [←c9,aB,aB,List.map_map];rfl))
end
section
variable {X:LC} {m m' mh:MH} {tkn:List Str} {n n' k d:Nat} {c:Cfg} {e:Nat}
theorem LC.ol (X:LC) {x:Str}:((iC X.R x).reverse.map (·.1)).Nodup:=by rw [List.map_reverse];exact (List.reverse_perm _).nodup_iff.mpr (G6 X.K)
theorem Pq:∀{l:List (Str×Val)},pairsOf (l.map fun p=>.tup [.str p.1,p.2])=some l:=by
 intro l
 induction l with
 | nil=>rfl
 | cons p l ih=>show (pairsOf (l.map fun p=>Val.tup [.str p.1,p.2])).map ((p.1,p.2)::·)=_;rw [ih];rfl
theorem Si (F:cp c) (hd:1<d) (C:LA X m tkn n) (he:e<X.rows.length) {K:aE} {gj gk iD AQ:Val} {kZ jQ lg js lh lj dG:Option Val}
 (h:∀m' ow ep,MH.Le m m'→m' ow=some (.ax (sI X.R (az X.rows e)) ep)→lA c d (.ref X.t) (aL e) (.ref X.md) gj gk (.ref X.rl) iD (.ref X.il) (.ref X.tk) kZ jQ lg js lh lj dG K AQ (.str (az X.rows e)) (.ref ow) m'):
 lB c d (.ref X.t) (.ref X.md) gj gk (.ref X.rl) iD (.ref X.il) (.ref X.tk) kZ jQ lg js lh lj dG AQ (aL e) m K:=by
 obtain ⟨L,mt⟩:=C.tm
 have rl:(X.R.map cT).length<bw:=by rw [List.length_map];exact Nat.lt_of_le_of_lt X.K.len (by decide)
 refine bc mt rfl (F.m 38).ok (eD F hd C.tree (aQ he) (.mk (.rev (C.le _ _ X.hR) rl (du fun b1 m1 zz l1 h1=>?_))))
 refine dx (g:=cT) (e:=fun r=>.tup [.str r.nm,cT r]) (f:=wq (az X.rows e)) (l:=X.R.reverse) (.list h1) List.map_reverse.symm (by rw [List.length_reverse];exact Nat.lt_of_le_of_lt X.K.len (by decide)) (fun r zz acc K' ha hK=>.seq .tup (by decide) (by decide) rfl (bc (l1 _ _ mt) rfl (F.m 38).ok (eD F hd (C.tree.mono l1) (aQ he) (cM.str ?_)))) ?_
 ·show br (wq (az X.rows e) r) _ _
  cases h:wq (az X.rows e) r with
  | true=>rw [h] at hK;exact .seq .tup (by decide) (by decide) rfl ⟨ha,hK⟩
  | false=>rw [h] at hK;exact hK
 ·have eo:(X.R.reverse.filter (wq (az X.rows e))).map (fun r=>Val.tup [.str r.nm,cT r])=(sI X.R (az X.rows e)).map fun p=>.tup [.str p.1,p.2]:=by
   rw [List.filter_reverse,sI,iC,←List.map_reverse,List.map_map,List.map_map];rfl
  rw [eo]
  refine .mk Pq ?_ fun ep=>?_
  ·rw [List.length_map,sI,List.length_map,List.length_reverse];exact Nat.lt_of_le_of_lt (wu X.K) (by decide)
  ·rw [G7 X.K]
   exact du fun ow m2 zz l2 h2=>.mk (h m2 ow ep (l1.trans l2) h2)
theorem Mg {n e:Nat}:(List.replicate n [aL e]).flatten=aB (List.replicate n e):=by
 induction n with
 | zero=>rfl
 | succ n ih=>rw [List.replicate_succ,List.flatten_cons,ih];rfl
theorem Hd {Q:VQ} {a fb:Addr} {G:List Nat} {k:Nat} (ha:m a=some (.list [aL e])) (hf:m fb=some (.list (aB G))) (hl:(G++List.replicate k e).length<900000) (h:∀z m',MH.Le m m'→m z=none→m' z=some (.list (aB (G++List.replicate k e)))→Q (.ref z) m'):
 aY m (fun x m=>aY m Q .Add (.ref fb) x) .Mult (.ref a) (aL k):=by
 have hl0:=hl
 rw [List.length_append,List.length_replicate] at hl
 have hk:k<bw:=Nat.lt_of_le_of_lt (Nat.le_add_left ..) (Nat.lt_trans hl (by decide))
 refine .mulL ha (Int.natCast_nonneg k) (by rw [show (([aL e]:List Val).length:Int)=1 from rfl,Int.mul_one];exact fU hk) (fU hk) ?_
 rw [Int.toNat_natCast,Mg]
 refine du fun b2 m2 n2 l2 h2=>.fY (l2 _ _ hf) h2 (by rw [bt,bt,←List.length_append];exact Nat.lt_trans hl0 (by decide)) (du fun z m3 n3 l3 h3=>h z m3 (l2.trans l3) (l2.none n3) (h3.trans (by rw [c9])))
theorem XG:cwM X.rows e (X.mdl (az X.rows e))=uB X.rows X.mdl e:=by unfold uB cwM;cases X.mdl (az X.rows e)<;>rfl
theorem Sj (F:cp c) (hd:10<d) (C:LA X m tkn n) (he:e<X.rows.length) {ow fb:Addr} {ep:Nat} (how:m ow=some (.ax (sI X.R (az X.rows e)) ep)) {G:List Nat} (hf:m fb=some (.list (aB G))) {K:aE} {gj gk iD:Val} {kZ jQ lg js lh lj dG:Option Val}
 (hl:(G++List.replicate (uB X.rows X.mdl e) e++List.replicate (mH X.rows X.V e).length e).length<900000)
 (h:∀m' iY gc,MH.Le m m'→m iY=none→m' iY=some (.list (aB (G++List.replicate (uB X.rows X.mdl e) e++List.replicate (mH X.rows X.V e).length e)))→lu c d (.ref X.t) (aL e) gj gk (.ref X.md) (.ref X.rl) iD (.ref X.il) (.ref X.tk) kZ jQ lg js (.str (az X.rows e)) (.ref ow) gc lh lj dG K (.ref iY) m'):
 lA c d (.ref X.t) (aL e) (.ref X.md) gj gk (.ref X.rl) iD (.ref X.il) (.ref X.tk) kZ jQ lg js lh lj dG K (.ref fb) (.str (az X.rows e)) (.ref ow) m:=by
 obtain ⟨L,mt⟩:=C.tm
 obtain ⟨em,hM⟩:=X.hM
 have al:=X.W.al e
 refine bc mt rfl (F.m 41).ok (dK F (Nat.lt_trans (by decide) hd) C.tree (aQ he) (du fun b1 m1 zz l1 h1=>?_))
 refine xT (g:=aL) (e:=fun i=>.str (az X.rows i)) (l:=(ag X.rows e).attrs) (.list h1) rfl (Nat.lt_of_le_of_lt al (by decide)) (fun i hi acc K' ha hK=>bc (l1 _ _ mt) rfl (F.m 38).ok (eD F (Nat.lt_trans (by decide) hd) (C.tree.mono l1) (aQ (X.W.lt (b:=false) hi).2) ⟨ha,hK⟩)) (du fun th m2 zz l2 h2=>du fun b3 m3 zz l3 h3=>⟨(F.f 32).ok,?_⟩)
 have h2:m2 th=some (.list (aw (mz X.rows e))):=h2.trans (by rw [aw,mz,List.map_map];rfl)
 have kz:=l1.trans (l2.trans l3)
 have C3:=C.mono kz (Nat.le_refl _)
 refine Rw (C3.le _ _ hM) ?_
 rw [X.hm]
 refine nP F hd X.W.toeK (Nat.lt_trans (by decide) X.W.n3) C3.tree he (X.ho _) fun m4 l4=>?_
 rw [XG]
 refine Hd (l4 _ _ h3) (l4 _ _ (kz _ _ hf)) (Nat.lt_of_le_of_lt jg hl) fun f1 m5 l5 zz h5=>du fun b6 m6 zz l6 h6=>?_
 have RM:=kz.trans (l4.trans (l5.trans l6))
 have ho6:=RM _ _ how
 have Xj:=l6 _ _ (l5 _ _ (l4 _ _ (l3 _ _ h2)))
 have nd:((sI X.R (az X.rows e)).map (·.1)).Nodup:=by rw [sI,List.map_map];exact X.ol
 refine dx (g:=fun p=>.str p.1) (e:=fun p=>.str p.1) (f:=fun p=>iA X.rows e (p.1,iB p.2)) (l:=(iC X.R (az X.rows e)).reverse) (.ax ho6) (by rw [sI,List.map_map];rfl) (by rw [List.length_reverse];exact Nat.lt_of_le_of_lt (wu X.K) (by decide)) (fun p hp acc K' ha hK=>.ax ho6 (lookup_mem (p:=(p.1,cT p.2)) nd (List.mem_map.mpr ⟨p,hp,rfl⟩)) (.seq .tup (by decide) (by decide) rfl (cM.str ?_))) (du fun b7 m7 zz l7 h7=>xA h7 ?_ ?_)
 ·unfold iA at hK
  have hK:K' (bif decide (p.2.mode="required")&& !(mz X.rows e).contains p.1 then acc++[.str p.1] else acc) m6:=hK
  revert hK
  cases decide (p.2.mode="required") with
  | false=>exact id
  | true=>
    intro hK
    refine mJ.J4 Xj (cg _) ?_
    revert hK
    show K' (bif !(mz X.rows e).contains p.1 then _ else _) _→br (!(mz X.rows e).contains p.1) _ _
    cases !(mz X.rows e).contains p.1 with
    | true=>exact fun hK=>⟨ha,hK⟩
    | false=>exact id
 ·rw [List.length_map,JY (root:=X.root) (ms:=X.ms)];rw [List.length_append,List.length_replicate] at hl;exact Nat.lt_of_le_of_lt (Nat.le_add_left ..) (Nat.lt_trans hl (by decide))
 ·rw [List.length_map,JY (root:=X.root) (ms:=X.ms)]
  exact Hd (l7 _ _ h6) (l7 _ _ (l6 _ _ h5)) hl fun f2 m8 l8 n8 h8=>h m8 f2 _ (RM.trans (l7.trans l8)) (RM.none (l7.none n8)) h8
theorem Pr {V:cv} {rows:List aG}:∀{l:List Nat} {q:List Nat×List Str},(l.foldl (iz rows V e) q).1.length≤q.1.length+l.length:=by
 intro l
 induction l with
 | nil=>exact fun {q}=>Nat.le_refl _
 | cons k l ih=>
   intro q
   refine Nat.le_trans ih ?_
   rw [List.length_cons,Nat.add_comm l.length,←Nat.add_assoc]
   refine Nat.add_le_add_right ?_ _
   show (bif (fK V (az rows e) (az rows k) (ag rows k).value q.2).1 then q.1++[k] else q.1).length≤_
   cases (fK V (az rows e) (az rows k) (ag rows k).value q.2).1 with
   | true=>exact Nat.le_of_eq List.length_append
   | false=>exact Nat.le_succ _
theorem IY {V:cv} {rows:List aG} {pre:List Nat}:ck rows V e tkn (pre++[k])=((ck rows V e tkn pre).1++qZ (fK V (az rows e) (az rows k) (ag rows k).value (ck rows V e tkn pre).2).1 k,(fK V (az rows e) (az rows k) (ag rows k).value (ck rows V e tkn pre).2).2):=by
 refine (List.foldl_append ..).trans ?_
 show iz rows V e (ck rows V e tkn pre) k=_
 unfold iz qZ
 cases (fK V (az rows e) (az rows k) (ag rows k).value (ck rows V e tkn pre).2).1 with
 | true=>rfl
 | false=>rw [cond_false,cond_false,List.append_nil]
theorem Sk (F:cp c) (hd:1<d) (C:LA X m tkn n) (hn:n<800000) (he:e∈dt X.rows) {ow fb:Addr} {ep:Nat} (how:m ow=some (.ax (sI X.R (az X.rows e)) ep)) {G:List Nat} (hf:m fb=some (.list (aB G))) (nf:fb≠X.tk) {K:aE} {gj gk iD gc:Val} {kZ jQ lg js lh lj dG:Option Val}
 (hl:(G++(ck X.rows X.V e tkn (ag X.rows e).attrs).1++(ag X.rows e).attrs.flatMap (dk X.rows X.V)).length<900000)
 (h:∀m' iY o1 o2 bl o4 o5 o6,LA X m' (ck X.rows X.V e tkn (ag X.rows e).attrs).2 (n+7)→Tj X m m'→iY≠X.tk→m' iY=some (.list (aB (G++(ck X.rows X.V e tkn (ag X.rows e).attrs).1++(ag X.rows e).attrs.flatMap (dk X.rows X.V))))→
  K none [some (.ref X.t),some gj,some gk,some (.ref X.md),some (.ref X.rl),some iD,some (.ref iY),some (.ref X.il),some (.ref X.tk),some (aL e),o1,jQ,o2,js,some (.str (az X.rows e)),some (.ref ow),some gc,some (.ref bl),o4,o5,o6] m'):
 lu c d (.ref X.t) (aL e) gj gk (.ref X.md) (.ref X.rl) iD (.ref X.il) (.ref X.tk) kZ jQ lg js (.str (az X.rows e)) (.ref ow) gc lh lj dG K (.ref fb) m:=du fun bl0 m1 n1 l1 h1=>by
 obtain ⟨L,mt⟩:=C.tm
 have Yu:=(km X.W.wx.toWF e he).1
 have al:=X.W.al e
 have C1:=C.mono l1 (Nat.le_refl _)
 refine bc (l1 _ _ mt) rfl (F.m 41).ok (dK F hd C1.tree (aQ Yu) (du fun la m2 n2 l2 h2=>?_))
 have C2:=C1.mono l2 (Nat.le_refl _)
 have how2:=l2 _ _ (l1 _ _ how)
 have owT:ow≠X.tk:=fun q=>by obtain ⟨l,a,_⟩:=C.tk;rw [←q,how] at a;cases a
 refine jy (g:=aL) (l:=(ag X.rows e).attrs) (fun j:Addr×Option Val×Option Val×Addr×Option Val×Option Val×Option Val=>[some (.ref X.t),some gj,some gk,some (.ref X.md),some (.ref X.rl),some iD,some (.ref j.1),some (.ref X.il),some (.ref X.tk),some (aL e),j.2.1,jQ,j.2.2.1,js,some (.str (az X.rows e)),some (.ref ow),some gc,some (.ref j.2.2.2.1),j.2.2.2.2.1,j.2.2.2.2.2.1,j.2.2.2.2.2.2])
  (fun pre j m=>LA X m (ck X.rows X.V e tkn pre).2 (n+pre.length)∧Tj X m2 m∧(m j.1=some (.list (aB (G++(ck X.rows X.V e tkn pre).1)))∧j.1≠X.tk)∧m j.2.2.2.1=some (.list (aB (pre.flatMap (dk X.rows X.V))))∧j.2.2.2.1≠X.tk) (fb,kZ,lg,bl0,lh,lj,dG) rfl rfl (fun zz zz zz I=>.list (I.2.1.keep (C1.ne n2) h2)) (fun pre k d9 j m3 K' e1 I hK zz=>?_)
  ⟨C2,.refl,⟨(l2 _ _ (l1 _ _ hf)).trans (by rw [show (ck X.rows X.V e tkn []).1=[] from rfl,List.append_nil]),nf⟩,l2 _ _ h1,C.ne n1⟩ fun j m3 I=>?_
 ·obtain ⟨C3,fr,⟨S0,Yv⟩,Mq,nb3⟩:=I
  have hk:k∈(ag X.rows e).attrs:=qD e1
  have ep:=IY (V:=X.V) (rows:=X.rows) (e:=e) (tkn:=tkn) (k:=k) (pre:=pre)
  have eb:∀l:List Nat,(l++[k]).flatMap (dk X.rows X.V)=l.flatMap (dk X.rows X.V)++uF X.rows X.V e k:=fun l=>by rw [List.flatMap_append,List.flatMap_cons,List.flatMap_nil,List.append_nil,Sh X.W he hk]
  have lp:=Nat.lt_of_lt_of_le (ur e1) al
  have bG:(G++(ck X.rows X.V e tkn pre).1++qZ (fK X.V (az X.rows e) (az X.rows k) (ag X.rows k).value (ck X.rows X.V e tkn pre).2).1 k).length<bw:=by
   have h1:(ck X.rows X.V e tkn (pre++[k])).1.length≤0+(pre++[k]).length:=Pr (q:=([],tkn))
   rw [ep,Nat.zero_add,List.length_append (bs:=[k])] at h1
   rw [List.append_assoc,List.length_append]
   exact Nat.lt_of_lt_of_le (Nat.add_lt_add_of_lt_of_le (Nat.lt_of_le_of_lt (Nat.le_trans jg jg) hl) (Nat.le_trans h1 lp)) (by decide)
  have bB:(pre.flatMap (dk X.rows X.V)++uF X.rows X.V e k).length<bw:=by
   rw [List.length_append] at hl
   have hl:=Nat.lt_of_le_of_lt (Nat.le_add_left ..) hl
   rw [e1,List.append_cons,List.flatMap_append,eb] at hl
   exact Nat.lt_trans (Nat.lt_of_le_of_lt jg hl) (by decide)
  refine Ee.mpr (Vd F hd C3 (Nat.lt_trans (Nat.add_lt_add hn (Nat.lt_of_lt_of_le lp (Nat.le_refl 7))) (by decide)) hk (fr.keep owT how2) Mq nb3 S0 Yv bG bB fun m' iY Hc o1 o2 o5 o6 C' Xo Me nf' EV VN=>hK (iY,o1,some (aL k),Hc,o2,o5,o6) m' ?_)
  rw [ep,eb,←List.append_assoc,List.length_append]
  exact ⟨C',fr.tr Xo,⟨Me,nf'⟩,EV,VN⟩
 ·obtain ⟨C3,fr,⟨S0,Yv⟩,Mq,nb3⟩:=I
  refine Ef.mpr (.fY S0 Mq (by rw [bt,bt,←List.length_append];exact Nat.lt_trans hl (by decide)) (du fun z m4 n4 l4 h4=>h m4 z _ _ j.2.2.2.1 _ _ _ (C3.mono l4 (Nat.add_le_add_left al n)) (((Fr.of_le (l1.trans l2)).tr fr).tr (.of_le l4)) (C3.ne n4) (h4.trans (by rw [c9]))))
theorem Ve (F:cp c) (hd:10<d) (C:LA X m tkn n) (hn:n<800000) (he:e∈dt X.rows) {fb:Addr} {G:List Nat} (hf:m fb=some (.list (aB G))) (nf:fb≠X.tk) {K:aE} {gj gk iD:Val} {kZ jQ lg js lh lj dG:Option Val} (hl:(dy X.rows X.V X.mdl (G,tkn) e).1.length<900000)
 (h:∀m' iY o1 o2 o3 o4 o5 o6 o7 o8 o9,LA X m' (dy X.rows X.V X.mdl (G,tkn) e).2 (n+7)→Tj X m m'→iY≠X.tk→m' iY=some (.list (aB (dy X.rows X.V X.mdl (G,tkn) e).1))→
  K none [some (.ref X.t),some gj,some gk,some (.ref X.md),some (.ref X.rl),some iD,some (.ref iY),some (.ref X.il),some (.ref X.tk),some (aL e),o1,jQ,o2,js,o3,o4,o5,o6,o7,o8,o9] m'):
 lB c d (.ref X.t) (.ref X.md) gj gk (.ref X.rl) iD (.ref X.il) (.ref X.tk) kZ jQ lg js lh lj dG (.ref fb) (aL e) m K:=by
 have Yu:=(km X.W.wx.toWF e he).1
 have d1:1<d:=Nat.lt_trans (by decide) hd
 have es:(dy X.rows X.V X.mdl (G,tkn) e).1=G++List.replicate (uB X.rows X.mdl e) e++List.replicate (mH X.rows X.V e).length e++(ck X.rows X.V e tkn (ag X.rows e).attrs).1++(ag X.rows e).attrs.flatMap (dk X.rows X.V):=by
  show G++(List.replicate _ e++(List.replicate _ e++_))++_=_
  rw [←List.append_assoc,←List.append_assoc]
 rw [es] at hl h
 refine Si F d1 C Yu fun m1 ow ep l1 how=>Sj F hd (C.mono l1 (Nat.le_refl _)) Yu how (l1 _ _ hf) (Nat.lt_of_le_of_lt (Nat.le_trans jg jg) hl) fun m2 f2 th l2 n2 h2=>?_
 have C2:=C.mono (l1.trans l2) (Nat.le_refl _)
 exact Sk F d1 C2 hn he (l2 _ _ how) h2 (C.ne (l1.none n2)) hl fun m3 f3 o1 o2 bl o4 o5 o6 C3 fA Yv h3=>h m3 f3 o1 o2 _ _ _ _ o4 o5 o6 C3 ((Fr.of_le (l1.trans l2)).tr fA) Yv h3
end
theorem XH {α:Type} {g:α→Val} {l:List α} {acc0:List Val} (I:List α→List Val→MH→Prop) {turn:Val→List Val→MH→(List Val→MH→Prop)→Prop} {src:Val} {full:List Val} {st:Option MO} {m:MH} {Q:List Val→MH→Prop} (hf:full=l.map g) (hw:∀pre acc m,I pre acc m→Walk m src full st)
 (ht:∀pre x d9 acc m (K:List Val→MH→Prop),l=pre++x::d9→I pre acc m→(∀eY m',I (pre++[x]) eY m'→K eY m')→turn (g x) acc m K) (hi:I [] acc0 m) (he:∀acc m,I l acc m→Q acc m):cw turn src acc0 m Q:=by
 subst hf
 refine ⟨l.map g,st,?_⟩
 suffices ∀d9 pre acc m,l=pre++d9→I pre acc m→i4 (fun m=>Walk m src (l.map g) st) turn (d9.map g) acc m Q from this l [] acc0 m rfl hi
 intro d9
 induction d9 with
 | nil=>exact fun pre acc m e i=>⟨hw _ _ _ i,he _ _ (by rw [e,List.append_nil];exact i)⟩
 | cons x d9 ih=>exact fun pre acc m e i=>⟨hw _ _ _ i,ht pre x d9 acc m _ e i fun eY m' i'=>ih (pre++[x]) eY m' (by rw [e,List.append_assoc];rfl) i'⟩
section
variable {m m' mh:MH} {n d D:Nat} {c:Cfg} {e:Nat} {rows:List aG} {R:List cq} {t rl il:Addr} {Q:VQ}
noncomputable def Pu (p:Addr×List Str):Bool:=decide (p.2.length=1)
noncomputable def IZ (p:Addr×List Str):Val:=.str (p.2.headD "")
theorem Sl:∀{ps:List (Addr×List Str)},(ps.filter Pu).map IZ=aw ((ps.map (·.2)).filterMap Ey):=by
 intro ps
 induction ps with
 | nil=>rfl
 | cons p ps ih=>
   obtain ⟨a,w⟩:=p
   match w with
   | []=>exact ih
   | [x]=>exact congrArg (.str x::·) ih
   | x::y::l=>
     exact ih
theorem He (W:eK rows):(G8 R rows e).length≤7:=Nat.le_trans (List.length_filterMap_le ..) (Nat.le_trans (Nat.le_of_eq (List.length_map ..)) (Nat.le_trans (List.length_filter_le ..) (W.al e)))
theorem Vf (F:cp c) (hd:1<d) (W:eK rows) (T:bq m t rows) (he:e<rows.length) (K:fR R) (hR:m rl=some (.list (R.map cT))) {ids:List Str} (hids:m il=some (.list (aw ids))) (hl:(ids++G8 R rows e).length<bw) {K':aE} {v8 v9 v10 df yS uJ:Val} {dD wK wL sL yr Av vc qN AP:Option Val}
 (h:∀m' VO nS Jw,MH.Le m m'→m VO=none→m' VO=some (.list (aw (ids++G8 R rows e)))→K' none [some (.ref t),some v8,some v9,some v10,some (.ref rl),some df,some yS,some (.ref VO),some uJ,some (aL e),dD,some nS,wK,some Jw,wL,sL,yr,Av,vc,qN,AP] m'):
 tZ c d (.ref t) (.ref rl) v8 v9 v10 df yS uJ dD wK wL sL yr Av vc qN AP (.ref il) (aL e) m K':=by
 have mt:=T.choose_spec.choose_spec.me
 have rl8:∀{f:cq→Bool},(R.filter f).length<bw:=Nat.lt_of_le_of_lt (Nat.le_trans (List.length_filter_le ..) K.len) (by decide)
 refine dx (g:=cT) (e:=cT) (f:=Sf (az rows e)) (l:=R) (.list hR) rfl (Nat.lt_of_le_of_lt K.len (by decide)) (fun r zz acc K1 ha hK=>.seq .tup (by decide) (by decide) rfl (bc mt rfl (F.m 38).ok (eD F hd T (aQ he) (cM.str ?_)))) (du fun b1 m1 zz l1 h1=>.Hp h1 (by decide) (by decide) (by rw [List.length_map];exact rl8) (du fun b2 m2 n2 l2 h2=>?_))
 ·unfold Sf at hK
  show br (wq (az rows e) r) _ _
  revert hK
  cases wq (az rows e) r with
  | false=>exact id
  | true=>
    refine fun hK=>.seq .tup (by decide) (by decide) rfl (cM.str ?_)
    revert hK
    show K1 (bif decide (r.kind="ID") then _ else _) _→_
    cases decide (r.kind="ID") with
    | true=>exact fun hK=>⟨ha,hK⟩
    | false=>exact id
 have h2:m2 b2=some (.list ((Vb R (az rows e)).map cT)):=h2.trans (by rw [Vb,List.map_take];rfl)
 have c8:=l1.trans l2
 refine bc (c8 _ _ mt) rfl (F.m 41).ok (dK F hd (T.mono c8) (aQ he) (du fun b3 m3 n3 l3 h3=>?_))
 refine XH (g:=aL) (l:=(ag rows e).attrs) (fun pre acc m=>MH.Le m3 m∧∃ps:List (Addr×List Str),acc=ps.map (fun p=>.ref p.1)∧ps.map (·.2)=(pre.filter (zW R rows e)).map (gx rows)∧∀p∈ps,m p.1=some (.list (aw p.2))) rfl (fun zz zz zz I=>.list (I.1 _ _ h3)) (fun pre k d9 acc m4 K1 e1 I hK=>?_) ⟨.refl _,[],rfl,rfl,fun zz h=>nomatch h⟩ fun acc m4 I=>?_
 ·obtain ⟨l4,ps,rfl,hp,hc⟩:=I
  have hk:k∈(ag rows e).attrs:=qD e1
  have XF:=(W.lt (b:=false) hk).2
  have pl:(ps.map fun p=>Val.ref p.1).length<bw:=by
   have:=congrArg List.length hp
   rw [List.length_map,List.length_map] at this
   rw [List.length_map,this]
   exact Nat.lt_of_le_of_lt (List.length_filter_le ..) (Nat.lt_trans (Nat.lt_of_lt_of_le (ur e1) (W.al e)) (by decide))
  refine du fun b5 m5 zz l5 h5=>cM.nil (l5 _ _ (l4 _ _ (l3 _ _ h2))) h5 ?_
  have Yw:=l5 _ _ (l4 _ _ (l3 _ _ h2))
  have IH:=c8.trans (l3.trans (l4.trans l5))
  have no:∀m',MH.Le m5 m'→zW R rows e k=false→K1 (ps.map fun p=>.ref p.1) m':=fun m' l6 hn=>hK _ m' ⟨l4.trans (l5.trans l6),ps,rfl,by rw [List.filter_append,List.filter_cons,hn];exact hp.trans (by rw [if_neg (by decide),List.filter_nil,List.append_nil]),fun p q=>l6 _ _ (l5 _ _ (hc p q))⟩
  have yes:∀m' a,MH.Le m5 m'→zW R rows e k=true→m' a=some (.list (aw (gx rows k)))→K1 ((ps.map fun p=>.ref p.1)++[.ref a]) m':=fun m' a l6 hn ha=>hK _ m' ⟨l4.trans (l5.trans l6),ps++[(a,gx rows k)],by rw [List.map_append];rfl,by rw [List.map_append,hp,List.filter_append,List.filter_cons,hn,List.map_append];rfl,fun p q=>(List.mem_append.mp q).elim (fun q=>l6 _ _ (l5 _ _ (hc p q))) fun q=>List.mem_singleton.mp q▸ha⟩
  unfold zW at no yes
  revert Yw no yes
  cases Vb R (az rows e) with
  | nil=>exact fun Yw no yes=>no m5 (.refl _) rfl
  | cons r rs=>
    refine fun Yw no yes=>bc (IH _ _ mt) rfl (F.m 38).ok (eD F hd (T.mono IH) (aQ XF) (pL (i:=0) Yw (by decide) rfl (.seq .tup (by decide) (by decide) rfl (cM.str ?_))))
    show br (decide (az rows k=r.nm)) _ _
    have no:∀m',MH.Le m5 m'→decide (az rows k=r.nm)=false→K1 (ps.map fun p=>.ref p.1) m':=no
    have yes:∀m' a,MH.Le m5 m'→decide (az rows k=r.nm)=true→m' a=some (.list (aw (gx rows k)))→K1 ((ps.map fun p=>.ref p.1)++[.ref a]) m':=yes
    revert no yes
    cases decide (az rows k=r.nm) with
    | false=>exact fun no zz=>no m5 (.refl _) rfl
    | true=>exact fun zz yes=>⟨(F.f 28).ok,bc (IH _ _ mt) rfl (F.m 39).ok (mv F hd (T.mono IH) (aQ XF) (dP F (Nat.lt_trans (by decide) hd) (sH (W.val hk)).1 fun a m6 l6 zz ha=>⟨pl,yes m6 a l6 rfl ha⟩))⟩
 ·obtain ⟨l4,ps,rfl,hp,hc⟩:=I
  have pl:ps.length≤7:=by
   have:=congrArg List.length hp
   rw [List.length_map,List.length_map] at this
   exact this▸Nat.le_trans (List.length_filter_le ..) (W.al e)
  refine du fun b5 m5 zz l5 h5=>dx (g:=fun p=>.ref p.1) (e:=IZ) (f:=Pu) (l:=ps) (.list h5) rfl (Nat.lt_of_le_of_lt pl (by decide)) (fun p hq acc K1 ha hK=>?_) (du fun b6 m6 n6 l6 h6=>?_)
  ·have Yx:=l5 _ _ (hc p hq)
   have wl:p.2.length<bw:=by
    obtain ⟨k,hk,q⟩:=List.mem_map.mp (show p.2∈((ag rows e).attrs.filter (zW R rows e)).map (gx rows) from hp▸List.mem_map_of_mem (f:=fun p:Addr×List Str=>p.2) hq)
    exact (show gx rows k=p.2 from q)▸Nat.lt_trans (cC.n (eV.g (sH (W.val (List.mem_filter.mp hk).1)).1)) (by decide)
   refine xA Yx (by rw [aw,List.length_map];exact wl) (cM.int ?_)
   unfold Pu IZ at hK
   revert Yx hK
   cases p.2 with
   | nil=>exact fun hK zz=>hK
   | cons x l=>
     cases l with
     | nil=>exact fun hK Yx=>pL (i:=0) Yx (by decide) rfl ⟨ha,hK⟩
     | cons y l=>exact fun hK zz=>cI (decide_eq_false fun q=>by cases Nat.succ.inj (Int.ofNat_inj.mp q)) hK
  ·have h6:m6 b6=some (.list (aw (G8 R rows e))):=h6.trans (by rw [Sl,hp];rfl)
   have RM:=c8.trans (l3.trans (l4.trans (l5.trans l6)))
   refine .fY (RM _ _ hids) h6 (by rw [aw,aw,List.length_map,List.length_map,←List.length_append];exact hl) (du fun b7 m7 n7 l7 h7=>h m7 b7 _ _ (RM.trans l7) (RM.none n7) (h7.trans (by rw [aw,aw,aw,List.map_append])))
theorem Vg {V:cv} (W:pS rows):EH rows V=bif decide (az rows 2=V.root) then [] else [2]:=by
 have e1:nU rows 1=false:=decide_eq_false (by rw [W.k1];decide)
 have e2:nU rows 2=true:=decide_eq_true W.k2
 have :pM rows=some 2:=by unfold pM;rw [W.c0,List.find?_cons,e1,List.find?_cons,e2]
 unfold EH
 rw [this]
theorem Hf (F:cp c) (hD:14<D) (W:pS rows) (T:bq mh t rows) (K:fR R) {mdl:Str→Option gw} {root:Str} {ms:List (Str×Val)} {md:Addr} (hR:mh rl=some (.list (R.map cT))) (hM:∃ep,mh md=some (.ax ms ep)) (hm:∀x,ms.lookup x=(mdl x).map gw.val) (ho:∀x m,mdl x=some m→mI m)
 (h:∀b m',MH.Le mh m'→m' b=some (.list (aB (A0 rows (VD root ms R) mdl)))→Q (.ref b) m'):aq c D "_law_due" [.ref t,.int 0,.str root,.ref md,.ref rl] mh Q:=by
 have X0:=W.wx.toWF
 obtain ⟨w0,wn,l,hl⟩:=W.Pj
 refine (F.f 33).has.go F hD rfl LY ⟨(F.f 31).ok,RR F X0 (N:=11) (fun i k hk=>W.Xv hk) 11 0 (by decide) X0.pos (by decide) T (BI X0) fun ev m1 l1 XJ=>?_⟩
 rw [w0] at XJ
 have XK:aB (dt rows)=aL 2::aB l:=by rw [hl];rfl
 have rest:∀m2 fb,MH.Le m1 m2→m2 fb=some (.list (aB (EH rows (VD root ms R))))→lC c 14 (.ref ev) (.ref t) (.int 0) (.str root) (.ref md) (.ref rl) Q (.ref fb) m2:=fun m2 fb l2 hfb=>du fun i0 m3 ni l3 hi=>du fun tk m4 nt l4 ht=>.mk ?_
 ·refine .inst (l1 _ _ T.choose_spec.choose_spec.me) rfl (F.m 38).ok (pL (i:=0) XJ (by decide) (by rw [XK];rfl) (eD F (by decide) (T.mono l1) (aQ W.n3) (cM.str ?_)))
  rw [Vg W] at rest
  revert rest
  show (∀m2 fb,MH.Le m1 m2→m2 fb=some (.list (aB (bif decide (az rows 2=root) then [] else [2])))→_)→br (!decide (az rows 2=root)) _ _
  cases decide (az rows 2=root) with
  | true=>exact fun rest=>du fun b m2 zz l2 h2=>rest m2 b l2 h2
  | false=>exact fun rest=>pL (i:=0) XJ (by decide) (by rw [XK];rfl) (du fun b m2 zz l2 h2=>rest m2 b l2 h2)
 ·have vZ:=l1.trans (l2.trans (l3.trans l4))
  have ev4:=l4 _ _ (l3 _ _ (l2 _ _ XJ))
  have tkn:∀{a o},m3 a=some o→a≠tk:=fun h q=>by rw [q,nt] at h;exact a8 h
  refine jy (g:=aL) (l:=dt rows) (fun j:Addr×Option Val×Option Val×Option Val=>[some (.ref t),some (.int 0),some (.str root),some (.ref md),some (.ref rl),some (.ref ev),some (.ref fb),some (.ref j.1),some (.ref tk),j.2.1,none,j.2.2.1,none,j.2.2.2,none,none,none,none,none,none,none])
   (fun pre j m=>MH.Le m4 m∧m j.1=some (.list (aw (pre.flatMap (G8 R rows))))∧j.1≠tk) (i0,none,none,none) rfl rfl (fun zz zz zz I=>.list (I.1 _ _ ev4)) (fun pre e d9 j m K' e1 I hK zz=>?_) ⟨.refl _,l4 _ _ hi,tkn hi⟩ fun j m5 I=>?_
  ·obtain ⟨l5,hi5,nj⟩:=I
   have IH:=vZ.trans l5
   refine Ed.mpr (Vf F (by decide) W.toeK (T.mono IH) (km X0 e (qD e1)).1 K (IH _ _ hR) hi5 ?_ fun m' VO nS Jw l6 n6 h6=>hK (VO,some (aL e),some nS,some Jw) m' ⟨l5.trans l6,h6.trans (by rw [List.flatMap_append,List.flatMap_cons,List.flatMap_nil,List.append_nil]),fun (q:VO=tk)=>by rw [q,l5 _ _ ht] at n6;exact c5 n6⟩)
   rw [List.length_append]
   exact Nat.lt_of_le_of_lt (Nat.add_le_add (ko fun e zz=>He W.toeK) (He W.toeK)) (Nat.lt_of_lt_of_le (Nat.add_lt_add_right (Nat.mul_lt_mul_of_pos_right (Nat.lt_trans (ur e1) (gU X0)) (by decide)) 7) (by decide))
  ·obtain ⟨l5,hi5,nj⟩:=I
   have kz:=l1.trans (l2.trans l3)
   generalize hX:(⟨m3,t,md,rl,j.1,tk,rows,R,mdl,root,ms,T.mono kz,W,K,kz _ _ hR,hM.imp fun zz=>kz _ _,hm,ho,nt,nj⟩:LC)=X
   have A5:LA X m5 [] 0:=by
    subst hX
    exact ⟨l4.trans l5,by rw [←Sg (root:=root) (ms:=ms) W.toeK];exact hi5,[],l5 _ _ ht,fun zz=>.rfl,Nat.le_refl _⟩
   have go:=jy (g:=aL) (l:=dt X.rows) (fun z:Addr×Option Val×Option Val×Option Val×Option Val×Option Val×Option Val×Option Val×Option Val×Option Val×Option Val=>[some (.ref X.t),some (.int 0),some (.str X.root),some (.ref X.md),some (.ref X.rl),some (.ref ev),some (.ref z.1),some (.ref X.il),some (.ref X.tk),z.2.1,z.2.2.1,j.2.2.1,z.2.2.2.1,j.2.2.2,z.2.2.2.2.1,z.2.2.2.2.2.1,z.2.2.2.2.2.2.1,z.2.2.2.2.2.2.2.1,z.2.2.2.2.2.2.2.2.1,z.2.2.2.2.2.2.2.2.2.1,z.2.2.2.2.2.2.2.2.2.2])
    (fun pre z m=>LA X m (mA X.rows X.V X.mdl pre).2 (pre.length * 7)∧Tj X m5 m∧m z.1=some (.list (aB (mA X.rows X.V X.mdl pre).1))∧z.1≠X.tk) (fb,j.2.1,none,none,none,none,none,none,none,none,none)
    (turn:=bA c 14 59 (aa (af 60)) (cF (ai (af 60)) 4)) (src:=.ref ev) (st:=none) (m:=m5) (Q:=dO (aa (af 60)) (aO c 14 60 (aa (af 60)) ((ai (af 60)).drop 5) (bY Q))) rfl rfl (fun zz zz zz I=>.list (I.2.1.keep (by subst hX;exact tkn (l3 _ _ (l2 _ _ XJ))) (by subst hX;exact l5 _ _ ev4))) (fun pre e d9 z m K' e1 I hK zz=>?_) ⟨A5,.refl,by subst hX;exact l5 _ _ (l4 _ _ (l3 _ _ hfb)),by subst hX;exact tkn (l3 _ _ hfb)⟩ fun z m6 I=>Eh.mpr ?_
   ·subst hX;exact Ei.mpr go
   ·obtain ⟨A,fr,hf,nf⟩:=I
    have st:mA X.rows X.V X.mdl (pre++[e])=dy X.rows X.V X.mdl (mA X.rows X.V X.mdl pre) e:=List.foldl_append
    have bound:(mA X.rows X.V X.mdl (pre++[e])).1.length<900000:=by
     refine Nat.lt_of_le_of_lt ?_ (JZ (root:=X.root) (ms:=X.ms) (mdl:=X.mdl) X.W X.K)
     rw [A0,e1,List.append_cons pre e d9,show mA X.rows X.V X.mdl (pre++[e]++d9)=d9.foldl (dy X.rows X.V X.mdl) (mA X.rows X.V X.mdl (pre++[e])) from List.foldl_append]
     exact GY
    rw [st] at bound
    refine Eg.mpr (Ve F (by decide) A (Nat.lt_trans (Nat.mul_lt_mul_of_pos_right (Nat.lt_trans (ur e1) (gU X.W.wx.toWF)) (by decide)) (by decide)) (qD e1) hf nf bound fun m' iY o1 o2 o3 o4 o5 o6 o7 o8 o9 A' Xo nf' Me=>hK (iY,some (aL e),o1,o2,o3,o4,o5,o6,o7,o8,o9) m' ?_)
    rw [st,List.length_append,Nat.add_mul]
    exact ⟨A',fr.tr Xo,Me,nf'⟩
   ·obtain ⟨A,fr,hf,nf⟩:=I
    refine h z.1 m6 (fun a o q=>A.le _ _ ?_) ?_
    ·subst hX;exact kz _ _ q
    ·subst hX;exact hf
end
noncomputable abbrev TQ:VQ:=fun v zz=>v= .bool true
noncomputable def Pw:List aG:=kr uD true 0 (iX "element" "b" "" "b" "" (aL 0))
noncomputable def XM (x:Str):Option gw:=List.lookup x [("b",.empty)]
noncomputable def V1:cv:=⟨"a",[("b",.tup [.str "empty"])],fun zz=>[]⟩
theorem wx1:WX Pw:=(JR.grow (b:=true) (wd (by decide)) gg (zT (by decide) (by decide) (by decide)) (by decide) (fun zz=>⟨by decide,.inl rfl⟩) fun h=>nomatch h).wx (by decide)
theorem vok1:Xf V1 XM where
 mo:=fun x=>cY gw.val x [("b",.empty)]
 sz:=fun {x p} h=>by cases List.mem_singleton.mp (of_lookup h)
 ro:=fun h=>nomatch h
 rn:=fun zz zz h=>nomatch h
theorem XN:A0 Pw V1 XM=[1]:=by kernel_rfl
section
variable {m m' mh:MH} {n d D:Nat} {c:Cfg} {R:List cq} {t rl md dd s:Addr} {root:Str} {O Ot:Addr→Prop}
theorem jB.Tn {k:List (Str×Val)} (B:jB m dd O ⟨root,k,fun zz=>[]⟩ 0) (h:∀{a o},(a=dd∨O a)→m a=some o→m' a=some o):jB m' dd O ⟨root,k,fun zz=>[]⟩ 0:=
 let ⟨e,a,n,as,B⟩:=B
 have ha:as=[]:=List.eq_nil_of_length_eq_zero (Nat.le_zero.mp B.len)
 ⟨e,a,n,as,h (.inl rfl) B.me,B.el.imp fun zz=>h (.inr B.oe),B.at'.imp fun zz=>h (.inr B.oa),fun x=>.inl ⟨by rw [ha];rfl,rfl⟩,B.inj,B.ow,B.ne,B.oe,B.oa,fun k=>let ⟨es,ep,q⟩:=B.od k;⟨es,ep,h (.inr k) q⟩,B.len⟩
theorem jB.me {V:cv} {k:Nat} (B:jB m dd O V k):∃e a n:Addr,m dd=some (.inst "Dtd" [("root",.str V.root),("elements",.ref e),("attributes",.ref a),("notations",.ref n)]):=(by obtain ⟨e,a,n,_,B⟩:=B;exact ⟨e,a,n,B.me⟩)
theorem Hg {ps:List (Nat×Str)} {b:Addr} {Q:VQ} (hb:m b=some (.list (bx ps))) (hl:ps.length<bw) (h:∀b' m',MH.Le m m'→m' b'=some (.list (aB (ps.map (·.1))))→Q (.ref b') m'):cw Oa (.ref b) [] m (fun acc m=>aH m (.list acc) Q):=
 xT (g:=sA) (e:=fun p=>aL p.1) (l:=ps) (.list hb) rfl hl (fun p zz acc K ha hK=>.mk ⟨ha,hK⟩) (du fun b' m' zz le EV=>h b' m' le (EV.trans (by rw [aB,List.map_map];rfl)))
theorem J0 {a b:Addr} {l:List Nat} {Q:Bool→Prop} (ha:m a=some (.list (aB l))) (hb:m b=some (.list (aB l))) (h:Q true):cM m Q (.ref a) (.ref b):=by
 rw [mC] at ha hb
 exact .il ha hb ix ix (by rw [decide_eq_true rfl];exact h)
noncomputable def gD (L:List (Str×gw)):List (Str×Val):=L.map fun p=>(p.1,p.2.val)
theorem Sm {es:List (Str×Val)} {ep:Nat} (l:List Val):MO.ax es ep≠ .list l:=fun q=>nomatch q
theorem Vh (F:cp c) (S:SrcAt m s) {L:List (Str×gw)} (TD:ew m dd (VD root (gD L) R)) (K:fR R) (RN:root.length<1000) (hM:∃ep,m md=some (.ax (gD L) ep)) (ok:∀p∈L,mI p.2) (hR:m rl=some (.list (R.map cT))) (VP:rl≠s):Jz c 30 (.ref s) (.ref dd) (.ref md) (.ref rl) TQ m:=by
 have hm:∀x,(gD L).lookup x=(L.lookup x).map gw.val:=fun x=>cY gw.val x L
 have ho:∀x md,L.lookup x=some md→mI md:=fun x md h=>ok _ (of_lookup h)
 refine ⟨(F.k 5).ok,JP F (by decide) fun t Ot m1 B1 l1 n1=>⟨(F.f 30).ok,?_⟩⟩
 have no:∀{a o},m a=some o→¬Ot a:=fun h k=>by exact bQ h (n1 k)
 have hs:¬Ot s:=by
  obtain ⟨_,_,_,_,h⟩:=S
  exact no h
 refine wo F (by decide) (S.le l1) B1 hs fun m2 rows W T2 mG=>⟨(F.f 20).ok,?_⟩
 have kp:∀{a o},a≠s→m a=some o→m2 a=some o:=fun n h=>mG.keep (fun k=>k.elim n (no h)) (l1 _ _ h)
 have ns:∀{a o},(∀l,o≠ .list l)→m a=some o→a≠s:=by
  intro a o h e q
  obtain ⟨_,_,_,_,z⟩:=S
  rw [q,z] at e
  exact h _ (Option.some.inj e).symm
 have TD2:=TD.PS (m':=m2) fun h e=>kp (ns h e) e
 have VS:∃ep,m2 md=some (.ax (gD L) ep):=hM.imp fun zz e=>kp (ns Sm e) e
 have Yy:=kp VP hR
 have V:=XD (root:=root) (ms:=gD L) K hm ho
 have bd:=Nat.lt_trans (JZ (root:=root) (ms:=gD L) (mdl:=fun x=>L.lookup x) W K) (by decide:900000<bw)
 refine G0 F (by decide) T2 TD2 W.wx V bd RN fun b m3 ps l3 hb hp=>Hg hb ?_ fun b' m4 l4 EV=>⟨(F.f 33).ok,?_⟩
 ·have:=congrArg List.length hp
  rw [List.length_map] at this
  rw [this];exact bd
 ·have Yz:=l3.trans l4
  obtain ⟨_,_,_,_,_,_,A⟩:=TD2
  exact ao.mk (Yz _ _ A.me) rfl rfl (Hf F (by decide) W (T2.mono Yz) K (mdl:=fun x=>L.lookup x) (Yz _ _ Yy) (VS.imp fun zz=>Yz _ _) hm ho fun b5 m5 l5 hb5=>J0 (l5 _ _ (hp▸EV)) hb5 rfl)
theorem Vi (F:cp c) (S:SrcAt m s) {L:List (Str×gw)} (B:jB m dd O (VD root (gD L) []) 0) (K:fR R) (RN:root.length<1000) (hM:∃ep,m md=some (.ax (gD L) ep)) (nm:¬O md) (ok:∀p∈L,mI p.2) (hR:m rl=some (.list (R.map cT))) (VP:rl≠s) {zf H8 QZ Q0:Val} {UL Q3:Option Val}:
 JA c 30 (.ref rl) zf (.ref s) H8 (.ref dd) QZ Q0 (.ref md) UL Q3 TQ m:=by
 have ns:¬O s:=(by obtain ⟨_,_,_,_,h⟩:=S;exact B.nl h)
 refine jy (g:=cT) (l:=R) (fun j:Option Val=>[some zf,some (.ref s),some H8,some (.ref dd),some QZ,some Q0,some (.ref md),some (.ref rl),UL,j]) (fun pre zz m'=>(∃O',jB m' dd O' (VD root (gD L) pre) pre.length∧∀{z},O' z→O z∨m z=none)∧Fr O m m') Q3 rfl rfl (fun zz zz zz I=>.list (I.2.keep (B.nl hR) hR)) (fun pre r d9 j m1 K' e I hK zz=>?_) ⟨⟨O,B,.inl⟩,.refl⟩ fun j m1 I=>?_
 ·obtain ⟨⟨O',B1,sub⟩,fr⟩:=I
  obtain ⟨_,_,_,me⟩:=B1.me
  have U5:=K.ok r (qD e)
  have pl:pre.length<8:=Nat.lt_of_lt_of_le (ur e) K.len
  have ch:r.eN.length<1000:=Nat.lt_of_le_of_lt (Nat.le_add_left ..) (ES.ro U5).cl
  refine Rr.mpr (.inst me rfl (F.m 20).ok (.seq .tup (by decide) (by decide) rfl (.seq .tup (by decide) (by decide) rfl ⟨(F.k 0).ok,.seq .tup (by decide) (by decide) rfl (.seq .tup (by decide) (by decide) rfl (.seq .tup (by decide) (by decide) rfl (.seq .tup (by decide) (by decide) rfl ?_)))⟩)))
  refine wg F (by decide) ch fun q m2 l2 n2 hq=>qF F (by decide) (B1.le l2) (r:=iB r) hq (by rw [xW,Md K e];rfl) (Nat.lt_trans pl (by decide)) ?_ fun m3 O3 B3 fA sub3=>hK _ m3 ?_
  ·show ((iC pre r.el).map _).length<900
   rw [List.length_map,iC,List.length_map]
   exact Nat.lt_of_le_of_lt (List.length_filter_le ..) (Nat.lt_trans pl (by decide))
  ·rw [Sb] at B3
   rw [List.length_append]
   exact ⟨⟨O3,B3,fun k=>(sub3 k).elim sub fun z=>.inr (fr.sQ (l2.none z))⟩,(fr.tr (.of_le l2)).trans fA fun zz=>sub⟩
 ·obtain ⟨⟨O',B1,sub⟩,fr⟩:=I
  exact Rt.mpr (Vh F (S.keep fr ns) B1.S9 K RN (hM.imp fun zz=>fr.keep nm) ok (fr.keep (B.nl hR) hR) VP)
theorem Px (F:cp c) (S:SrcAt m s) {L:List (Str×gw)} {ep:Nat} (hM:m md=some (.ax (gD L) ep)) (nd:(L.map (·.1)).Nodup) (hl:L.length≤3) (ok:∀p∈L,mI p.2) {x1 x6 x7 y4:Val}:Ek c 30 (.ref s) (.ref md) x1 y4 x6 x7 TQ m:=by
 have mds:∀{m':MH},SrcAt m' s→m' md=some (.ax (gD L) ep)→md≠s:=fun S h q=>by obtain ⟨_,_,_,_,z⟩:=S;rw [←q,h] at z;cases z
 refine ⟨(F.f 27).ok,A4 F (by decide) S fun R rl m1 hR h1 n1 S1 zZ=>⟨(F.k 3).ok,(F.f 23).ok,fq F (by decide) S1 ["a","a","b"] (by decide) fun rt m2 RN S2 mG=>?_⟩⟩
 have VP:rl≠s:=fun q=>by obtain ⟨_,_,_,_,z⟩:=S;rw [←q,n1] at z;exact a8 z
 have VS:=mG.keep (mds S hM) (zZ.keep (mds S hM) hM)
 have Yy:=mG.keep VP h1
 have rtl:rt.length<1000:=of_decide_eq_true (List.all_eq_true.mp (by decide:(["a","a","b"]:List Str).all (fun x=>decide (x.length<1000))=true) rt RN)
 refine OV F (by decide) fun d O m3 B3 l3 nd3 nO=>.mk ?_
 have nm:¬O md:=fun k=>by exact bQ VS (nO k)
 have nd':((gD L).map (·.1)).Nodup:=by rw [gD,List.map_map];exact nd
 have S3:=S2.le l3
 refine jy (g:=fun p:Str×Val=>.str p.1) (l:=gD L) (fun j:Option Val=>[some x1,some (.ref s),some y4,some (.ref d),some x6,some x7,some (.ref md),some (.ref rl),j,none]) (fun pre zz m'=>jB m' d O ⟨rt,pre,fun zz=>[]⟩ 0∧Fr O m3 m') none rfl rfl (fun zz zz zz I=>.ax (I.2.keep nm (l3 _ _ VS))) (fun pre p d9 j m4 K' e I hK zz=>?_) ⟨B3,.refl⟩ fun j m4 I=>?_
 ·obtain ⟨B,fr⟩:=I
  obtain ⟨_,_,_,me⟩:=B.me
  have pl:pre.length<1000:=Nat.lt_trans (ur e) (by rw [gD,List.length_map];exact Nat.lt_of_le_of_lt hl (by decide))
  have no:pre.lookup p.1=none:=List.lookup_eq_none_iff.mpr fun q hq=>bne_iff_ne.mpr fun h=>by
   rw [e,List.map_append] at nd'
   exact (List.nodup_append.mp nd').2.2 q.1 (List.mem_map_of_mem (f:=(·.1)) hq) p.1 (List.mem_cons_self ..) h.symm
  exact Rq.mpr (.inst me rfl (F.m 19).ok (.ax (fr.keep nm (l3 _ _ VS)) (lookup_mem nd' (qD e)) (jh F (by decide) B no pl fun m5 B5 RZ=>hK _ m5 ⟨B5,fr.tr RZ⟩)))
 ·obtain ⟨B,fr⟩:=I
  exact Ru.mpr (Vi F (S3.keep fr ((by obtain ⟨_,_,_,_,h⟩:=S3;exact B3.nl h))) B hR.k rtl ⟨ep,fr.keep nm (l3 _ _ VS)⟩ nm ok (fr.keep (B3.nl (l3 _ _ Yy)) (l3 _ _ Yy)) VP)
theorem Vj (F:cp c) (S:SrcAt m s) {x1 x6 x7 y4:Val}:aX c "_law_model"=true∧aq c 30 "_law_model" [.ref s] m (JB c 30 (.ref s) x1 y4 x6 x7 TQ):=by
 refine ⟨(F.f 25).ok,jC F (by decide) S fun ma m1 ha S1 zZ=>⟨(F.f 25).ok,jC F (by decide) S1 fun mb m2 hb S2 mG=>.mk rfl fun ep zz=>du fun md m3 n3 l3 h3=>⟨(F.f 22).ok,cL F (by decide) (S2.le l3) (n:=2) (by decide) fun k m4 hk S4 SV=>cM.int ?_⟩⟩⟩
 have ns:md≠s:=fun q=>by obtain ⟨_,_,_,_,z⟩:=S2;rw [←q,n3] at z;exact a8 z
 have h3:m3 md=some (.ax (gD [("a",ma),("b",mb)]) ep):=h3
 have ok2:∀p∈[(("a":Str),ma),("b",mb)],mI p.2:=fun p hp=>by
  rcases List.mem_cons.mp hp with rfl | hp
  ·exact ha
  ·obtain rfl:=List.mem_singleton.mp hp;exact hb
 cases decide ((k:Int)=0) with
 | false=>exact Px F S4 (SV.keep ns h3) (by show (["a","b"]:List Str).Nodup;decide) (Nat.le_of_ble_eq_true rfl) ok2
 | true=>exact ⟨(F.f 25).ok,jC F (by decide) S4 fun mc m5 hc S5 RZ=>.ax (RZ.keep ns (SV.keep ns h3)) (Nat.le_of_ble_eq_true rfl) fun ep'=>Px F (L:=[("a",ma),("b",mb),("c",mc)]) (S5.keep (O:=fun a=>a=md) (Fr.refl.set (.inl rfl)) ns.symm) (MH.set_same ..) (by show (["a","b","c"]:List Str).Nodup;decide) (Nat.le_of_ble_eq_true rfl) fun p hp=>by
   rcases List.mem_append.mp (show p∈[(("a":Str),ma),("b",mb)]++[(("c":Str),mc)] from hp) with hp | hp
   ·exact ok2 p hp
   ·obtain rfl:=List.mem_singleton.mp hp;exact hc⟩
theorem Py (F:cp c) {l:Addr} {ns:List Int} (hl:ns.length<1000):bf c 30 (af 61) [.ref l] (dY l ns) TQ:=by
 have hs:dY l ns l=some (.ro (bj ns)):=if_pos rfl
 generalize dY l ns=mh at *
 refine elaw.mpr ⟨(F.f 21).ok,EJ F (by decide) hs hl fun s m1 l1 n1 S1=>⟨(F.k 5).ok,JP F (by decide) fun t Ot m2 B2 l2 nt=>⟨(F.k 3).ok,OV F (by decide) fun d Od m3 D3 l3 nd nO=>.mk ?_⟩⟩⟩
 obtain ⟨x,y,y0,y1,hs1⟩:=S1
 have no:∀{a},(a=d∨Od a)→¬Ot a:=fun h=>h.elim (fun q=>q▸B2.no nd) fun k=>B2.no (nO k)
 have so:¬Ot s:=fun k=>by exact bQ hs1 (nt k)
 have tt:∀{m O rows},d8 m t O rows→∃L,m t=some (.inst "Tree" [("rows",.ref L)]):=fun B=>⟨_,B.I.choose_spec.choose_spec.choose_spec.choose_spec.me⟩
 have B3:d8 m3 t Ot []:=B2.keep fun zz=>l3 _ _
 have ex:∀{m k} {V:cv},jB m d Od V k→∀{a},(a=d∨Od a)→∃o,m a=some o:=fun D a h=>h.elim (fun q=>(by obtain ⟨_,_,_,e⟩:=D.me;exact ⟨_,q▸e⟩)) fun k=>(by obtain ⟨_,_,_,_,B⟩:=D;exact (by obtain ⟨_,_,e⟩:=B.od k;exact ⟨_,e⟩))
 refine bc (tt B3).choose_spec rfl (F.m 30).ok (zP F (by decide) B3 fun m4 O4 P4=>bc (tt P4.B).choose_spec rfl (F.m 32).ok (jA F (by decide) (p:=0) P4.B (by decide) (by decide) (by decide) fun m5 O5 P5=>?_))
 have D4:=D3.Tn (m':=m4) fun h e=>(P4.out (no h) e).2
 have no4:∀{a},(a=d∨Od a)→¬O4 a:=fun h=>(by obtain ⟨_,e⟩:=ex D3 h;exact (P4.out (no h) e).1)
 have D5:=D4.Tn (m':=m5) fun h e=>(P5.out (no4 h) e).2
 have no5:∀{a},(a=d∨Od a)→¬O5 a:=fun h=>(by obtain ⟨_,e⟩:=ex D4 h;exact (P5.out (no4 h) e).1)
 have s4:=P4.out so (l3 _ _ (l2 _ _ hs1))
 have s5:=P5.out s4.1 s4.2
 obtain ⟨_,_,_,me⟩:=D5.me
 refine bc me rfl (F.m 19).ok (jh F (by decide) D5 rfl (by decide) fun m6 D6 VJ=>⟨(F.f 20).ok,?_⟩)
 have T6:bq m6 t Pw:=(P5.B.keep fun ha e=>VJ.keep (fun k=>no5 (.inr k) ha) e).OQ (by decide)
 have S6:SrcAt m6 s:=⟨x,y,y0,y1,VJ.keep (D5.nl s5.2) s5.2⟩
 refine G0 F (by decide) T6 (show ew m6 d V1 from D6.S9) wx1 vok1 (by rw [XN];decide) (by decide) fun b m7 ps l7 hb hp=>?_
 rw [XN] at hp
 have pl:ps.length<bw:=by
  have:=congrArg List.length hp
  rw [List.length_map] at this
  rw [this];decide
 exact Hg hb pl fun b2 m8 l8 h8=>du fun b3 m9 zz l9 h9=>J0 (l:=[1]) (l9 _ _ (hp▸h8)) h9 (Vj F (((S6.le l7).le l8).le l9))
end
namespace main
theorem tw10163040232450223998:1=1:=rfl
theorem tw3856508017396383191:1=1:=rfl
theorem tw10210597933619972095:1=1:=rfl
theorem tw14672674291997333471:1=1:=rfl
theorem tw13355152605343272895:1=1:=rfl
theorem tw7883848961242879871:1=1:=rfl
theorem tw6162249291895867263:1=1:=rfl
theorem tw9360745474812902239:1=1:=rfl
theorem tw15491723280356408159:1=1:=rfl
theorem tw10231336680788121439:1=1:=rfl
theorem tw17057053908230417247:1=1:=rfl
theorem tw8989776476301544223:1=1:=rfl
theorem tw18287795668848337631:1=1:=rfl
theorem tw4126091431370883743:1=1:=rfl
theorem tw495442525896006271:1=1:=rfl
theorem tw15312040371321221727:1=1:=rfl
theorem tw3314904115985164895:1=1:=rfl
theorem tw12273490649430754879:1=1:=rfl
theorem tw13989496423458381343:1=1:=rfl
theorem tw18332899500509843999:1=1:=rfl
theorem tw14504180641510445567:1=1:=rfl
theorem tw9265829497004654079:1=1:=rfl
theorem tw17091655785135471103:1=1:=rfl
theorem tw221909299271738847:1=1:=rfl
theorem tw2750411421705246143:1=1:=rfl
theorem tw4948327476702027199:1=1:=rfl
theorem tw5287059835090251167:1=1:=rfl
theorem tw13187166440333854079:1=1:=rfl
theorem tw7293298908176781663:1=1:=rfl
theorem tw7332330508316399935:1=1:=rfl
theorem tw3731879374237491455:1=1:=rfl
theorem tw5268168578311729375:1=1:=rfl
theorem tw2704602940660078815:1=1:=rfl
theorem tw17563168436475441343:1=1:=rfl
theorem tw16656740534632174751:1=1:=rfl
theorem tw6898400011967081535:1=1:=rfl
theorem tw11544348965984651327:1=1:=rfl
theorem tw15806524323241146399:1=1:=rfl
theorem tw3299218664060906527:1=1:=rfl
theorem tw14368271195830560734:1=1:=rfl
theorem tw8079908401900000222:1=1:=rfl
theorem tw8265370782698574782:1=1:=rfl
theorem tw6361450105264607166:1=1:=rfl
theorem tw8006537069960932158:1=1:=rfl
theorem tw1236483940969888574:1=1:=rfl
theorem tw5623159541915647742:1=1:=rfl
theorem tw12543713266681445118:1=1:=rfl
theorem tw4775608329324902142:1=1:=rfl
theorem tw8492455212021363390:1=1:=rfl
theorem tw12574995316784493246:1=1:=rfl
theorem tw15949526494057022110:1=1:=rfl
theorem tw12023146180999706270:1=1:=rfl
theorem tw12361340156312767134:1=1:=rfl
theorem tw10876375607700338302:1=1:=rfl
theorem tw9563168847844234846:1=1:=rfl
theorem tw2759098988195820126:1=1:=rfl
theorem tw13270728482189477470:1=1:=rfl
theorem tw6785050993538403870:1=1:=rfl
theorem tw308427716283879934:1=1:=rfl
theorem tw4385281892830598654:1=1:=rfl
theorem tw17336282652733537790:1=1:=rfl
theorem tw12751799325998411230:1=1:=rfl
theorem tw11399646045708457374:1=1:=rfl
theorem tw18418235949754561950:1=1:=rfl
theorem tw15060185592220127646:1=1:=rfl
theorem tw4126360451269472574:1=1:=rfl
theorem tw18425317256667529438:1=1:=rfl
theorem tw7054876372555587774:1=1:=rfl
theorem tw6418098437765475518:1=1:=rfl
theorem tw4333880214566435006:1=1:=rfl
theorem tw3374421720907634814:1=1:=rfl
theorem tw18005423509665057918:1=1:=rfl
theorem tw7623511443260959870:1=1:=rfl
theorem tw8344989883159853150:1=1:=rfl
theorem tw17450470499104002142:1=1:=rfl
theorem tw17128291446047057950:1=1:=rfl
theorem tw1777545030009416734:1=1:=rfl
theorem tw14788915703135433725:1=1:=rfl
theorem tw6660377722381337597:1=1:=rfl
theorem tw1099256609624015869:1=1:=rfl
theorem tw9693634834776466397:1=1:=rfl
theorem tw3343439749351644125:1=1:=rfl
theorem tw14640416626631428029:1=1:=rfl
theorem tw11311155076762098589:1=1:=rfl
theorem tw7761410557224570781:1=1:=rfl
theorem tw12338497608069007261:1=1:=rfl
theorem tw15485851114877660061:1=1:=rfl
theorem tw1259162542039736189:1=1:=rfl
theorem tw12915833801598196605:1=1:=rfl
theorem tw6044114016751833949:1=1:=rfl
theorem tw5838101520590548733:1=1:=rfl
theorem tw16819838333489098493:1=1:=rfl
theorem tw12927740378394474205:1=1:=rfl
theorem tw12130321265151566525:1=1:=rfl
theorem tw7624122152786673341:1=1:=rfl
theorem tw16676564476587882173:1=1:=rfl
theorem tw3864431920445960829:1=1:=rfl
theorem tw9558744834307401277:1=1:=rfl
theorem tw16480584520131690045:1=1:=rfl
theorem tw3724484323120607773:1=1:=rfl
theorem tw9880953963774564861:1=1:=rfl
theorem tw15356762974548107741:1=1:=rfl
theorem tw2599750674813586877:1=1:=rfl
theorem tw9747897558166968733:1=1:=rfl
theorem tw15326346284793698685:1=1:=rfl
theorem tw9381277316556691805:1=1:=rfl
theorem tw11181722664286889309:1=1:=rfl
theorem tw12681957500809781501:1=1:=rfl
theorem tw13116522157475607773:1=1:=rfl
theorem tw3958507339218470045:1=1:=rfl
theorem tw4766233809647381661:1=1:=rfl
theorem tw6112859857366181021:1=1:=rfl
theorem tw4917070330192852093:1=1:=rfl
theorem tw9321267617633783869:1=1:=rfl
theorem tw5309058905264134205:1=1:=rfl
theorem tw14027531716089632829:1=1:=rfl
theorem tw12006131722545458140:1=1:=rfl
theorem tw14439473939278146460:1=1:=rfl
theorem tw796168687070700412:1=1:=rfl
theorem tw5649967823195072380:1=1:=rfl
theorem tw11273777480241942364:1=1:=rfl
theorem tw11349898740250378076:1=1:=rfl
theorem tw9155575984036265788:1=1:=rfl
theorem tw14080665800827857628:1=1:=rfl
theorem tw302440914744352476:1=1:=rfl
theorem tw17920292393507637884:1=1:=rfl
theorem tw14859100970857779836:1=1:=rfl
theorem tw11251407683458634364:1=1:=rfl
theorem tw16723884430069596700:1=1:=rfl
theorem tw8060562821785662972:1=1:=rfl
theorem tw5571399437266216444:1=1:=rfl
theorem tw2406621943657119228:1=1:=rfl
theorem tw1253437644075932092:1=1:=rfl
theorem tw11904941031934877020:1=1:=rfl
theorem tw13154001654789283132:1=1:=rfl
theorem tw5243159528196176124:1=1:=rfl
theorem tw4310270188432123100:1=1:=rfl
theorem tw16305672181175384284:1=1:=rfl
theorem tw3613476055612923068:1=1:=rfl
theorem tw16778611742570070204:1=1:=rfl
theorem tw16551855485269240956:1=1:=rfl
theorem tw12900284412222446716:1=1:=rfl
theorem tw4886955015573163100:1=1:=rfl
theorem tw9942282790977331292:1=1:=rfl
theorem tw9303439499767911484:1=1:=rfl
theorem tw3911810758690780188:1=1:=rfl
theorem tw1098248734344127483:1=1:=rfl
theorem tw10204856939554784155:1=1:=rfl
theorem tw5831584030425509755:1=1:=rfl
theorem tw17223442867436993403:1=1:=rfl
theorem tw17695171507069755227:1=1:=rfl
theorem tw6106196091520820027:1=1:=rfl
theorem tw1548279923187021627:1=1:=rfl
theorem tw8546124895413445307:1=1:=rfl
theorem tw11962923498438245051:1=1:=rfl
theorem tw15098031235356848795:1=1:=rfl
theorem tw10453263994017694363:1=1:=rfl
theorem tw7153082081811710619:1=1:=rfl
theorem tw6590341273101898363:1=1:=rfl
theorem tw1590763530083325563:1=1:=rfl
theorem tw8883465813499100731:1=1:=rfl
theorem tw16035907590883218939:1=1:=rfl
theorem tw18314829044154829275:1=1:=rfl
theorem tw2399826469436781019:1=1:=rfl
theorem tw10992214633131536827:1=1:=rfl
theorem tw11213863890663495067:1=1:=rfl
theorem tw17906638245316424091:1=1:=rfl
theorem tw6741292078354696603:1=1:=rfl
theorem tw2278972029675796859:1=1:=rfl
theorem tw9121559901702372667:1=1:=rfl
theorem tw3583811862363856187:1=1:=rfl
theorem tw17353955331779342651:1=1:=rfl
theorem tw2373237607127697691:1=1:=rfl
theorem tw4540862073306924251:1=1:=rfl
theorem tw14489535830319231195:1=1:=rfl
theorem tw17144978775634262171:1=1:=rfl
theorem tw15465920861327815835:1=1:=rfl
theorem tw6222487380544312443:1=1:=rfl
theorem tw16923884221124529275:1=1:=rfl
theorem tw12431561837914552411:1=1:=rfl
theorem tw12922898485456448571:1=1:=rfl
theorem tw16008457594558532635:1=1:=rfl
theorem tw15803610866087392283:1=1:=rfl
theorem tw13547569757486424058:1=1:=rfl
theorem tw13803360072150633466:1=1:=rfl
theorem tw10987386120367425466:1=1:=rfl
theorem tw16022572192331126682:1=1:=rfl
theorem tw13713940216889387898:1=1:=rfl
theorem tw9515011664573035354:1=1:=rfl
theorem tw14457758005677747962:1=1:=rfl
theorem tw6519269512792494810:1=1:=rfl
theorem tw1707505545463187130:1=1:=rfl
theorem tw48596604365144762:1=1:=rfl
theorem tw1118068078248606362:1=1:=rfl
theorem tw66260789543402106:1=1:=rfl
theorem tw17734603463515337306:1=1:=rfl
theorem tw15062679425460387418:1=1:=rfl
theorem tw716429049611869786:1=1:=rfl
theorem tw9698029418325941786:1=1:=rfl
theorem tw4839478117068044826:1=1:=rfl
theorem tw3934531018447913466:1=1:=rfl
theorem tw6886502059237256666:1=1:=rfl
theorem tw12646911602827044314:1=1:=rfl
theorem tw6655696309031964122:1=1:=rfl
theorem tw13219505800766818778:1=1:=rfl
theorem tw5995161000843957690:1=1:=rfl
theorem tw9498315638749924794:1=1:=rfl
theorem tw7590696779544312186:1=1:=rfl
theorem tw656089360051881306:1=1:=rfl
theorem tw7165207203227711834:1=1:=rfl
theorem tw10543740743216835930:1=1:=rfl
theorem tw5665735395497279834:1=1:=rfl
theorem tw12450111651097656602:1=1:=rfl
theorem tw10642606787283503386:1=1:=rfl
theorem tw765107192605250810:1=1:=rfl
theorem tw9071729483887776986:1=1:=rfl
theorem tw1545906260438175962:1=1:=rfl
theorem tw7639352225515584698:1=1:=rfl
theorem tw1255815211270559930:1=1:=rfl
theorem tw7647378279178456250:1=1:=rfl
theorem tw8118072479153026202:1=1:=rfl
theorem tw16187894506366716058:1=1:=rfl
theorem tw8952462522180670554:1=1:=rfl
theorem tw7173623326730630234:1=1:=rfl
theorem tw2724176850512262202:1=1:=rfl
theorem tw13914785722749861914:1=1:=rfl
theorem tw10044588960856096794:1=1:=rfl
theorem tw10474107093616326617:1=1:=rfl
theorem tw7019240024125815769:1=1:=rfl
theorem tw10298723112805639129:1=1:=rfl
theorem tw3422715526262721465:1=1:=rfl
theorem tw5396188567872606041:1=1:=rfl
theorem tw6334894449686545209:1=1:=rfl
theorem tw12346658559823942425:1=1:=rfl
theorem tw2337230598321646361:1=1:=rfl
theorem tw17431719831054627609:1=1:=rfl
theorem tw8278394305814214361:1=1:=rfl
theorem tw16452447596832230105:1=1:=rfl
theorem tw12741544251441588921:1=1:=rfl
theorem tw7943094425149488825:1=1:=rfl
theorem tw11487549891475536569:1=1:=rfl
theorem tw16798622893749714585:1=1:=rfl
theorem tw4924694640843408985:1=1:=rfl
theorem tw13110970153573199417:1=1:=rfl
theorem tw16046730324260685337:1=1:=rfl
theorem tw15565075772751903193:1=1:=rfl
theorem tw14793117695081215449:1=1:=rfl
theorem tw962193829226610041:1=1:=rfl
theorem tw5203219222101121401:1=1:=rfl
theorem tw15023316991559800185:1=1:=rfl
theorem tw9361300454564663673:1=1:=rfl
theorem tw10455743928339290457:1=1:=rfl
theorem tw3609762217373132089:1=1:=rfl
theorem tw16989488325979979065:1=1:=rfl
theorem tw15410482203810522393:1=1:=rfl
theorem tw13797323745857372409:1=1:=rfl
theorem tw11531331273489700057:1=1:=rfl
theorem tw10876229203375891673:1=1:=rfl
theorem tw15087427406127887449:1=1:=rfl
theorem tw8440099810896429113:1=1:=rfl
theorem tw9369988214560726041:1=1:=rfl
theorem tw33456957511925785:1=1:=rfl
theorem tw11815829001073249272:1=1:=rfl
theorem tw16922381011570985944:1=1:=rfl
theorem tw1285395646154648472:1=1:=rfl
theorem tw7624293977416268664:1=1:=rfl
theorem tw15225127925928830808:1=1:=rfl
theorem tw2744014450722944760:1=1:=rfl
theorem tw11183452524601008856:1=1:=rfl
theorem tw12106859168716417752:1=1:=rfl
theorem tw13626721169425172152:1=1:=rfl
theorem tw9293455121233016472:1=1:=rfl
theorem tw17236958762192778904:1=1:=rfl
theorem tw9656510801202774680:1=1:=rfl
theorem tw1156462466702112376:1=1:=rfl
theorem tw4644634924443464280:1=1:=rfl
theorem tw1409966394225722968:1=1:=rfl
theorem tw12027323910402764344:1=1:=rfl
theorem tw7235775444256392728:1=1:=rfl
theorem tw645136716886899192:1=1:=rfl
theorem tw6283666216762299864:1=1:=rfl
theorem tw6483966928607899096:1=1:=rfl
theorem tw11041547156204584376:1=1:=rfl
theorem tw799486724532869496:1=1:=rfl
theorem tw8809968196449919288:1=1:=rfl
theorem tw1157997071576566072:1=1:=rfl
theorem tw17067035981215421688:1=1:=rfl
theorem tw5102693214775723256:1=1:=rfl
theorem tw15282798724139172088:1=1:=rfl
theorem tw7472237861779093752:1=1:=rfl
theorem tw6254453501864316152:1=1:=rfl
theorem tw10825838108423173272:1=1:=rfl
theorem tw2433702464844828792:1=1:=rfl
theorem tw7623509227018997848:1=1:=rfl
theorem tw16641786646906312760:1=1:=rfl
theorem tw15580989882048331800:1=1:=rfl
theorem tw9925469786538053656:1=1:=rfl
theorem tw10877679251791092727:1=1:=rfl
theorem tw1198661942849946583:1=1:=rfl
theorem tw7691172733374981047:1=1:=rfl
theorem tw9994787619460420439:1=1:=rfl
theorem tw5396361742852586263:1=1:=rfl
theorem tw2921621734765799159:1=1:=rfl
theorem tw2895952525429962455:1=1:=rfl
theorem tw5517759331935216279:1=1:=rfl
theorem tw18325589031809861271:1=1:=rfl
theorem tw18063282731904131703:1=1:=rfl
theorem tw18218335207050127959:1=1:=rfl
theorem tw1216228984421328439:1=1:=rfl
theorem tw5401703158475992631:1=1:=rfl
theorem tw1645717771770832407:1=1:=rfl
theorem tw8834365191522931223:1=1:=rfl
theorem tw7974275031393228247:1=1:=rfl
theorem tw14106445559736802775:1=1:=rfl
theorem tw18385570937342765463:1=1:=rfl
theorem tw8652556701797213591:1=1:=rfl
theorem tw7380652910202371479:1=1:=rfl
theorem tw1150287232629052791:1=1:=rfl
theorem tw17453503289922162039:1=1:=rfl
theorem tw7074144079889050967:1=1:=rfl
theorem tw785246043732427063:1=1:=rfl
theorem tw2238316416991798583:1=1:=rfl
theorem tw10821422270917381399:1=1:=rfl
theorem tw2136821422063795447:1=1:=rfl
theorem tw6663778134991626487:1=1:=rfl
theorem tw16128220689672181975:1=1:=rfl
theorem tw7297187181890747607:1=1:=rfl
theorem tw1277820614484962519:1=1:=rfl
theorem tw16790050636404226231:1=1:=rfl
theorem tw8281396171620568247:1=1:=rfl
theorem tw15510692781650021527:1=1:=rfl
theorem tw18328743936084910167:1=1:=rfl
theorem tw1610520696219057239:1=1:=rfl
theorem tw16832360635688203351:1=1:=rfl
theorem tw4193505271845495863:1=1:=rfl
theorem tw2545593113327048694:1=1:=rfl
theorem tw10665469846841522134:1=1:=rfl
theorem tw11388154006635350966:1=1:=rfl
theorem tw7207530196294247350:1=1:=rfl
theorem tw4026956272090484662:1=1:=rfl
theorem tw11129844816282181526:1=1:=rfl
theorem tw16320729459185622934:1=1:=rfl
theorem tw3549514262204291990:1=1:=rfl
theorem tw13513129261615897462:1=1:=rfl
theorem tw1850612553970854742:1=1:=rfl
theorem tw10255180020182114038:1=1:=rfl
theorem tw9069182735580402390:1=1:=rfl
theorem tw5534937755968359062:1=1:=rfl
theorem tw16396084126727719574:1=1:=rfl
theorem tw11019096307435631222:1=1:=rfl
theorem tw7884331609784382070:1=1:=rfl
theorem tw10101900104965146230:1=1:=rfl
theorem tw4749052000479324790:1=1:=rfl
theorem tw17864028415675338326:1=1:=rfl
theorem tw14805756002866571830:1=1:=rfl
theorem tw13826135203010267670:1=1:=rfl
theorem tw7238065321881607702:1=1:=rfl
theorem tw13838900630717943254:1=1:=rfl
theorem tw13590572293223372214:1=1:=rfl
theorem tw3848698983108048278:1=1:=rfl
theorem tw17904854198161793398:1=1:=rfl
theorem tw4719957520787936630:1=1:=rfl
theorem tw9392487213469676918:1=1:=rfl
theorem tw6605025701479795990:1=1:=rfl
theorem tw9561784451562097942:1=1:=rfl
theorem tw14061640607465278742:1=1:=rfl
theorem tw6674893403203295414:1=1:=rfl
theorem tw14492832472218066102:1=1:=rfl
theorem tw17298425922696826006:1=1:=rfl
theorem tw8557395850702784662:1=1:=rfl
theorem tw15554039934745177238:1=1:=rfl
theorem tw330327031418712150:1=1:=rfl
theorem tw2173562974560187446:1=1:=rfl
theorem tw825611279285605398:1=1:=rfl
theorem tw18344032359734412310:1=1:=rfl
theorem tw12205347405646519318:1=1:=rfl
theorem tw9287587430799945685:1=1:=rfl
theorem tw2583023086579268501:1=1:=rfl
theorem tw3137596982192898869:1=1:=rfl
theorem tw15425874342098770709:1=1:=rfl
theorem tw16651728564920304373:1=1:=rfl
theorem tw10363585996791799541:1=1:=rfl
theorem tw2794983428953441941:1=1:=rfl
theorem tw13293747886898857621:1=1:=rfl
theorem tw3454311308915712629:1=1:=rfl
theorem tw1075715825243056693:1=1:=rfl
theorem tw3136416535801588117:1=1:=rfl
theorem tw13724616953566380437:1=1:=rfl
theorem tw1486339892855113045:1=1:=rfl
theorem tw4544244032028310869:1=1:=rfl
theorem tw453184122279072053:1=1:=rfl
theorem tw7591743695986301205:1=1:=rfl
theorem tw3027586509356016917:1=1:=rfl
theorem tw8436210846270712021:1=1:=rfl
theorem tw15189307732462271701:1=1:=rfl
theorem tw3394367416137920725:1=1:=rfl
theorem tw2921958311620399285:1=1:=rfl
theorem tw18442785490491869365:1=1:=rfl
theorem tw14722489848711283861:1=1:=rfl
theorem tw15928290008803537013:1=1:=rfl
theorem tw2341703837736514645:1=1:=rfl
theorem tw8844999433837080629:1=1:=rfl
theorem tw16863156106696720372:1=1:=rfl
theorem tw3288582142898991060:1=1:=rfl
theorem tw9189880136782149556:1=1:=rfl
theorem tw6584820252761975732:1=1:=rfl
theorem tw3464709057266567092:1=1:=rfl
theorem tw10896356407431480244:1=1:=rfl
theorem tw17025424565251489684:1=1:=rfl
theorem tw2195194259037543316:1=1:=rfl
theorem tw10864377008497418100:1=1:=rfl
theorem tw1519992759497675636:1=1:=rfl
theorem tw16218864148678617972:1=1:=rfl
theorem tw5638201095994319732:1=1:=rfl
theorem tw17958375852430007124:1=1:=rfl
theorem tw11461230924637031220:1=1:=rfl
theorem tw1615045767204293396:1=1:=rfl
theorem tw2821470743931037460:1=1:=rfl
theorem tw5461779845614304980:1=1:=rfl
theorem tw15540984915698410164:1=1:=rfl
theorem tw7010351842590255796:1=1:=rfl
theorem tw2629084897520917108:1=1:=rfl
theorem tw1496695287857109588:1=1:=rfl
theorem tw11156056980113079860:1=1:=rfl
theorem tw9483120023164983764:1=1:=rfl
theorem tw3045742163950154196:1=1:=rfl
theorem tw9184045479044318644:1=1:=rfl
theorem tw17561526911342447988:1=1:=rfl
theorem tw16826212616301561204:1=1:=rfl
theorem tw3160845607165458772:1=1:=rfl
theorem tw5378808338967829844:1=1:=rfl
theorem tw11086099901593105684:1=1:=rfl
theorem tw15270170921892066516:1=1:=rfl
theorem tw6862268138105152660:1=1:=rfl
theorem tw8627561154394265716:1=1:=rfl
theorem tw3867218068155391060:1=1:=rfl
theorem tw6674386428176565332:1=1:=rfl
theorem tw3532412968194664532:1=1:=rfl
theorem tw6868236387235032019:1=1:=rfl
theorem tw15059693217772790739:1=1:=rfl
theorem tw2524017781993486291:1=1:=rfl
theorem tw4216741518440994707:1=1:=rfl
theorem tw17016820405989369747:1=1:=rfl
theorem tw5585478044538960755:1=1:=rfl
theorem tw10665089971535097683:1=1:=rfl
theorem tw16755849432154420019:1=1:=rfl
theorem tw5890889631881817875:1=1:=rfl
theorem tw1261021989165538067:1=1:=rfl
theorem tw8207831470162742035:1=1:=rfl
theorem tw8928990268580360915:1=1:=rfl
theorem tw5352104535322881683:1=1:=rfl
theorem tw9706551924872666739:1=1:=rfl
theorem tw7884273913378172499:1=1:=rfl
theorem tw1289389943133740499:1=1:=rfl
theorem tw6785657489111691699:1=1:=rfl
theorem tw4365514962571936147:1=1:=rfl
theorem tw10114013102757674387:1=1:=rfl
theorem tw2156145737304315219:1=1:=rfl
theorem tw11405101455947879731:1=1:=rfl
theorem tw5450094653865882931:1=1:=rfl
theorem tw16102231251864390963:1=1:=rfl
theorem tw8127475511531132179:1=1:=rfl
theorem tw2714283472998740243:1=1:=rfl
theorem tw17275675667316583603:1=1:=rfl
theorem tw4651154628705390771:1=1:=rfl
theorem tw6252391252262179987:1=1:=rfl
theorem tw14635473669698735251:1=1:=rfl
theorem tw12590340796369385619:1=1:=rfl
theorem tw16136984950599521427:1=1:=rfl
theorem tw6341409668436394099:1=1:=rfl
theorem tw17679725944135375923:1=1:=rfl
theorem tw13227692790652741651:1=1:=rfl
theorem tw10652611922669240339:1=1:=rfl
theorem tw11909259528454963219:1=1:=rfl
theorem tw1781223760143429554:1=1:=rfl
theorem tw8984930932524396370:1=1:=rfl
theorem tw9470667924834194258:1=1:=rfl
theorem tw7929128423345735474:1=1:=rfl
theorem tw1439166485080882:1=1:=rfl
theorem tw6880717277089553138:1=1:=rfl
theorem tw5797031442667253490:1=1:=rfl
theorem tw12332102779922042578:1=1:=rfl
theorem tw14027650596787315314:1=1:=rfl
theorem tw3370842686811476594:1=1:=rfl
theorem tw11490900464029743698:1=1:=rfl
theorem tw4189750870438640210:1=1:=rfl
theorem tw17647351573629430322:1=1:=rfl
theorem tw14161465996007527954:1=1:=rfl
theorem tw9508770018378322450:1=1:=rfl
theorem tw3748114642381145586:1=1:=rfl
theorem tw14909365282108701170:1=1:=rfl
theorem tw918671981122897330:1=1:=rfl
theorem tw341453280667917650:1=1:=rfl
theorem tw3635900802997115186:1=1:=rfl
theorem tw12608185968620612914:1=1:=rfl
theorem tw13995172100960836882:1=1:=rfl
theorem tw16304157974115477746:1=1:=rfl
theorem tw11403970630465759474:1=1:=rfl
theorem tw5518243967957118194:1=1:=rfl
theorem tw8708525158762292434:1=1:=rfl
theorem tw11789403723227289746:1=1:=rfl
theorem tw16817993663026736274:1=1:=rfl
theorem tw6632538468102435922:1=1:=rfl
theorem tw17767330081159143506:1=1:=rfl
theorem tw4812270449578504274:1=1:=rfl
theorem tw14060465935940456498:1=1:=rfl
theorem tw18031918436515192882:1=1:=rfl
theorem tw7093617532817203218:1=1:=rfl
theorem tw7008153826215325649:1=1:=rfl
theorem tw16424990018577422225:1=1:=rfl
theorem tw12885385263037960081:1=1:=rfl
theorem tw17147588175821073265:1=1:=rfl
theorem tw9682133043923132273:1=1:=rfl
theorem tw13503263706703578961:1=1:=rfl
theorem tw16033097090804400913:1=1:=rfl
theorem tw11967333016625521393:1=1:=rfl
theorem tw3960113756560652017:1=1:=rfl
theorem tw15579395750891953841:1=1:=rfl
theorem tw18392154025008590481:1=1:=rfl
theorem tw1429040668314091153:1=1:=rfl
theorem tw13980345723018547825:1=1:=rfl
theorem tw9897820754763898449:1=1:=rfl
theorem tw4072190877284726289:1=1:=rfl
theorem tw12839114828313443825:1=1:=rfl
theorem tw14235155234550121937:1=1:=rfl
theorem tw16251939892948500945:1=1:=rfl
theorem tw358491910552652209:1=1:=rfl
theorem tw999921117144633713:1=1:=rfl
theorem tw4034048572721927537:1=1:=rfl
theorem tw10283388844273144081:1=1:=rfl
theorem tw5921134243170700561:1=1:=rfl
theorem tw748011227583169745:1=1:=rfl
theorem tw11041858737867550897:1=1:=rfl
theorem tw2544328076492683441:1=1:=rfl
theorem tw6559806142732475569:1=1:=rfl
theorem tw15616401959046598769:1=1:=rfl
theorem tw12304082900475741265:1=1:=rfl
theorem tw452746233719593009:1=1:=rfl
theorem tw16572128252103988241:1=1:=rfl
theorem tw13667920496262714385:1=1:=rfl
theorem tw12343854547171428336:1=1:=rfl
theorem tw16008252555379753968:1=1:=rfl
theorem tw8651587035891514320:1=1:=rfl
theorem tw11614107205274993552:1=1:=rfl
theorem tw6542085627976250192:1=1:=rfl
theorem tw5871769198996169552:1=1:=rfl
theorem tw16153351446899991344:1=1:=rfl
theorem tw8905992674379837232:1=1:=rfl
theorem tw17118054049896295152:1=1:=rfl
theorem tw12942913107403878096:1=1:=rfl
theorem tw7904437144335635152:1=1:=rfl
theorem tw6768520987592691376:1=1:=rfl
theorem tw12748397558918655664:1=1:=rfl
theorem tw1092785777240315536:1=1:=rfl
theorem tw17974016328880235120:1=1:=rfl
theorem tw11933201153402537488:1=1:=rfl
theorem tw2702614204127132176:1=1:=rfl
theorem tw11218778669853930896:1=1:=rfl
theorem tw18190005008629794160:1=1:=rfl
theorem tw8729708805864041840:1=1:=rfl
theorem tw4681395471914393968:1=1:=rfl
theorem tw12885673836220544336:1=1:=rfl
theorem tw13260870731297125680:1=1:=rfl
theorem tw6565609875121592624:1=1:=rfl
theorem tw15734200111481486640:1=1:=rfl
theorem tw6877560268529008848:1=1:=rfl
theorem tw9805168224760091760:1=1:=rfl
theorem tw5418533224930618480:1=1:=rfl
theorem tw6437645805973890128:1=1:=rfl
theorem tw14798791472264738832:1=1:=rfl
theorem tw14554314840745968623:1=1:=rfl
theorem tw5400957986263281647:1=1:=rfl
theorem tw5104194264097766351:1=1:=rfl
theorem tw7514964652732493775:1=1:=rfl
theorem tw17725498274588495791:1=1:=rfl
theorem tw9964214247947446159:1=1:=rfl
theorem tw9458421452666605423:1=1:=rfl
theorem tw15461212566085484399:1=1:=rfl
theorem tw13180746182150919023:1=1:=rfl
theorem tw5289026146741335887:1=1:=rfl
theorem tw1372806426800153423:1=1:=rfl
theorem tw4350604851675314991:1=1:=rfl
theorem tw6696893160125735727:1=1:=rfl
theorem tw474381771622712015:1=1:=rfl
theorem tw3829396358689915599:1=1:=rfl
theorem tw7108953243070827183:1=1:=rfl
theorem tw17262041522474090127:1=1:=rfl
theorem tw4946776927847147119:1=1:=rfl
theorem tw13876859957761632879:1=1:=rfl
theorem tw9272984997812220495:1=1:=rfl
theorem tw10234815189450012239:1=1:=rfl
theorem tw9394770849952503311:1=1:=rfl
theorem tw17871620999419790863:1=1:=rfl
theorem tw3203809635103463919:1=1:=rfl
theorem tw17510229520200029679:1=1:=rfl
theorem tw11982392923317675503:1=1:=rfl
theorem tw17456035664235451855:1=1:=rfl
theorem tw12692632004510240207:1=1:=rfl
theorem tw10094358506670053839:1=1:=rfl
theorem tw7268301785047649679:1=1:=rfl
theorem tw15387884906608193903:1=1:=rfl
theorem tw4500915450034043215:1=1:=rfl
theorem tw14637806741061077295:1=1:=rfl
theorem tw18421580907717582127:1=1:=rfl
theorem tw16877947373546393871:1=1:=rfl
theorem tw18199898527192825103:1=1:=rfl
theorem tw73751810991705359:1=1:=rfl
theorem tw15136431859952498927:1=1:=rfl
theorem tw8478376212529829071:1=1:=rfl
theorem tw17096532924672817327:1=1:=rfl
theorem tw2923286348875671695:1=1:=rfl
theorem tw13148611719377898607:1=1:=rfl
theorem tw9368617206455126095:1=1:=rfl
theorem tw4630824681090250767:1=1:=rfl
theorem tw1678875084529416142:1=1:=rfl
theorem tw8748973510418095054:1=1:=rfl
theorem tw15606653302220566414:1=1:=rfl
theorem tw12838146573782453134:1=1:=rfl
theorem tw3779293765908593550:1=1:=rfl
theorem tw5532463470591059822:1=1:=rfl
theorem tw6455149578367423246:1=1:=rfl
theorem tw13972245371655741198:1=1:=rfl
theorem tw13642826006792871662:1=1:=rfl
theorem tw983542388872702638:1=1:=rfl
theorem tw15244097889725654702:1=1:=rfl
theorem tw8249873531624179374:1=1:=rfl
theorem tw5127751686995613262:1=1:=rfl
theorem tw16026485685270457870:1=1:=rfl
theorem tw4650958065196391918:1=1:=rfl
theorem tw2019394398466159022:1=1:=rfl
theorem tw7332552209862256014:1=1:=rfl
theorem tw13974046611088194958:1=1:=rfl
theorem tw1826329307503635854:1=1:=rfl
theorem tw6912675738884088206:1=1:=rfl
theorem tw13348322127785295214:1=1:=rfl
theorem tw451873465583785326:1=1:=rfl
theorem tw979501456738626862:1=1:=rfl
theorem tw2287757881348798766:1=1:=rfl
theorem tw3459380146013217038:1=1:=rfl
theorem tw3562595001068472590:1=1:=rfl
theorem tw15643365686152983790:1=1:=rfl
theorem tw16959884160788844718:1=1:=rfl
theorem tw12800608258095302798:1=1:=rfl
theorem tw6657087868060814:1=1:=rfl
theorem tw6053611964639427726:1=1:=rfl
theorem tw13962693860625380366:1=1:=rfl
theorem tw9175052073728820173:1=1:=rfl
theorem tw13532707612510029741:1=1:=rfl
theorem tw8634654232796393261:1=1:=rfl
theorem tw545269030811804461:1=1:=rfl
theorem tw1886080085820668685:1=1:=rfl
theorem tw15445229340043853549:1=1:=rfl
theorem tw18288009448212308685:1=1:=rfl
theorem tw1632041292262086317:1=1:=rfl
theorem tw8484041278411425421:1=1:=rfl
theorem tw1178595665728414349:1=1:=rfl
theorem tw17413556829735388813:1=1:=rfl
theorem tw5456330333991267789:1=1:=rfl
theorem tw4585930131862741453:1=1:=rfl
theorem tw11239335112260394413:1=1:=rfl
theorem tw7875838824674609581:1=1:=rfl
theorem tw14443092014599818573:1=1:=rfl
theorem tw3466206800631347469:1=1:=rfl
theorem tw854977524454699277:1=1:=rfl
theorem tw7221758910455160077:1=1:=rfl
theorem tw6384028539975533837:1=1:=rfl
theorem tw12170992721606120685:1=1:=rfl
theorem tw9381886862466946253:1=1:=rfl
theorem tw15734102841257232589:1=1:=rfl
theorem tw7699798408344515789:1=1:=rfl
theorem tw2542808073141276813:1=1:=rfl
theorem tw966387348206115949:1=1:=rfl
theorem tw18134284020713443437:1=1:=rfl
theorem tw7186131708394509389:1=1:=rfl
theorem tw12093647306153771053:1=1:=rfl
theorem tw10813080517026676716:1=1:=rfl
theorem tw9730157408454304684:1=1:=rfl
theorem tw3234112476842188716:1=1:=rfl
theorem tw15595112118272840620:1=1:=rfl
theorem tw6690441779611380620:1=1:=rfl
theorem tw9670510015898674028:1=1:=rfl
theorem tw4637267157515435788:1=1:=rfl
theorem tw16357356043003861740:1=1:=rfl
theorem tw14390754486103292620:1=1:=rfl
theorem tw14313897822631088780:1=1:=rfl
theorem tw10985888656933367436:1=1:=rfl
theorem tw9274054859765456524:1=1:=rfl
theorem tw14814594519894181452:1=1:=rfl
theorem tw10199874654664476236:1=1:=rfl
theorem tw14639212616227390028:1=1:=rfl
theorem tw8090509862211737132:1=1:=rfl
theorem tw17438294365789470252:1=1:=rfl
theorem tw8707812797481193996:1=1:=rfl
theorem tw1130211791997205004:1=1:=rfl
theorem tw9512817274939609580:1=1:=rfl
theorem tw18302796317244248524:1=1:=rfl
theorem tw18315214858253571532:1=1:=rfl
theorem tw13591255225166038476:1=1:=rfl
theorem tw1318968915056948652:1=1:=rfl
theorem tw15131278010643852716:1=1:=rfl
theorem tw12941917028564957548:1=1:=rfl
theorem tw8930851030842425676:1=1:=rfl
theorem tw6801380410627298636:1=1:=rfl
theorem tw8663697691656813868:1=1:=rfl
theorem tw12732289081945773324:1=1:=rfl
theorem tw14377536511252160716:1=1:=rfl
theorem tw3262662943086543052:1=1:=rfl
theorem tw7070123817558143148:1=1:=rfl
theorem tw14020873708864708748:1=1:=rfl
theorem tw9703084557020090508:1=1:=rfl
theorem tw6921685317656363116:1=1:=rfl
theorem tw4420394385881154636:1=1:=rfl
theorem tw4244067443239231564:1=1:=rfl
theorem tw15970538086172389420:1=1:=rfl
theorem tw16721930046160240684:1=1:=rfl
theorem tw11646826074482590764:1=1:=rfl
theorem tw16689149305811164139:1=1:=rfl
theorem tw17708487481403421675:1=1:=rfl
theorem tw7846812961960373227:1=1:=rfl
theorem tw5790326737455844299:1=1:=rfl
theorem tw3905226178654972811:1=1:=rfl
theorem tw18403998269306519403:1=1:=rfl
theorem tw5004366561265856203:1=1:=rfl
theorem tw6788530277367551627:1=1:=rfl
theorem tw4047586217144654443:1=1:=rfl
theorem tw832900586485598795:1=1:=rfl
theorem tw7563215957194029611:1=1:=rfl
theorem tw2279707942289718827:1=1:=rfl
theorem tw4330594992337426955:1=1:=rfl
theorem tw750237026923860459:1=1:=rfl
theorem tw2496676261509829067:1=1:=rfl
theorem tw833945537157984683:1=1:=rfl
theorem tw10169072693733980587:1=1:=rfl
theorem tw16501172079758305675:1=1:=rfl
theorem tw14336716466608126219:1=1:=rfl
theorem tw2127038452521536779:1=1:=rfl
theorem tw11049269918873537771:1=1:=rfl
theorem tw5842977544298395883:1=1:=rfl
theorem tw10123989817122485451:1=1:=rfl
theorem tw18165044119631177899:1=1:=rfl
theorem tw12519306246395310219:1=1:=rfl
theorem tw12987577155417789579:1=1:=rfl
theorem tw8153860185051352139:1=1:=rfl
theorem tw11710404883906591787:1=1:=rfl
theorem tw6087835443962453003:1=1:=rfl
theorem tw9011639564254621642:1=1:=rfl
theorem tw10334261112615635914:1=1:=rfl
theorem tw104360540948158410:1=1:=rfl
theorem tw16356685582667847594:1=1:=rfl
theorem tw1041082287264499562:1=1:=rfl
theorem tw7697417962357392202:1=1:=rfl
theorem tw1319676515408343850:1=1:=rfl
theorem tw16203622797070002922:1=1:=rfl
theorem tw16765925921980633802:1=1:=rfl
theorem tw13777938177461255882:1=1:=rfl
theorem tw5502569546826302122:1=1:=rfl
theorem tw11463369355524808266:1=1:=rfl
theorem tw17290568124846718506:1=1:=rfl
theorem tw13113777628852026922:1=1:=rfl
theorem tw1628013610222277130:1=1:=rfl
theorem tw31828345220925962:1=1:=rfl
theorem tw2965820268544440810:1=1:=rfl
theorem tw12570134572688502250:1=1:=rfl
theorem tw1504049600530537962:1=1:=rfl
theorem tw14406990849044604362:1=1:=rfl
theorem tw7698036289167662538:1=1:=rfl
theorem tw8548823596671561066:1=1:=rfl
theorem tw6237627108579964202:1=1:=rfl
theorem tw161903638078081290:1=1:=rfl
theorem tw9626384672669237482:1=1:=rfl
theorem tw18431692314602308842:1=1:=rfl
theorem tw2033968301974640842:1=1:=rfl
theorem tw6855474311058116810:1=1:=rfl
theorem tw14218914174604095658:1=1:=rfl
theorem tw5240536507193477226:1=1:=rfl
theorem tw11390293659975261258:1=1:=rfl
theorem tw8567518541235275850:1=1:=rfl
theorem tw4156125974679941130:1=1:=rfl
theorem tw10625486282989778954:1=1:=rfl
theorem tw18446094637698972617:1=1:=rfl
theorem tw2428412748925179849:1=1:=rfl
theorem tw2900998541784483753:1=1:=rfl
theorem tw11595355409239048105:1=1:=rfl
theorem tw4990475226369331113:1=1:=rfl
theorem tw3557749057250611081:1=1:=rfl
theorem tw10343895691084006217:1=1:=rfl
theorem tw10483362588635715401:1=1:=rfl
theorem tw11020365191643786025:1=1:=rfl
theorem tw6164561884633627433:1=1:=rfl
theorem tw1454224541498743561:1=1:=rfl
theorem tw6702130215012162313:1=1:=rfl
theorem tw5677329702179833609:1=1:=rfl
theorem tw588950844065142505:1=1:=rfl
theorem tw12872379398031375081:1=1:=rfl
theorem tw2402762420636078793:1=1:=rfl
theorem tw234599468654550697:1=1:=rfl
theorem tw12992176717851604617:1=1:=rfl
theorem tw15737690656516749961:1=1:=rfl
theorem tw12431731261707249289:1=1:=rfl
theorem tw9800874449034162761:1=1:=rfl
theorem tw2343935838158425641:1=1:=rfl
theorem tw17699438841360665129:1=1:=rfl
theorem tw13693970394777133609:1=1:=rfl
theorem tw613567027398061577:1=1:=rfl
theorem tw18092606169130929673:1=1:=rfl
theorem tw15589955886551607785:1=1:=rfl
theorem tw4261964983698606537:1=1:=rfl
theorem tw17268439761433841065:1=1:=rfl
theorem tw13077236301305049449:1=1:=rfl
theorem tw10450603732522932521:1=1:=rfl
theorem tw7358942708152152329:1=1:=rfl
theorem tw1453356044741674121:1=1:=rfl
theorem tw3056878081241006185:1=1:=rfl
theorem tw1415428593365352553:1=1:=rfl
theorem tw4908570168794737769:1=1:=rfl
theorem tw6535589618603614281:1=1:=rfl
theorem tw17052023290607921161:1=1:=rfl
theorem tw1980160206288974728:1=1:=rfl
theorem tw7142256002058171272:1=1:=rfl
theorem tw10418042200766032776:1=1:=rfl
theorem tw1270039299266317192:1=1:=rfl
theorem tw7884424946968866664:1=1:=rfl
theorem tw10140136200207757160:1=1:=rfl
theorem tw8283060676807011144:1=1:=rfl
theorem tw3706830351922483016:1=1:=rfl
theorem tw7972779244933481256:1=1:=rfl
theorem tw4088224383575840552:1=1:=rfl
theorem tw6404898279339705064:1=1:=rfl
theorem tw17477492558424962760:1=1:=rfl
theorem tw15734660467963936456:1=1:=rfl
theorem tw7742616358663508648:1=1:=rfl
theorem tw14097447854668400296:1=1:=rfl
theorem tw7751025194823839400:1=1:=rfl
theorem tw14864641218109852296:1=1:=rfl
theorem tw5768018617931124328:1=1:=rfl
theorem tw7308723440029596264:1=1:=rfl
theorem tw4139100593308808776:1=1:=rfl
theorem tw16355746345580011080:1=1:=rfl
theorem tw16320215318167395912:1=1:=rfl
theorem tw14161005256144132680:1=1:=rfl
theorem tw4452170602077327944:1=1:=rfl
theorem tw244467455267321384:1=1:=rfl
theorem tw12057704586751987240:1=1:=rfl
theorem tw18238007617527299592:1=1:=rfl
theorem tw3714520120236048840:1=1:=rfl
theorem tw12455012482086183272:1=1:=rfl
theorem tw6688985731102667080:1=1:=rfl
theorem tw8496349624203035976:1=1:=rfl
theorem tw6161133996638707016:1=1:=rfl
theorem tw11403851563620829512:1=1:=rfl
theorem tw11923525502935528744:1=1:=rfl
theorem tw12675357926760492328:1=1:=rfl
theorem tw6788695710022549768:1=1:=rfl
theorem tw52199770228462824:1=1:=rfl
theorem tw15079240505294077160:1=1:=rfl
theorem tw9573086628692744296:1=1:=rfl
theorem tw12054347829373619304:1=1:=rfl
theorem tw16153842264607907944:1=1:=rfl
theorem tw12594366453804578888:1=1:=rfl
theorem tw13132915859168520264:1=1:=rfl
theorem tw4039676971129161736:1=1:=rfl
theorem tw5781596087445459943:1=1:=rfl
theorem tw7299474751278700455:1=1:=rfl
theorem tw4324958949535026087:1=1:=rfl
theorem tw16049902774474827687:1=1:=rfl
theorem tw5618498241397997447:1=1:=rfl
theorem tw10463206416058312583:1=1:=rfl
theorem tw11261727412033496967:1=1:=rfl
theorem tw1519927702969063271:1=1:=rfl
theorem tw10564528347858357063:1=1:=rfl
theorem tw17644181745481072423:1=1:=rfl
theorem tw470481871638761223:1=1:=rfl
theorem tw18178676814319149831:1=1:=rfl
theorem tw16519101796099990279:1=1:=rfl
theorem tw65644731488775911:1=1:=rfl
theorem tw11135027115929721415:1=1:=rfl
theorem tw16965079339398995527:1=1:=rfl
theorem tw9432497158254318119:1=1:=rfl
theorem tw7472368607099979303:1=1:=rfl
theorem tw11218051484880756263:1=1:=rfl
theorem tw8475525182357872103:1=1:=rfl
theorem tw13350764725976880583:1=1:=rfl
theorem tw5061512775090418087:1=1:=rfl
theorem tw17737603089517620647:1=1:=rfl
theorem tw16629339528299215175:1=1:=rfl
theorem tw12653679108036650311:1=1:=rfl
theorem tw12518504611687188807:1=1:=rfl
theorem tw13465503431842376007:1=1:=rfl
theorem tw5372645768047454471:1=1:=rfl
theorem tw15642941266545998023:1=1:=rfl
theorem tw11716418206903941319:1=1:=rfl
theorem tw11476092923266045095:1=1:=rfl
theorem tw12014785543569010823:1=1:=rfl
theorem tw8046773169563483271:1=1:=rfl
theorem tw3893045249132586119:1=1:=rfl
theorem tw4838787530573997063:1=1:=rfl
theorem tw15514936471743626214:1=1:=rfl
theorem tw17272174723667511238:1=1:=rfl
theorem tw2363833142923657126:1=1:=rfl
theorem tw9161159452563919750:1=1:=rfl
theorem tw12909650291622432550:1=1:=rfl
theorem tw5435614590818080486:1=1:=rfl
theorem tw2852251193174398662:1=1:=rfl
theorem tw9681375758050803366:1=1:=rfl
theorem tw10567084921333377638:1=1:=rfl
theorem tw10652863235454686790:1=1:=rfl
theorem tw471287901995484742:1=1:=rfl
theorem tw14009396871252706886:1=1:=rfl
theorem tw7273056430967151046:1=1:=rfl
theorem tw4044139247061151142:1=1:=rfl
theorem tw16952715711813285254:1=1:=rfl
theorem tw10707853282979444102:1=1:=rfl
theorem tw8528285597010949478:1=1:=rfl
theorem tw4458048076830672230:1=1:=rfl
theorem tw6511744376749373798:1=1:=rfl
theorem tw12298629886278197574:1=1:=rfl
theorem tw10750994468655217958:1=1:=rfl
theorem tw6639522245352263942:1=1:=rfl
theorem tw11554813239044494598:1=1:=rfl
theorem tw13597483153833180358:1=1:=rfl
theorem tw16411370214107742406:1=1:=rfl
theorem tw3750506576032048294:1=1:=rfl
theorem tw15350898050860989542:1=1:=rfl
theorem tw8228058824784995430:1=1:=rfl
theorem tw9903775340124721222:1=1:=rfl
theorem tw6545385358150927430:1=1:=rfl
theorem tw365850788961202214:1=1:=rfl
theorem tw7939164064552038406:1=1:=rfl
theorem tw18162592725011693541:1=1:=rfl
theorem tw2456247091588846565:1=1:=rfl
theorem tw14646587721710459877:1=1:=rfl
theorem tw13402765919934010277:1=1:=rfl
theorem tw16806246253224384389:1=1:=rfl
theorem tw6935676897619631941:1=1:=rfl
theorem tw1469836325065767749:1=1:=rfl
theorem tw5665406974723832613:1=1:=rfl
theorem tw2158663897258728165:1=1:=rfl
theorem tw1714950047550659301:1=1:=rfl
theorem tw15957597259013190341:1=1:=rfl
theorem tw3305931106042330821:1=1:=rfl
theorem tw14759895335926876869:1=1:=rfl
theorem tw14377180257169084997:1=1:=rfl
theorem tw4258463428174104133:1=1:=rfl
theorem tw3298483428156984901:1=1:=rfl
theorem tw16544489699163171333:1=1:=rfl
theorem tw9268297945177815525:1=1:=rfl
theorem tw7083192437325867461:1=1:=rfl
theorem tw8467378866343419333:1=1:=rfl
theorem tw16451033083921036709:1=1:=rfl
theorem tw10149618387772673413:1=1:=rfl
theorem tw9253799994812790149:1=1:=rfl
theorem tw2906824675625879941:1=1:=rfl
theorem tw10953687544409504101:1=1:=rfl
theorem tw917386388269078853:1=1:=rfl
theorem tw14662554035588321541:1=1:=rfl
theorem tw9190990891756207365:1=1:=rfl
theorem tw12623159325031504133:1=1:=rfl
theorem tw7487416344156704005:1=1:=rfl
theorem tw8211959896082780389:1=1:=rfl
theorem tw17943756269633507525:1=1:=rfl
theorem tw15277975159832343749:1=1:=rfl
theorem tw11001617756164336837:1=1:=rfl
theorem tw12974819211118642341:1=1:=rfl
theorem tw14364048958407549093:1=1:=rfl
theorem tw6910295442248876197:1=1:=rfl
theorem tw15955573374722617477:1=1:=rfl
theorem tw15312394840280087653:1=1:=rfl
theorem tw5234446048077146213:1=1:=rfl
theorem tw8947760058931562597:1=1:=rfl
theorem tw8260724100714396741:1=1:=rfl
theorem tw1390771862084280389:1=1:=rfl
theorem tw17659147809683748901:1=1:=rfl
theorem tw15017983477296125989:1=1:=rfl
theorem tw6516198228755648517:1=1:=rfl
theorem tw372505627349444580:1=1:=rfl
theorem tw125026421149269988:1=1:=rfl
theorem tw11125538497796368324:1=1:=rfl
theorem tw11725999154989108132:1=1:=rfl
theorem tw12252054271945606052:1=1:=rfl
theorem tw834873547066669988:1=1:=rfl
theorem tw1046443281632482020:1=1:=rfl
theorem tw15097543051748444868:1=1:=rfl
theorem tw14539993770535171780:1=1:=rfl
theorem tw9840939614602229412:1=1:=rfl
theorem tw12291571815693698692:1=1:=rfl
theorem tw12222963475772708484:1=1:=rfl
theorem tw6234934611588079204:1=1:=rfl
theorem tw1587290215689348708:1=1:=rfl
theorem tw16757190730947197508:1=1:=rfl
theorem tw10663580350406149668:1=1:=rfl
theorem tw5160751907100791332:1=1:=rfl
theorem tw2225956059507018244:1=1:=rfl
theorem tw4502447428920916452:1=1:=rfl
theorem tw7113585516715319716:1=1:=rfl
theorem tw2729793432009153956:1=1:=rfl
theorem tw15022946984557111684:1=1:=rfl
theorem tw6140287776057189764:1=1:=rfl
theorem tw11374851513655246148:1=1:=rfl
theorem tw13313126695403321540:1=1:=rfl
theorem tw962032349192862916:1=1:=rfl
theorem tw8905464785575363620:1=1:=rfl
theorem tw7214478077546791972:1=1:=rfl
theorem tw11857135199678951331:1=1:=rfl
theorem tw11101190512080308003:1=1:=rfl
theorem tw17146568849442343683:1=1:=rfl
theorem tw387501639795913443:1=1:=rfl
theorem tw49674306023711395:1=1:=rfl
theorem tw17403364634526059139:1=1:=rfl
theorem tw8466321980469482115:1=1:=rfl
theorem tw12702744160499308131:1=1:=rfl
theorem tw5837888446457221635:1=1:=rfl
theorem tw14849204138880929251:1=1:=rfl
theorem tw2647654807098235363:1=1:=rfl
theorem tw4475767826048309731:1=1:=rfl
theorem tw12959741745000181155:1=1:=rfl
theorem tw15558288988949320067:1=1:=rfl
theorem tw4605139254293405059:1=1:=rfl
theorem tw10609540516017602915:1=1:=rfl
theorem tw17185042187573640451:1=1:=rfl
theorem tw9957550378297406723:1=1:=rfl
theorem tw4900431672193113347:1=1:=rfl
theorem tw2007339730380871907:1=1:=rfl
theorem tw3626430660855392483:1=1:=rfl
theorem tw4817600198373253283:1=1:=rfl
theorem tw11409991511011244131:1=1:=rfl
theorem tw15467891735981029475:1=1:=rfl
theorem tw18284262389922463811:1=1:=rfl
theorem tw13224007501803129859:1=1:=rfl
theorem tw15672986146971166658:1=1:=rfl
theorem tw3220561703981169602:1=1:=rfl
theorem tw14666387041718499266:1=1:=rfl
theorem tw6508729118710982530:1=1:=rfl
theorem tw1084220662915027778:1=1:=rfl
theorem tw6785432497481299714:1=1:=rfl
theorem tw961187720498965250:1=1:=rfl
theorem tw11785714552879321826:1=1:=rfl
theorem tw6697339332421208802:1=1:=rfl
theorem tw10669944970481658594:1=1:=rfl
theorem tw6264281720289328834:1=1:=rfl
theorem tw11092141859048813250:1=1:=rfl
theorem tw6075091234017535682:1=1:=rfl
theorem tw1142173933681417890:1=1:=rfl
theorem tw16950194794029067938:1=1:=rfl
theorem tw16292202817602668162:1=1:=rfl
theorem tw4297412468100583042:1=1:=rfl
theorem tw1306636233014830658:1=1:=rfl
theorem tw13306352142949925410:1=1:=rfl
theorem tw14907226015203709474:1=1:=rfl
theorem tw7298748307773712898:1=1:=rfl
theorem tw11752208632293872130:1=1:=rfl
theorem tw9302470337196694018:1=1:=rfl
theorem tw12139096438432415106:1=1:=rfl
theorem tw7411558596216406370:1=1:=rfl
theorem tw5613160597433933154:1=1:=rfl
theorem tw2675658811408624930:1=1:=rfl
theorem tw10391951854915411234:1=1:=rfl
theorem tw15303317825217679618:1=1:=rfl
theorem tw4038153913678941442:1=1:=rfl
theorem tw14698241182937546978:1=1:=rfl
theorem tw16135426469972691074:1=1:=rfl
theorem tw223528310411579522:1=1:=rfl
theorem tw5671064798259553346:1=1:=rfl
theorem tw14168887731352723522:1=1:=rfl
theorem tw11987853993630220354:1=1:=rfl
theorem tw6389877041954997217:1=1:=rfl
theorem tw15109750227778091905:1=1:=rfl
theorem tw4638281056170512193:1=1:=rfl
theorem tw15624239662980076321:1=1:=rfl
theorem tw892681787802806017:1=1:=rfl
theorem tw15608450976537380609:1=1:=rfl
theorem tw15365013842991253249:1=1:=rfl
theorem tw8879939841973710529:1=1:=rfl
theorem tw12077450504624328385:1=1:=rfl
theorem tw11559906213219033761:1=1:=rfl
theorem tw16193401482309157537:1=1:=rfl
theorem tw1242282695825638017:1=1:=rfl
theorem tw6635558491612396129:1=1:=rfl
theorem tw9716624006974247489:1=1:=rfl
theorem tw9406782406253462049:1=1:=rfl
theorem tw6907636171062424033:1=1:=rfl
theorem tw12255313618399501761:1=1:=rfl
theorem tw15768048840197415361:1=1:=rfl
theorem tw9376575566392132001:1=1:=rfl
theorem tw14216407083858561409:1=1:=rfl
theorem tw17585224947871030625:1=1:=rfl
theorem tw11614346279706655073:1=1:=rfl
theorem tw13110577991587790113:1=1:=rfl
theorem tw3370190323706015969:1=1:=rfl
theorem tw13676971244355772609:1=1:=rfl
theorem tw6214117541549086881:1=1:=rfl
theorem tw2110754180369666209:1=1:=rfl
theorem tw17715262827843222689:1=1:=rfl
theorem tw9156686268802561153:1=1:=rfl
theorem tw3222223853247747169:1=1:=rfl
theorem tw4413345314126155841:1=1:=rfl
theorem tw12245857906982125569:1=1:=rfl
theorem tw17292155258170135553:1=1:=rfl
theorem tw14064073609400967072:1=1:=rfl
theorem tw12670839924663504800:1=1:=rfl
theorem tw9483696857397876608:1=1:=rfl
theorem tw3627144658338631552:1=1:=rfl
theorem tw3796207824708393856:1=1:=rfl
theorem tw10201359505653846880:1=1:=rfl
theorem tw6449824600675878752:1=1:=rfl
theorem tw6557543464795787104:1=1:=rfl
theorem tw16508919721030705984:1=1:=rfl
theorem tw1027651156746619712:1=1:=rfl
theorem tw12747388180105724736:1=1:=rfl
theorem tw12483276189755474720:1=1:=rfl
theorem tw5616070069386785504:1=1:=rfl
theorem tw17495560712657236704:1=1:=rfl
theorem tw9808303207383738048:1=1:=rfl
theorem tw7439787175107056256:1=1:=rfl
theorem tw4036238207498611232:1=1:=rfl
theorem tw11501822485730972192:1=1:=rfl
theorem tw6541472054586571296:1=1:=rfl
theorem tw1677766988990989824:1=1:=rfl
theorem tw9976160756891316704:1=1:=rfl
theorem tw5084117380071580128:1=1:=rfl
theorem tw54841869916938688:1=1:=rfl
theorem tw4491334807805099456:1=1:=rfl
theorem tw12463224122652932544:1=1:=rfl
theorem tw8404659333953806752:1=1:=rfl
theorem tw7073996269223845280:1=1:=rfl
theorem tw6981815665589151136:1=1:=rfl
theorem tw2058021452347087232:1=1:=rfl
theorem tw326469082190230912:1=1:=rfl
theorem tw13157206579259725088:1=1:=rfl
theorem tw15438212644395081984:1=1:=rfl
theorem tw5240779543111244032:1=1:=rfl
theorem tw9557352009045844224:1=1:=rfl
theorem tw11774690029378154688:1=1:=rfl
theorem tw7237411587787531456:1=1:=rfl
theorem tw480701840831765632:1=1:=rfl
theorem tw7675930258259734528:1=1:=rfl
theorem tw1054321117371714560:1=1:=rfl
theorem tw11003572833241299968:1=1:=rfl
end main
set_option Elab.async true
set_option tactic.hygienic true
set_option maxHeartbeats 8000000
theorem main:PySem.Challenge.rw_on0199_01.Holds:=by
 (w_on;o_law;k_head;(case hw=>w_witness2))
 k_go0
 rename_i w jl s₁ mg mb G Y fa o pm doc kV ho hg KX X V GL T B TE TW w9 w8 M w7 w6 hcd ns hs hlay0 Zh hr1 Yn w4 w3 l vs w0 hL ra w1 r0 hI hr hcond1 hcond K0 hD dT F N0
 have O:=Cfg.Ok.of (c:=⟨PySem.Challenge.rw_on0199_01.row.prog,w,s₁.heap,_,mg,mb⟩) KX T.g T.b T.builtins T.nolimit (T.seer (by rfl)) rfl (by kernel_rfl) (by kernel_rfl)
 have FN:=cp.of O (Ju _) (by kernel_rfl) (by kernel_rfl) (by kernel_rfl) (by kernel_rfl) (by kernel_rfl) (by kernel_rfl)
 refine Qw (d:=30) (n:=60) O (Ju _) (by decide) (Nat.succ_pos _) hL hI F rfl rfl rfl rfl (by decide+kernel) ?_ ?_
 ·exact Py FN (by omega)
 ·intro h' t' dr kp
  exact ⟨.inl ⟨_,_,[],rfl,fun _=>rfl,ReadsW.bool true,by first | rfl | wrow_post,fun _=>⟨List.nodup_nil,fun _ hm=>(nomatch hm)⟩⟩,kp,rfl,hg⟩
end Mine
theorem PySem.Challenge.cw_on0199_01_holds : PySem.Challenge.rw_on0199_01.Holds :=
  Mine.main
