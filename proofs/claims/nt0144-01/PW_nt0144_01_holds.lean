import PyProof.Rows.All
import OpenK.ZGo
import KE.KPop
import KE.KDeep
import KE.KDictList
import KE.KDictSum
import KE.KIsAll
import Lean
import PySem.Challenge.RW_nt0144_01
open PySem PySem.W PySem.Calls PyProof.Rows
set_option Elab.async false
set_option maxRecDepth 100000
set_option linter.unusedVariables false
set_option linter.unusedSimpArgs false
set_option genSizeOf false
set_option genInjectivity false
set_option bootstrap.genMatcherCode false
set_option tactic.hygienic false
namespace Nt
noncomputable abbrev Loc:=List (Str×Value)
noncomputable def look (m:Loc) (x:Str):Option Value:=List.lookup x m
theorem look_hd {m:Loc} {x:Str} {v:Value}:look ((x,v)::m) x=some v:=by simp -iota [look,List.lookup]
theorem look_tl {m:Loc} {x y:Str} {v w:Value} (h:look m x=some v) (hn:(x==y)=false):look ((y,w)::m) x=some v:=by
 simp -iota only [look,List.lookup] at *;rw [hn];exact h
structure Ents (es:List DictEntry) (fs:Loc):Prop where
 at_:∀ x,getL x es=some (look fs x)
 len:es.length≤fs.length
set_option genCtorIdx false in
inductive Ch where
 | frm (L:Addr) (m:Loc)
 | inst (x dx C:Addr) (fs:Loc)
 | lst (a:Addr) (vs:List Value)
 | tup (a:Addr) (vs:List Value)
 | cell (a:Addr) (v:Option Value)
 | lis (a:Addr) (vs:List Value)
 | pool (a:Addr)
 | obj (a:Addr) (o:Obj)
 | gen (a:Addr) (P:Obj→Prop)
noncomputable def Ch.fp:Ch→List Addr
 | .frm L _=>[L]
 | .inst x dx _ _=>[x,dx]
 | .lst a _=>[a]
 | .tup a _=>[a]
 | .cell a _=>[a]
 | .lis a _=>[a]
 | .pool a=>[a]
 | .obj a _=>[a]
 | .gen a _=>[a]
noncomputable def Ch.At (w:World) (h:Heap):Ch→Prop
 | .frm L m=>∃ f,h.Ns L f∧∀ x v,look m x=some v→f x=some v
 | .inst x dx C fs=>h.get? x=some (instObj C dx)∧∃ es n,h.get? dx=some (dictOf es n)∧Ents es fs
 | .lst a vs=>∃ n,h.get? a=some { cls:=.type "list",data:=.seq vs.toArray n }
 | .tup a vs=>∃ n,h.get? a=some { cls:=.type "tuple",data:=.seq vs.toArray n }
 | .cell a v=>h.IsCell a v
 | .lis a vs=>h.IsList a vs.toArray
 | .pool a=>∃ i t j u,h.IsList a #[.int i t,.int j u]∧0≤j∧j<2147483647
 | .obj a o=>h.get? a=some o
 | .gen a P=>∃ o,h.get? a=some o∧P o
theorem Ch.At.live {w:World} {h:Heap} {p:Ch} (x:p.At w h):∀ a∈p.fp,∃ o,h.get? a=some o:=by
 intro a ha
 cases p with
 | frm L m=>obtain ⟨f,⟨o,_,_,ho,_⟩,_⟩:=x;simp only [fp,List.mem_singleton] at ha;subst ha;exact ⟨o,ho⟩
 | inst y dx C fs =>
  obtain ⟨h1,es,n,h2,_⟩:=x
  simp only [fp,List.mem_cons,List.not_mem_nil,or_false] at ha
  rcases ha with rfl | rfl
  ·exact ⟨_,h1⟩
  ·exact ⟨_,h2⟩
 | lst b vs=>obtain ⟨n,h1⟩:=x;simp only [fp,List.mem_singleton] at ha;subst ha;exact ⟨_,h1⟩
 | tup b vs=>obtain ⟨n,h1⟩:=x;simp only [fp,List.mem_singleton] at ha;subst ha;exact ⟨_,h1⟩
 | cell b v=>obtain ⟨o,h1,_⟩:=x;simp only [fp,List.mem_singleton] at ha;subst ha;exact ⟨_,h1⟩
 | pool b=>obtain ⟨_,_,_,_,⟨o,h1,_⟩,_⟩:=x;simp only [fp,List.mem_singleton] at ha;subst ha;exact ⟨_,h1⟩
 | lis b v=>obtain ⟨o,h1,_⟩:=x;simp only [fp,List.mem_singleton] at ha;subst ha;exact ⟨_,h1⟩
 | obj b o=>simp only [fp,List.mem_singleton] at ha;subst ha;exact ⟨_,x⟩
 | gen b P=>obtain ⟨o,h1,_⟩:=x;simp only [fp,List.mem_singleton] at ha;subst ha;exact ⟨_,h1⟩
theorem Ch.At.same {w:World} {h h':Heap} {p:Ch} (x:p.At w h) (hs:∀ a∈p.fp,∀ o,h.get? a=some o→h'.get? a=some o):p.At w h':=by
 cases p with
 | frm L m =>
  obtain ⟨f,⟨o,es,ep,ho,r⟩,q⟩:=x
  exact ⟨f,⟨o,es,ep,hs L (by simp [fp]) o ho,r⟩,q⟩
 | inst y dx C fs =>
  obtain ⟨h1,es,n,h2,r⟩:=x
  exact ⟨hs _ (by simp [fp]) _ h1,es,n,hs _ (by simp [fp]) _ h2,r⟩
 | lst b vs=>obtain ⟨n,h1⟩:=x;exact ⟨n,hs _ (by simp [fp]) _ h1⟩
 | tup b vs=>obtain ⟨n,h1⟩:=x;exact ⟨n,hs _ (by simp [fp]) _ h1⟩
 | cell b v=>obtain ⟨o,h1,r⟩:=x;exact ⟨o,hs _ (by simp [fp]) _ h1,r⟩
 | pool b=>obtain ⟨i,t,j,u,⟨o,h1,r⟩,q⟩:=x;exact ⟨i,t,j,u,⟨o,hs _ (by simp [fp]) _ h1,r⟩,q⟩
 | lis b v=>obtain ⟨o,h1,r⟩:=x;exact ⟨o,hs _ (by simp [fp]) _ h1,r⟩
 | obj b o=>exact hs _ (by simp [fp]) _ x
 | gen b P=>obtain ⟨o,h1,r⟩:=x;exact ⟨o,hs _ (by simp [fp]) _ h1,r⟩
theorem Ch.At.keeps {w:World} {h h':Heap} {p:Ch} (x:p.At w h) (hk:∀ b o,h.get? b=some o→h'.get? b=some o):p.At w h':=x.same fun a _ o e=>hk a o e
noncomputable abbrev fps (c:List Ch):List Addr:=c.flatMap Ch.fp
theorem mem_fps {c:List Ch} {p:Ch} {a:Addr} (hp:p∈c) (ha:a∈p.fp):a∈fps c:=List.mem_flatMap.mpr ⟨p,hp,ha⟩
inductive Upd1 (p p':Ch):List Ch→List Ch→Prop
 | hd {c}:Upd1 p p' (p::c) (p'::c)
 | tl {q c c'}:Upd1 p p' c c'→Upd1 p p' (q::c) (q::c')
theorem Upd1.split {p p':Ch} {c c':List Ch} (h:Upd1 p p' c c'):∃ a b,c=a++p::b∧c'=a++p'::b:=by
 induction h with
 | hd=>exact ⟨[],_,rfl,rfl⟩
 | @tl q _ _ _ ih=>obtain ⟨a,b,e,e'⟩:=ih;exact ⟨q::a,b,by rw [e];rfl,by rw [e'];rfl⟩
theorem Upd1.mem {p p':Ch} {c c'} (U:Upd1 p p' c c'):p∈c:=by obtain ⟨a,b,rfl,_⟩:=U.split;simp
inductive Rem1 (p:Ch):List Ch→List Ch→Prop
 | hd {c}:Rem1 p (p::c) c
 | tl {q c c'}:Rem1 p c c'→Rem1 p (q::c) (q::c')
theorem Rem1.split {p:Ch} {c c':List Ch} (h:Rem1 p c c'):∃ a b,c=a++p::b∧c'=a++b:=by
 induction h with
 | hd=>exact ⟨[],_,rfl,rfl⟩
 | @tl q _ _ _ ih=>obtain ⟨a,b,e,e'⟩:=ih;exact ⟨q::a,b,by rw [e];rfl,by rw [e'];rfl⟩
structure St (w:World) (hE:Heap) (s₀:Shared) (mods:List Addr) (R₀ c R:List Ch) (s:Shared):Prop where
 base:∀ b o,hE.get? b=some o→s.heap.get? b=some o
 keep:∀ b o,s₀.heap.get? b=some o→b∉mods→s.heap.get? b=some o
 modE:∀ b∈mods,b∈fps c
 own:∀ p∈c,p.At w s.heap
 fz:∀ p∈R,p.At w s.heap
 nd:(fps c).Nodup
 ownf:∀ a∈fps c,hE.get? a=none∧(s₀.heap.get? a=none∨a∈mods)∧∀ p∈R,a∉p.fp
 sub:∀ p∈R₀,p∈R
 fresh:∀ p∈R,p∈R₀∨∀ a∈p.fp,s₀.heap.get? a=none
 gens:s.gens=s₀.gens
 os:s.os=s₀.os
 drawn:s.drawn=s₀.drawn
section
variable {w:World} {hE:Heap} {s₀ s s':Shared} {mods:List Addr} {R₀ c c' R:List Ch} {p p':Ch}
theorem St.atR (S:St w hE s₀ mods R₀ c R s) (hp:p∈R):p.At w s.heap:=S.fz p hp
theorem St.at0 (S:St w hE s₀ mods R₀ c R s) (hp:p.At w s₀.heap) (hm:∀ a∈p.fp,a∉mods):p.At w s.heap:=hp.same fun a ha o e=>S.keep a o e (hm a ha)
theorem St.more (S:St w hE s₀ mods R₀ c R s) (hk:∀ b o,s.heap.get? b=some o→s'.heap.get? b=some o) (hg:s'.gens=s.gens) (ho:s'.os=s.os) (hd:s'.drawn=s.drawn):St w hE s₀ mods R₀ c R s' :=
 ⟨fun b o e=>hk b o (S.base b o e),fun b o e n=>hk b o (S.keep b o e n),S.modE,fun p hp=>(S.own p hp).keeps hk,fun p hp=>(S.fz p hp).keeps hk,S.nd,S.ownf,S.sub,S.fresh,hg.trans S.gens,ho.trans S.os,hd.trans S.drawn⟩
theorem St.tok (S:St w hE s₀ mods R₀ c R s) (t:Nat):St w hE s₀ mods R₀ c R { s with toks:=t }:=S.more (fun _ _ e=>e) rfl rfl rfl
theorem St.alloc (S:St w hE s₀ mods R₀ c R s) (hk:∀ b o,s.heap.get? b=some o→s'.heap.get? b=some o) (hp:p.At w s'.heap) (hf:∀ a∈p.fp,s.heap.get? a=none) (hn:p.fp.Nodup)
  (hg:s'.gens=s.gens) (ho:s'.os=s.os) (hd:s'.drawn=s.drawn):St w hE s₀ mods R₀ (p::c) R s':=by
 have S':=S.more hk hg ho hd
 have notin:∀ a∈p.fp,a∉fps c:=fun a ha hc=>by
  obtain ⟨q,hq,haq⟩:=List.mem_flatMap.mp hc
  obtain ⟨o,e⟩:=(S.own q hq).live a haq
  rw [hf a ha] at e;cases e
 refine ⟨S'.base,S'.keep,fun b hb=>List.mem_append_right _ (S.modE b hb),?_,S'.fz,?_,?_,S'.sub,S'.fresh,S'.gens,S'.os,S'.drawn⟩
 ·intro q hq
  rcases List.mem_cons.mp hq with rfl | hq
  ·exact hp
  ·exact S'.own q hq
 ·exact List.nodup_append.mpr ⟨hn,S.nd,fun a ha b hb e=>notin a ha (e▸hb)⟩
 ·intro a ha
  rcases List.mem_append.mp ha with ha | ha
  ·refine ⟨?_,?_,?_⟩
   ·cases e:hE.get? a with
    | none=>rfl
    | some o=>have:=S.base a o e;rw [hf a ha] at this;cases this
   ·left
    cases e:s₀.heap.get? a with
    | none=>rfl
    | some o =>
     by_cases hm:a∈mods
     ·exact absurd (S.modE a hm) (notin a ha)
     ·have:=S.keep a o e hm;rw [hf a ha] at this;cases this
   ·intro q hq haq
    obtain ⟨o,e⟩:=(S.fz q hq).live a haq
    rw [hf a ha] at e;cases e
  ·exact S.ownf a ha
theorem fps_upd {p p':Ch} (hfp:p'.fp=p.fp) {c c':List Ch} (U:Upd1 p p' c c'):fps c'=fps c:=by
 obtain ⟨a,b,rfl,rfl⟩:=U.split
 simp -iota [fps,List.flatMap_append,List.flatMap_cons,hfp]
theorem St.upd (S:St w hE s₀ mods R₀ c R s) (U:Upd1 p p' c c') (hfp:p'.fp=p.fp) (hk:∀ b o,b∉p.fp→s.heap.get? b=some o→s'.heap.get? b=some o) (hp:p'.At w s'.heap)
  (hg:s'.gens=s.gens) (ho:s'.os=s.os) (hd:s'.drawn=s.drawn):St w hE s₀ mods R₀ c' R s':=by
 have hpm:=U.mem
 have ef:=fps_upd hfp U
 have inn:∀ a∈p.fp,a∈fps c:=fun a ha=>mem_fps hpm ha
 refine ⟨fun b o e=>hk b o (fun hb=>?_) (S.base b o e),fun b o e n=>hk b o (fun hb=>?_) (S.keep b o e n),fun b hb=>ef▸S.modE b hb,?_,fun q hq=>(S.fz q hq).same fun a ha o e=>hk a o (fun hb=>(S.ownf a (inn a hb)).2.2 q hq ha) e,
  ef▸S.nd,fun a ha=>S.ownf a (ef▸ha),S.sub,S.fresh,hg.trans S.gens,ho.trans S.os,hd.trans S.drawn⟩
 ·rw [(S.ownf b (inn b hb)).1] at e;cases e
 ·rcases (S.ownf b (inn b hb)).2.1 with q | q
  ·rw [q] at e;cases e
  ·exact n q
 ·obtain ⟨x,y,rfl,rfl⟩:=U.split
  have nd:=S.nd
  rw [fps,List.flatMap_append,List.flatMap_cons] at nd
  obtain ⟨n1,n2,n3⟩:=List.nodup_append.mp nd
  obtain ⟨n4,n5,n6⟩:=List.nodup_append.mp n2
  intro q hq
  rcases List.mem_append.mp hq with hq | hq
  ·refine (S.own q (List.mem_append_left _ hq)).same fun a ha o e=>hk a o (fun hb=>?_) e
   exact n3 a (List.mem_flatMap.mpr ⟨q,hq,ha⟩) a (List.mem_append_left _ hb) rfl
  ·rcases List.mem_cons.mp hq with rfl | hq
   ·exact hp
   ·refine (S.own q (List.mem_append_right _ (.tail _ hq))).same fun a ha o e=>hk a o (fun hb=>?_) e
    exact n6 a hb a (List.mem_flatMap.mpr ⟨q,hq,ha⟩) rfl
theorem St.drop (S:St w hE s₀ mods R₀ c R s) (U:Rem1 p c c') (hm:∀ b∈mods,b∈fps c'):St w hE s₀ mods R₀ c' R s:=by
 obtain ⟨x,y,rfl,rfl⟩:=U.split
 have nd:=S.nd
 rw [fps,List.flatMap_append,List.flatMap_cons] at nd
 obtain ⟨n1,n2,n3⟩:=List.nodup_append.mp nd
 obtain ⟨n4,n5,n6⟩:=List.nodup_append.mp n2
 have sub:∀ a∈fps (x++y),a∈fps (x++p::y):=fun a ha=>by
  simp -iota only [fps,List.flatMap_append,List.flatMap_cons,List.mem_append] at ha ⊢
  rcases ha with h | h
  ·exact .inl h
  ·exact .inr (.inr h)
 refine ⟨S.base,S.keep,hm,fun q hq=>S.own q ?_,S.fz,?_,fun a ha=>S.ownf a (sub a ha),S.sub,S.fresh,S.gens,S.os,S.drawn⟩
 ·rcases List.mem_append.mp hq with h | h
  ·exact List.mem_append_left _ h
  ·exact List.mem_append_right _ (.tail _ h)
 ·rw [fps,List.flatMap_append]
  exact List.nodup_append.mpr ⟨n1,n5,fun a ha b hb e=>n3 a ha b (List.mem_append_right _ hb) e⟩
theorem St.freeze (S:St w hE s₀ mods R₀ c R s) (U:Rem1 p c c') (hm:∀ b∈mods,b∈fps c'):St w hE s₀ mods R₀ c' (p::R) s:=by
 have D:=S.drop U hm
 obtain ⟨x,y,rfl,rfl⟩:=U.split
 have nd:=S.nd
 rw [fps,List.flatMap_append,List.flatMap_cons] at nd
 obtain ⟨n1,n2,n3⟩:=List.nodup_append.mp nd
 obtain ⟨n4,n5,n6⟩:=List.nodup_append.mp n2
 have hp:p∈x++p::y:=by simp
 have off:∀ a∈fps (x++y),a∉p.fp:=fun a ha hb=>by
  simp -iota only [fps,List.flatMap_append,List.mem_append] at ha
  rcases ha with h | h
  ·exact n3 a h a (List.mem_append_left _ hb) rfl
  ·exact n6 a hb a h rfl
 refine ⟨D.base,D.keep,D.modE,D.own,?_,D.nd,?_,fun q hq=>.tail _ (D.sub q hq),?_,D.gens,D.os,D.drawn⟩
 ·intro q hq
  rcases List.mem_cons.mp hq with rfl | hq
  ·exact S.own _ hp
  ·exact S.fz q hq
 ·intro a ha
  obtain ⟨h1,h2,h3⟩:=D.ownf a ha
  refine ⟨h1,h2,fun q hq=>?_⟩
  rcases List.mem_cons.mp hq with rfl | hq
  ·exact off a ha
  ·exact h3 q hq
 ·intro q hq
  rcases List.mem_cons.mp hq with rfl | hq
  ·right
   intro a ha
   rcases (S.ownf a (mem_fps hp ha)).2.1 with h | h
   ·exact h
   ·exact absurd ha (off a (hm a h))
  ·exact D.fresh q hq
end
structure Cl (w:World) (hE:Heap) (mods:List Addr) (R:List Ch) (s:Shared):Prop where
 base:∀ b o,hE.get? b=some o→s.heap.get? b=some o
 fz:∀ p∈R,p.At w s.heap
 off:∀ a∈mods,hE.get? a=none∧∀ p∈R,a∉p.fp
section
variable {w:World} {hE:Heap} {s₀ s s':Shared} {mods ms:List Addr} {R₀ c c' R R':List Ch} {p p':Ch}
theorem St.cl (S:St w hE s₀ mods R₀ c R s) (hm:∀ a∈ms,a∈fps c):Cl w hE ms R s :=
 ⟨S.base,S.fz,fun a ha=>⟨(S.ownf a (hm a ha)).1,(S.ownf a (hm a ha)).2.2⟩⟩
end
theorem find_putL (name x:Str) (hsh:Int) (t:Tok) (v:Value) (es:List DictEntry) :
  (putL name hsh (.str name t) v es).find? (·.key.isStr x)=if x=name then some ((es.find? (·.key.isStr name)).elim ⟨hsh,.str name t,v⟩ fun e=>⟨e.hash,e.key,v⟩) else es.find? (·.key.isStr x):=by
 induction es with
 | nil =>
  show List.find? _ [(⟨hsh,.str name t,v⟩:DictEntry)]=_
  rw [List.find?_cons]
  show (match name==x with | true=>_ | false=>_)=_
  by_cases h:x=name
  ·rw [if_pos h,h,beq_self_eq_true];rfl
  ·rw [if_neg h,beq_false_of_ne fun e=>h e.symm]
 | cons e r ih =>
  show List.find? _ (if e.key.isStr name then (⟨e.hash,e.key,v⟩:DictEntry)::r else e::putL name hsh (.str name t) v r)=_
  cases q:e.key.isStr name with
  | true =>
   rw [if_pos rfl,List.find?_cons,List.find?_cons,List.find?_cons,q]
   by_cases h:x=name
   ·rw [if_pos h,h,q];rfl
   ·have h2:e.key.isStr x=false:=Bool.eq_false_iff.mpr fun q2=>h (Value.isStr_inj _ _ _ q2 q)
    rw [if_neg h,h2]
  | false =>
   rw [if_neg Bool.false_ne_true,List.find?_cons,List.find?_cons,List.find?_cons,ih,q]
   by_cases h:x=name
   ·rw [if_pos h,if_pos h,h,q]
   ·rw [if_neg h,if_neg h]
theorem any_putL (name:Str) (hsh:Int) (t:Tok) (v:Value) (es:List DictEntry):(putL name hsh (.str name t) v es).any (·.refKey)=es.any (·.refKey):=by
 induction es with
 | nil=>rfl
 | cons e r ih =>
  show (if e.key.isStr name then (⟨e.hash,e.key,v⟩:DictEntry)::r else e::putL name hsh (.str name t) v r).any _=_
  cases e.key.isStr name with
  | true=>rfl
  | false=>exact congrArg (e.refKey||·) ih
theorem len_putL (name:Str) (hsh:Int) (k v:Value) (es:List DictEntry):(putL name hsh k v es).length≤es.length+1:=by
 induction es with
 | nil=>exact Nat.le_refl _
 | cons e r ih =>
  show (if e.key.isStr name then (⟨e.hash,e.key,v⟩:DictEntry)::r else e::putL name hsh k v r).length≤_
  cases e.key.isStr name with
  | true=>exact Nat.le_succ _
  | false=>exact Nat.succ_le_succ ih
theorem big_of (es:List DictEntry):∃ n,∀ e∈es,∀ x:Str,e.key.isStr x=true→x.cps.size≤n:=by
 induction es with
 | nil=>exact ⟨0,fun _ h=>nomatch h⟩
 | cons e r ih =>
  obtain ⟨n,hn⟩:=ih
  have:∃ k,∀ x,e.key.isStr x=true→x.cps.size≤k:=by
   cases e.key with
   | str s t=>exact ⟨s.cps.size,fun x h=>by cases eq_of_beq (a:=s) (b:=x) h;exact Nat.le_refl _⟩
   | _=>exact ⟨0,fun _ h=>(Bool.false_ne_true h).elim⟩
  obtain ⟨k,hk⟩:=this
  refine ⟨Nat.max n k,fun e' he x hx=>?_⟩
  cases he with
  | head=>exact Nat.le_trans (hk x hx) (Nat.le_max_right ..)
  | tail _ he=>exact Nat.le_trans (hn e' he x hx) (Nat.le_max_left ..)
theorem noref_of (es:List DictEntry) (h:∀ x,(getL x es).isSome=true):es.any (·.refKey)=false:=by
 obtain ⟨n,hn⟩:=big_of es
 have hx:es.find? (·.key.isStr ⟨Array.replicate (n+1) 0⟩)=none:=List.find?_eq_none.mpr fun e he hk=>Nat.not_succ_le_self n (by have:=hn e he _ hk;rwa [Array.size_replicate] at this)
 have:=h ⟨Array.replicate (n+1) 0⟩
 unfold getL at this
 rw [hx] at this
 cases q:es.any (·.refKey) with
 | false=>rfl
 | true=>rw [q] at this;exact (Bool.false_ne_true this).elim
theorem Ents.noref {es:List DictEntry} {fs:Loc} (h:Ents es fs):es.any (·.refKey)=false:=noref_of es fun x=>by rw [h.at_];rfl
theorem Ents.nil:Ents [] []:=⟨fun _=>rfl,Nat.le_refl _⟩
theorem Ents.put {es:List DictEntry} {fs:Loc} (h:Ents es fs) (name:Str) (hsh:Int) (t:Tok) (v:Value):Ents (putL name hsh (.str name t) v es) ((name,v)::fs):=by
 refine ⟨fun x=>?_,?_⟩
 ·unfold getL
  rw [find_putL,any_putL,h.noref]
  by_cases e:x=name
  ·subst e
   simp only [if_true,look_hd]
   cases es.find? (·.key.isStr x)<;>rfl
  ·have:=h.at_ x
   unfold getL at this
   rw [h.noref] at this
   simp only [e,if_false]
   have nn:(x==name)=false:=by simpa using e
   rw [show look ((name,v)::fs) x=look fs x by simp only [look,List.lookup,nn]]
   exact this
 ·exact Nat.le_trans (len_putL name hsh (.str name t) v es) (Nat.succ_le_succ h.len)
structure CI (K:Frag) (C:Addr) (names:List Str):Prop where
 ga:plainGet K C (Str.ofString "")=true
 sa:findIn K (.ref C) "__setattr__"=some (some (.builtin "object.__setattr__"))
 po:plainOver K C=true
 hd:hasDictIn K C=true
 none:∀ n,names.contains n=true→findIn K (.ref C) n=some none
section
variable {prog:Program} {w:World} {A:Around} {E:Value→Shared→Prop} {s:Shared} {K:Frag} {x dx C:Addr} {names:List Str} {fs:Loc} {name:Str} {v:Value}
theorem instAt {h:Heap} (I:(Ch.inst x dx C fs).At w h):∃ es n,Ents es fs∧InstAt h x (instObj C dx) C (some (dictOf es n))∧h.get? dx=some (dictOf es n):=by
 obtain ⟨h1,es,n,h2,h3⟩:=I
 exact ⟨es,n,h3,⟨h1,rfl,rfl,h2⟩,h2⟩
theorem get_attr0 {expr:Bool} {Q:Value→Shared→Prop} (X:K.In s.heap) (I:(Ch.inst x dx C fs).At w s.heap) (ci:CI K C names) (hn:names.contains name=true) (hv:look fs name=some v) (hh:handedIn v=true)
  (h:Q v { s with toks:=s.toks+1 }):wpAny (model prog w) A (getAttr (.ref x) name expr) Q E s:=by
 obtain ⟨es,n,he,ia,_⟩:=instAt I
 exact get_value X ia (plainGet_of ci.ga).1 (findObj_own ci.hd (ci.none _ hn) rfl (by show lookIn name (dictOf es n)=_;rw [lookIn_dict,he.at_,hv])) hh h
end
noncomputable abbrev Kinds:=List (Str×NameKind)
structure EnvOk (env:Env) (L:Addr) (kinds:Kinds) (cells:List (Str×Addr)):Prop where
 kind:env.scope.kind=.function
 loc:env.locals=L
 glob:env.globals=mainGlobals
 blt:env.builtins=builtinsNs
 names:env.scope.names=kinds
 cells:env.cells=cells
 nd:kinds.lookup ("__debug__":Str)=none
structure Gl (K:Frag) (hE:Heap) (globs blts:Loc):Prop where
 X:K.In hE
 nolimit:hE.NoLimit
 nodigits:∃ mc,hE.Ns cStatics mc∧mc "sys.int_max_str_digits"=none
 mg:∃ mg,hE.Ns mainGlobals mg∧(∀ p∈globs,mg p.1=some p.2)∧∀ p∈blts,mg p.1=none
 mb:∃ mb,hE.Ns builtinsNs mb∧∀ p∈blts,mb p.1=some p.2
noncomputable def Res (hE:Heap) (x:Str) (v:Value):Prop:=(∃ mg,hE.Ns mainGlobals mg∧mg x=some v)∨∃ mg mb,hE.Ns mainGlobals mg∧mg x=none∧hE.Ns builtinsNs mb∧mb x=some v
theorem Gl.res {K:Frag} {hE:Heap} {gs bs:Loc} (G:Gl K hE gs bs) {x:Str} {v:Value} (h:(x,v)∈gs):Res hE x v:=let ⟨mg,hn,hv,_⟩:=G.mg;.inl ⟨mg,hn,hv _ h⟩
theorem Gl.resb {K:Frag} {hE:Heap} {gs bs:Loc} (G:Gl K hE gs bs) {x:Str} {v:Value} (h:(x,v)∈bs):Res hE x v:=by
 obtain ⟨mg,hn,_,hm⟩:=G.mg
 obtain ⟨mb,hb,hv⟩:=G.mb
 exact .inr ⟨mg,mb,hn,hm _ h,hb,hv _ h⟩
section
variable {prog:Program} {w:World} {A:Around} {E:Value→Shared→Prop} {hE:Heap} {s₀ s:Shared} {mods:List Addr} {R₀ c c' R:List Ch} {K:Frag} {gs bs:Loc}
 {env:Env} {L:Addr} {kinds:Kinds} {cells:List (Str×Addr)} {m:Loc} {x:Str} {v:Value} {pos:Pos} {a:Addr} {v₀:Option Value}
theorem EnvOk.ne (V:EnvOk env L kinds cells) {k:NameKind} (hk:kinds.lookup x=some k):(x==("__debug__":Str))=false:=by
 cases q:(x==("__debug__":Str)) with
 | false=>rfl
 | true=>rw [eq_of_beq q,V.nd] at hk;cases hk
theorem ld_loc {Q:Value→Shared→Prop} (V:EnvOk env L kinds cells) (S:St w hE s₀ mods R₀ (.frm L m::c) R s) (hm:look m x=some v) (hk:kinds.lookup x=some .local) (h:Q v s) :
  wpAny (model prog w) A (loadName env x) Q E s:=by
 obtain ⟨f,hn,hf⟩:=S.own _ (.head _)
 exact wpAny_loadName_local V.kind (by unfold Env.kindOf;rw [V.names];exact hk) (by rw [V.loc];exact hn) (hf _ _ hm) h
theorem ld_cell {Q:Value→Shared→Prop} (V:EnvOk env L kinds cells) (S:St w hE s₀ mods R₀ c R s) (hk:kinds.lookup x=some .cell) (hc:cells.lookup x=some a) (hm:Ch.cell a (some v)∈c) (h:Q v s) :
  wpAny (model prog w) A (loadName env x) Q E s :=
 wpAny_loadName_cell V.kind (by unfold Env.kindOf;rw [V.names];exact hk) (by rw [V.cells];exact hc) (S.own _ hm) h
theorem nm_loc {Q:Value→Shared→Prop} (V:EnvOk env L kinds cells) (hk:kinds.lookup x=some .local) (S:St w hE s₀ mods R₀ (.frm L m::c) R s) (hm:look m x=some v) (h:Q v s) :
  wpAny (model prog w) A (eval (.Name x pos) env) Q E s:=wpAny_Name (ld_loc V S hm hk h) (V.ne hk)
theorem nm_cell {Q:Value→Shared→Prop} (V:EnvOk env L kinds cells) (hk:kinds.lookup x=some .cell) (S:St w hE s₀ mods R₀ c R s) (hc:cells.lookup x=some a) (hm:Ch.cell a (some v)∈c) (h:Q v s) :
  wpAny (model prog w) A (eval (.Name x pos) env) Q E s:=wpAny_Name (ld_cell V S hk hc hm h) (V.ne hk)
theorem nm_res {Q:Value→Shared→Prop} (V:EnvOk env L kinds cells) (hk:kinds.lookup x=some .globalImplicit) (hg:Res hE x v) (S:St w hE s₀ mods R₀ c R s) (h:Q v s) :
  wpAny (model prog w) A (eval (.Name x pos) env) Q E s:=by
 rcases hg with ⟨mg,hn,hv⟩ | ⟨mg,mb,hn,hm,hb,hv⟩
 ·exact Name_function_global V.kind (by unfold Env.kindOf;rw [V.names];exact hk) (loadGlobal_global (by rw [V.glob];exact hn.keeps S.base) hv h) (V.ne hk)
 ·exact Name_function_global V.kind (by unfold Env.kindOf;rw [V.names];exact hk) (loadGlobal_builtin (by rw [V.glob];exact hn.keeps S.base) hm (by rw [V.blt];exact hb.keeps S.base) hv h) (V.ne hk)
theorem st_loc {Q:Unit→Shared→Prop} (V:EnvOk env L kinds cells) (hk:kinds.lookup x=some .local) (S:St w hE s₀ mods R₀ (.frm L m::c) R s)
  (h:∀ s',St w hE s₀ mods R₀ (.frm L ((x,v)::m)::c) R s'→Q () s'):wpAny (model prog w) A (storeName env x v) Q E s:=by
 obtain ⟨f,hn,hf⟩:=S.own _ (.head _)
 refine wpAny_storeName_local (by unfold Env.kindOf;rw [V.names];exact hk) (by rw [V.loc];exact hn) (fun h' hn' hs'=>h _ ?_) (by rw [V.kind];rfl)
 rw [V.loc] at hn' hs'
 refine S.upd .hd rfl (fun b o hb e=>(hs'.2 b fun q=>hb (by rw [q];simp [Ch.fp])).trans e) ⟨_,hn',fun y u hy=>?_⟩ rfl rfl rfl
 by_cases q:y=x
 ·subst q;rw [look_hd] at hy;rw [if_pos rfl];exact hy
 ·rw [if_neg q]
  refine hf y u ?_
  have nn:(y==x)=false:=by simpa using q
  simpa only [look,List.lookup,nn] using hy
theorem st_cell {Q:Unit→Shared→Prop} (V:EnvOk env L kinds cells) (hk:kinds.lookup x=some .cell) (S:St w hE s₀ mods R₀ c R s) (hc:cells.lookup x=some a) (U:Upd1 (.cell a v₀) (.cell a (some v)) c c')
  (h:∀ s',St w hE s₀ mods R₀ c' R s'→Q () s'):wpAny (model prog w) A (storeName env x v) Q E s:=by
 refine wpAny_storeName_cell V.kind (by unfold Env.kindOf;rw [V.names];exact hk) (by rw [V.cells];exact hc) (S.own _ U.mem) fun h' hv hs=>h _ ?_
 exact S.upd U rfl (fun b o hb e=>(hs.2 b fun q=>hb (by rw [q];simp [Ch.fp])).trans e) hv rfl rfl rfl
theorem st_locU {c c':List Ch} {Q:Unit→Shared→Prop} (V:EnvOk env L kinds cells) (hk:kinds.lookup x=some .local) (S:St w hE s₀ mods R₀ c R s) (U:Upd1 (.frm L m) (.frm L ((x,v)::m)) c c')
  (h:∀ s',(∀ b o,b≠L→s.heap.get? b=some o→s'.heap.get? b=some o)→St w hE s₀ mods R₀ c' R s'→Q () s'):wpAny (model prog w) A (storeName env x v) Q E s:=by
 obtain ⟨f,hn,hf⟩:=S.own _ U.mem
 refine wpAny_storeName_local (by unfold Env.kindOf;rw [V.names];exact hk) (by rw [V.loc];exact hn) (fun h' hn' hs'=>h _ (fun b o hb e=>(hs'.2 b (by rw [V.loc];exact hb)).trans e) ?_) (by rw [V.kind];rfl)
 rw [V.loc] at hn' hs'
 refine S.upd U rfl (fun b o hb e=>(hs'.2 b fun q=>hb (by rw [q];simp [Ch.fp])).trans e) ⟨_,hn',fun y u hy=>?_⟩ rfl rfl rfl
 by_cases q:y=x
 ·subst q;rw [look_hd] at hy;rw [if_pos rfl];exact hy
 ·rw [if_neg q]
  refine hf y u ?_
  have nn:(y==x)=false:=by simpa using q
  simpa only [look,List.lookup,nn] using hy
theorem at_get {expr:Bool} {y dx C:Addr} {names:List Str} {fs:Loc} {Q:Value→Shared→Prop} (G:Gl K hE gs bs) (S:St w hE s₀ mods R₀ c R s) (I:(Ch.inst y dx C fs).At w s.heap) (ci:CI K C names) (hn:names.contains x=true) (hv:look fs x=some v)
  (hh:handedIn v=true) (h:∀ s',St w hE s₀ mods R₀ c R s'→Q v s'):wpAny (model prog w) A (getAttr (.ref y) x expr) Q E s :=
 get_attr0 (G.X.keeps S.base) I ci hn hv hh (h _ (S.tok _))
end
structure DefX (hE:Heap) (a:Addr) (ps:List Str) (kinds:Kinds) (body:List Stmt) (args full:List Value):Prop where
 ex:∃ o fd,hE.get? a=some o∧o.data=.func fd∧hE.CodeRec fd.code fd.qualname∧fd.body=.stmts body∧fd.closure=[]∧fd.globals=mainGlobals∧fd.builtins=builtinsNs ∧
  fd.scope.names=kinds∧fd.scope.kind=.function∧fd.scope.isCoroutine=false∧fd.scope.isGenerator=false∧∀ s:Shared,(∀ b o,hE.get? b=some o→s.heap.get? b=some o)→BindsTo s fd ⟨args,[]⟩ (ps.zip full)
 len:full.length=ps.length
structure DefD (hE:Heap) (a:Addr) (ps:List Str) (kinds:Kinds) (body:List Stmt):Prop where
 d:∀ args:List Value,args.length+1=ps.length→DefX hE a ps kinds body args (args++[.none])
structure Rm (A:Around) (n:Nat):Prop where
 d:A.depth+2 * n≤900
 u:A.units+40 * n≤9000
 h:A.handled=none
theorem Rm.lt {A:Around} {n:Nat} (r:Rm A n):A.depth<recursionLimit:=Nat.lt_of_le_of_lt (Nat.le_trans (Nat.le_add_right _ _) r.d) (by decide)
theorem Rm.room {A:Around} {n:Nat} (r:Rm A n):A.units<cLine:=Nat.lt_of_le_of_lt (Nat.le_trans (Nat.le_add_right _ _) r.u) (by rw [cLine_is];decide)
theorem Rm.deeper {A:Around} {n:Nat} (r:Rm A (n+1)) (env:Env):Rm (A.deeper env) n :=
 ⟨Nat.le_trans (by show A.depth+1+2 * n≤_;rw [Nat.add_assoc,Nat.add_comm 1];exact Nat.add_le_add_left (Nat.le_succ _) _) r.d,Nat.le_trans (by show A.units+3+40 * n≤_;rw [Nat.add_assoc,Nat.add_comm 3];exact Nat.add_le_add_left (Nat.add_le_add_left (by decide:3≤40) _) _) r.u,r.h⟩
noncomputable def vmOf (kinds:Kinds) (b:List (Str×Value)) (m:Loc):Loc:=b.foldl (fun m q=>if kinds.lookup q.1=some .local then q::m else m) m
noncomputable def cmOf (kinds:Kinds) (b:List (Str×Value)) (m:Loc):Loc:=b.foldl (fun m q=>if kinds.lookup q.1=some .local then m else q::m) m
theorem look_ne {m:Loc} {x n:Str} {v:Value} (e:¬ x=n):look ((n,v)::m) x=look m x:=by
 have nn:(x==n)=false:=by simpa using e
 simp only [look,List.lookup_cons,nn]
theorem look_put {m:Loc} {n:Str} {v:Value}:(fun y=>if y=n then some v else look m y)=look ((n,v)::m):=funext fun y=>if q:y=n then (if_pos q).trans (q▸look_hd.symm) else (if_neg q).trans (look_ne q).symm
theorem bindL_vm {kinds:Kinds} {kindOf:Str→Option NameKind} (hk:∀ x,kindOf x=kinds.lookup x) {b:List (Str×Value)} {m:Loc}:bindL kindOf b (look m)=look (vmOf kinds b m):=by
 induction b generalizing m with
 | nil=>rfl
 | cons q r ih =>
  refine Eq.trans ?_ ih
  show bindL kindOf r (if kindOf q.1=some .local then fun y=>if y=q.1 then some q.2 else look m y else look m)=bindL kindOf r (look (if kinds.lookup q.1=some .local then q::m else m))
  rw [hk,look_put]
  by_cases h:kinds.lookup q.1=some .local
  ·rw [if_pos h,if_pos h]
  ·rw [if_neg h,if_neg h]
theorem bindC_cm {kinds:Kinds} {kindOf:Str→Option NameKind} (hk:∀ x,kindOf x=kinds.lookup x) {b:List (Str×Value)} {m:Loc}:bindC kindOf b (look m)=look (cmOf kinds b m):=by
 induction b generalizing m with
 | nil=>rfl
 | cons q r ih =>
  refine Eq.trans ?_ ih
  show bindC kindOf r (if kindOf q.1=some .local then look m else fun y=>if y=q.1 then some q.2 else look m y)=bindC kindOf r (look (if kinds.lookup q.1=some .local then m else q::m))
  rw [hk,look_put]
  by_cases h:kinds.lookup q.1=some .local
  ·rw [if_pos h,if_pos h]
  ·rw [if_neg h,if_neg h]
noncomputable abbrev retOf:Flow→Value:=fun f=>match f with | .ret v=>v | _=>.none
section
variable {prog:Program} {w:World} {A:Around} {E:Value→Shared→Prop} {hE:Heap} {s:Shared} {mods:List Addr} {own₀ R:List Ch} {K:Frag} {gs bs:Loc}
theorem call_cellsB {Rr:Result→Shared→Prop} {a:Addr} {o:Obj} {fd:FuncData} {body:List Stmt} {vals:List Value} {binds:List (Str×Value)}
  (hroom:A.depth<recursionLimit) (ho:s.heap.get? a=some o) (hdata:o.data=.func fd) (hlim:s.heap.NoLimit) (hcd:s.heap.CodeRec fd.code fd.qualname)
  (hbody:fd.body=.stmts body) (hbind:BindsTo s fd ⟨vals,[]⟩ binds) (hclo:fd.closure=[])
  (hkind:∀ x∈binds,fd.scope.names.lookup x.1=some .local∨(fd.scope.names.lookup x.1=some .cell∧((cellsFrom (s.heap.objs.size+1) fd.scope.names []).lookup x.1).isSome=true))
  (h:∀ s₁,InCallC s (callEnvC fd s.heap.objs.size a).locals (bindL (callEnvC fd s.heap.objs.size a).kindOf binds fun _=>none) (callEnvC fd s.heap.objs.size a).cells
    (bindC (callEnvC fd s.heap.objs.size a).kindOf binds fun _=>none) s₁ →
   wpAny (model prog w) (A.deeper (callEnvC fd s.heap.objs.size a)) (execs body (callEnvC fd s.heap.objs.size a)) (fun f s'=>Rr (.ok (.ret (match f with | .ret v=>v | _=>.none))) s')
    (fun e s'=>wpAny (model prog w) (A.deeper (callEnvC fd s.heap.objs.size a)) (leaving (callEnvC fd s.heap.objs.size a) e) (fun _ s''=>Rr (.error e) s'') (fun e' s''=>Rr (.error e') s'') s') s₁)
  (hco:fd.scope.isCoroutine=false) (hgen:fd.scope.isGenerator=false) (hk:fd.scope.kind=.function) :
  codeAny (model prog w) A (.call (.ref a) ⟨vals,[]⟩) Rr s:=by
 refine codeAny_call_function hroom ho hdata hco hgen hbody hcd (hbind _ _ _ _ ?_)
 rw [hclo]
 refine wpAny_newFunctionEnv_cells hk hkind fun env he s' x=>?_
 subst he
 exact ⟨hlim.keeps x.toInCall.keep,codeAny_func (h s' x)⟩
theorem cells_names {names:Kinds} {n k:Nat} {acc acc':List (Str×Addr)} (e:acc.map (·.1)=acc'.map (·.1)):(cellsFrom n names acc).map (·.1)=(cellsFrom k names acc').map (·.1):=by
 induction names generalizing n k acc acc' with
 | nil=>exact e
 | cons p r ih =>
  obtain ⟨nm,kd⟩:=p
  unfold cellsFrom
  split
  ·exact ih (congrArg (nm::·) e)
  ·exact ih e
theorem lookup_some {l:List (Str×Addr)} {p:Str} (e:(l.map (·.1)).contains p=true):(l.lookup p).isSome=true:=by
 induction l with
 | nil=>cases e
 | cons q r ih =>
  obtain ⟨y,b⟩:=q
  rw [List.lookup_cons]
  rw [List.map_cons,List.contains_cons] at e
  cases q:p==y with
  | true=>rfl
  | false=>rw [q,Bool.false_or] at e;exact ih e
theorem lookup_mem {l:List (Str×Addr)} {y:Str} {b:Addr} (nd:(l.map (·.1)).Nodup) (hm:(y,b)∈l):l.lookup y=some b:=by
 induction l with
 | nil=>cases hm
 | cons q r ih =>
  obtain ⟨n1,n2⟩:=List.nodup_cons.mp nd
  cases hm with
  | head=>rw [List.lookup_cons,BEq.rfl]
  | tail _ hm=>rw [List.lookup_cons,beq_false_of_ne fun e=>n1 (List.mem_map.mpr ⟨(y,b),hm,e⟩)];exact ih n2 hm
theorem cells_nd {l:List (Str×Addr)} {g:Str→Option Value} (ap:l.Pairwise fun p q=>p.2≠q.2):(fps (l.map fun q=>Ch.cell q.2 (g q.1))).Nodup:=by
 induction l with
 | nil=>exact List.nodup_nil
 | cons q r ih =>
  obtain ⟨h1,h2⟩:=List.pairwise_cons.mp ap
  rw [fps,List.map_cons,List.flatMap_cons]
  refine List.nodup_cons.mpr ⟨fun hq=>?_,ih h2⟩
  obtain ⟨p,hp,hqp⟩:=List.mem_flatMap.mp hq
  obtain ⟨z,hz,rfl⟩:=List.mem_map.mp hp
  exact h1 z hz (List.mem_singleton.mp hqp)
theorem code_inX {a:Addr} {ps:List Str} {kinds:Kinds} {body:List Stmt} {args full:List Value} {Rr:Result→Shared→Prop} (D:DefX hE a ps kinds body args full) (G:Gl K hE gs bs) (hr:A.depth<recursionLimit) (C:Cl w hE mods R s)
  (hown:∀ p∈own₀,p.At w s.heap) (hnd:(fps own₀).Nodup) (hm:∀ b,b∈mods↔b∈fps own₀) (cn:List Str)
  (hnd0:kinds.lookup ("__debug__":Str)=none) (hcn:(cellsFrom 0 kinds []).map (·.1)=cn) (hcnd:cn.Nodup)
  (hkind:∀ p∈ps,kinds.lookup p=some .local∨(kinds.lookup p=some .cell∧cn.contains p=true))
  (h:∀ env L s₁ cells,EnvOk env L kinds cells→cells.map (·.1)=cn→St w hE s mods R (.frm L (vmOf kinds (ps.zip full) [])::(cells.map fun q=>Ch.cell q.2 (look (cmOf kinds (ps.zip full) []) q.1))++own₀) R s₁ →
   wpAny (model prog w) (A.deeper env) (execs body env) (fun f s'=>Rr (.ok (.ret (retOf f))) s') (fun _ _=>False) s₁) :
  codeAny (model prog w) A (.call (.ref a) ⟨args,[]⟩) Rr s:=by
 obtain ⟨o,fd,ho,hd,hcd,hb,hcl,hg,hbl,hn,hk,hco,hge,hba⟩:=D.ex
 have hcn':∀ n,(cellsFrom n kinds []).map (·.1)=cn:=fun n=>(cells_names rfl).trans hcn
 refine call_cellsB (fd:=fd) (body:=body) hr (C.base _ _ ho) hd (G.nolimit.keeps C.base) (hcd.keeps C.base) hb (hba s C.base) hcl (fun y hy=>?_) (fun s₁ x=>?_) hco hge hk
 ·have:=hkind y.1 (List.of_mem_zip hy).1
  rw [hn]
  refine this.imp id fun q=>⟨q.1,lookup_some ?_⟩
  rw [hcn'];exact q.2
 ·obtain ⟨h₁,tk,e,keep⟩:=x.done
  have cellsE:(callEnvC fd s.heap.objs.size a).cells=cellsFrom (s.heap.objs.size+1) kinds []:=by show cellsFrom _ fd.scope.names []=_;rw [hn]
  have V:EnvOk (callEnvC fd s.heap.objs.size a) s.heap.objs.size kinds (cellsFrom (s.heap.objs.size+1) kinds []):=⟨hk,rfl,hg,hbl,hn,cellsE,hnd0⟩
  have kindE:∀ y,(callEnvC fd s.heap.objs.size a).kindOf y=kinds.lookup y:=fun y=>by show fd.scope.names.lookup y=_;rw [hn]
  refine wpAny_mono (h _ _ s₁ _ V (hcn' _) ?_) (fun _ _ z=>z) fun _ _ z=>z.elim
  have s1h:s₁.heap=h₁:=by rw [e]
  have keep':∀ b o,s.heap.get? b=some o→s₁.heap.get? b=some o:=fun b o q=>by rw [s1h];exact keep b o q
  have none_of:∀ b,s.heap.objs.size≤b→s.heap.get? b=none:=fun b hb=>by
   cases q:s.heap.get? b with
   | none=>rfl
   | some o=>exact absurd (Heap.lt_size q) (Nat.not_lt.mpr hb)
  have cfp:∀ a'∈fps ((cellsFrom (s.heap.objs.size+1) kinds []).map fun q=>Ch.cell q.2 (look (cmOf kinds (ps.zip full) []) q.1)),s.heap.objs.size<a':=by
   intro a' ha
   obtain ⟨p,hp,hap⟩:=List.mem_flatMap.mp ha
   obtain ⟨q,hq,rfl⟩:=List.mem_map.mp hp
   simp only [Ch.fp,List.mem_singleton] at hap
   subst hap
   exact x.above q.1 q.2 (by rw [cellsE];exact hq)
  have ownlive:∀ b∈fps own₀,b<s.heap.objs.size:=fun b hb=>by
   obtain ⟨p,hp,hbp⟩:=List.mem_flatMap.mp hb
   obtain ⟨o,q⟩:=(hown p hp).live b hbp
   exact Heap.lt_size q
  have fresh_off:∀ b,s.heap.objs.size≤b→hE.get? b=none∧(s.heap.get? b=none∨b∈mods)∧∀ p∈R,b∉p.fp:=fun b hb=>by
   refine ⟨?_,.inl (none_of b hb),fun p hp hbp=>?_⟩
   ·cases q:hE.get? b with
    | none=>rfl
    | some o=>have:=C.base b o q;rw [none_of b hb] at this;cases this
   ·obtain ⟨o,q⟩:=(C.fz p hp).live b hbp
    rw [none_of b hb] at q;cases q
  refine ⟨fun b o q=>keep' b o (C.base b o q),fun b o q _=>keep' b o q,fun b hb=>?_,?_,fun p hp=>(C.fz p hp).keeps keep',?_,?_,fun _ hp=>hp,fun _ hp=>.inl hp,by rw [e],by rw [e],by rw [e]⟩
  ·rw [fps,List.flatMap_append]
   exact List.mem_append_right _ ((hm b).mp hb)
  ·intro p hp
   rcases List.mem_append.mp hp with hp | hp
   ·rcases List.mem_cons.mp hp with rfl | hp
    ·refine ⟨_,x.toInCall.ns,fun y u hy=>?_⟩
     rw [← bindL_vm kindE] at hy
     rw [← hy]
     congr 1
    ·obtain ⟨q,hq,rfl⟩:=List.mem_map.mp hp
     have:=x.cell q.1 q.2 (by rw [cellsE];exact lookup_mem (by rw [hcn'];exact hcnd) hq)
     show s₁.heap.IsCell q.2 _
     rw [← bindC_cm kindE]
     exact this
   ·exact (hown p hp).keeps keep'
  ·rw [fps,List.flatMap_append,List.flatMap_cons]
   refine List.nodup_append.mpr ⟨List.nodup_cons.mpr ⟨fun hl=>Nat.lt_irrefl _ (cfp _ hl),?_⟩,hnd,fun b hb d hd' q=>?_⟩
   ·have ap:=x.apart
    rw [cellsE] at ap
    exact cells_nd ap
   ·subst q
    have l1:=ownlive b hd'
    rcases List.mem_append.mp hb with hb | hb
    ·simp only [Ch.fp,List.mem_singleton] at hb
     exact absurd (hb▸l1) (Nat.lt_irrefl _)
    ·exact absurd (Nat.lt_trans l1 (cfp b hb)) (Nat.lt_irrefl _)
  ·intro b hb
   rw [fps,List.flatMap_append,List.flatMap_cons] at hb
   rcases List.mem_append.mp hb with hb | hb
   ·rcases List.mem_append.mp hb with hb | hb
    ·simp only [Ch.fp,List.mem_singleton] at hb
     subst hb
     exact fresh_off _ (Nat.le_refl _)
    ·exact fresh_off _ (Nat.le_of_lt (cfp b hb))
   ·have hb':=(hm b).mpr hb
    exact ⟨(C.off b hb').1,.inr hb',(C.off b hb').2⟩
end
noncomputable def rzL:List Bool→List Str→List Value→Loc→Loc
 | true::bs,p::ps,v::vs,m=>rzL bs ps vs ((p,v)::m)
 | false::bs,_::ps,_::vs,m=>rzL bs ps vs m
 | _,_,_,m=>m
noncomputable def rzC:List Bool→List Str→List Value→Loc→Loc
 | true::bs,_::ps,_::vs,m=>rzC bs ps vs m
 | false::bs,p::ps,v::vs,m=>rzC bs ps vs ((p,v)::m)
 | _,_,_,m=>m
theorem vm_rz {kinds:Kinds} {bs:List Bool} {ps:List Str} {vs:List Value} {m:Loc} (h:bs=ps.map fun p=>decide (kinds.lookup p=some .local)):vmOf kinds (ps.zip vs) m=rzL bs ps vs m:=by
 cases h
 induction ps generalizing vs m with
 | nil=>rfl
 | cons p r ih =>
  show _=rzL (decide (kinds.lookup p=some .local)::_) (p::r) vs m
  by_cases q:kinds.lookup p=some .local
  ·rw [decide_eq_true q]
   cases vs with
   | nil=>rfl
   | cons v vs=>exact (congrArg (vmOf kinds (r.zip vs)) (if_pos q)).trans ih
  ·rw [decide_eq_false q]
   cases vs with
   | nil=>rfl
   | cons v vs=>exact (congrArg (vmOf kinds (r.zip vs)) (if_neg q)).trans ih
theorem cm_rz {kinds:Kinds} {bs:List Bool} {ps:List Str} {vs:List Value} {m:Loc} (h:bs=ps.map fun p=>decide (kinds.lookup p=some .local)):cmOf kinds (ps.zip vs) m=rzC bs ps vs m:=by
 cases h
 induction ps generalizing vs m with
 | nil=>rfl
 | cons p r ih =>
  show _=rzC (decide (kinds.lookup p=some .local)::_) (p::r) vs m
  by_cases q:kinds.lookup p=some .local
  ·rw [decide_eq_true q]
   cases vs with
   | nil=>rfl
   | cons v vs=>exact (congrArg (cmOf kinds (r.zip vs)) (if_pos q)).trans ih
  ·rw [decide_eq_false q]
   cases vs with
   | nil=>rfl
   | cons v vs=>exact (congrArg (cmOf kinds (r.zip vs)) (if_neg q)).trans ih
noncomputable def okDef (bs:List Bool) (ps:List Str) (kinds:Kinds) (cn:List Str):Bool :=
 decide ((cellsFrom 0 kinds []).map (·.1)=cn)&&decide cn.Nodup&&decide (bs=ps.map fun p=>decide (kinds.lookup p=some .local))&&decide (kinds.lookup ("__debug__":Str)=none)&&ps.all fun p=>decide (kinds.lookup p=some .local)||(decide (kinds.lookup p=some .cell)&&cn.contains p)
section
variable {prog:Program} {w:World} {A:Around} {E:Value→Shared→Prop} {hE:Heap} {s:Shared} {mods:List Addr} {own₀ R:List Ch} {K:Frag} {gs bs:Loc} {n:Nat}
theorem code_in1X {a:Addr} {ps:List Str} {kinds:Kinds} {body:List Stmt} {args full:List Value} {Rr:Result→Shared→Prop} (fl:List Bool) (cn:List Str) (D:DefX hE a ps kinds body args full) (G:Gl K hE gs bs) (hr:Rm A n) (C:Cl w hE mods R s)
  (hown:∀ p∈own₀,p.At w s.heap) (hnd:(fps own₀).Nodup) (hm:mods=fps own₀) (ok:okDef fl ps kinds cn=true)
  (h:∀ env L s₁ cells,EnvOk env L kinds cells→cells.map (·.1)=cn→St w hE s mods R (.frm L (rzL fl ps full [])::(cells.map fun q=>Ch.cell q.2 (look (rzC fl ps full []) q.1))++own₀) R s₁ →
   wpAny (model prog w) (A.deeper env) (execs body env) (fun f s'=>Rr (.ok (.ret (retOf f))) s') (fun _ _=>False) s₁) :
  codeAny (model prog w) A (.call (.ref a) ⟨args,[]⟩) Rr s:=by
 simp -iota only [okDef,Bool.and_eq_true,decide_eq_true_eq,List.all_eq_true,Bool.or_eq_true] at ok
 obtain ⟨⟨⟨⟨o1,o2⟩,o3⟩,o5⟩,o4⟩:=ok
 refine code_inX D G hr.lt C hown hnd (fun b=>by rw [hm]) cn o5 o1 o2 o4 fun env L s₁ cells V hc S=>h env L s₁ cells V hc ?_
 rw [← vm_rz o3,← cm_rz o3]
 exact S
structure Klass (K:Frag) (C fI:Addr) (names:List Str):Prop where
 ci:CI K C names
 made:makesIn K C=true
 init:findIn K (.ref C) "__init__"=some (some (.ref fI))
 fn:typeIn K (.ref fI)=some (.type "function")
end
section
variable {prog:Program} {w:World} {A:Around} {E:Value→Shared→Prop} {hE:Heap} {s₀ s:Shared} {mods:List Addr} {R₀ c c' R:List Ch} {K:Frag} {gs bs:Loc} {env:Env}
 {a b:Int} {t u:Tok} {Q:Value→Shared→Prop} {pos:Pos}
theorem none_at {h:Heap}:h.get? h.objs.size=none:=by
 cases q:h.get? h.objs.size with
 | none=>rfl
 | some o=>exact absurd (Heap.lt_size q) (Nat.lt_irrefl _)
theorem c_int {k} (S:St w hE s₀ mods R₀ c R s) (h:∀ s' t,St w hE s₀ mods R₀ c R s'→Q (.int a t) s'):wpAny (model prog w) A (eval (.Constant (.int a) k pos) env) Q E s:=wpAny_Constant_int (h _ _ (S.tok _))
theorem c_str {x:Str} {k} (S:St w hE s₀ mods R₀ c R s) (h:∀ s' t,St w hE s₀ mods R₀ c R s'→Q (.str x t) s'):wpAny (model prog w) A (eval (.Constant (.str x) k pos) env) Q E s:=wpAny_Constant_str (h _ _ (S.tok _))
theorem i_add (S:St w hE s₀ mods R₀ c R s) (h:∀ s' t,St w hE s₀ mods R₀ c R s'→Q (.int (a+b) t) s'):wpAny (model prog w) A (binaryOp .Add (.int a t) (.int b u)) Q E s:=PyProof.Rows.add_int (h _ _ (S.tok _))
theorem i_sub (S:St w hE s₀ mods R₀ c R s) (h:∀ s' t,St w hE s₀ mods R₀ c R s'→Q (.int (a - b) t) s'):wpAny (model prog w) A (binaryOp .Sub (.int a t) (.int b u)) Q E s:=PyProof.Rows.sub_int (h _ _ (S.tok _))
theorem i_mul (hm:IntMulOk a b) (S:St w hE s₀ mods R₀ c R s) (h:∀ s' t,St w hE s₀ mods R₀ c R s'→Q (.int (a * b) t) s'):wpAny (model prog w) A (binaryOp .Mult (.int a t) (.int b u)) Q E s:=PyProof.Rows.mul_int (h _ _ (S.tok _)) hm
theorem i_div (hb:b≠0) (hp:Builtin.divisionGoesByPylong a b=false) (S:St w hE s₀ mods R₀ c R s) (h:∀ s' t,St w hE s₀ mods R₀ c R s'→Q (.int (a.fdiv b) t) s'):wpAny (model prog w) A (binaryOp .FloorDiv (.int a t) (.int b u)) Q E s:=PyProof.Rows.floordiv_int hb (h _ _ (S.tok _)) (.inl hp)
theorem i_mod (hb:b≠0) (S:St w hE s₀ mods R₀ c R s) (h:∀ s' t,St w hE s₀ mods R₀ c R s'→Q (.int (a.fmod b) t) s'):wpAny (model prog w) A (binaryOp .Mod (.int a t) (.int b u)) Q E s:=PyProof.Rows.mod_int hb (h _ _ (S.tok _))
theorem i_neg (S:St w hE s₀ mods R₀ c R s) (h:∀ s' t,St w hE s₀ mods R₀ c R s'→Q (.int (-a) t) s'):wpAny (model prog w) A (unaryOp .USub (.int a t)) Q E s:=PyProof.Rows.neg_int (h _ _ (S.tok _))
theorem i_pow (hn:0≤b) (hsz:(Builtin.Int.intBits a:Int) * b≤2 ^ 27) (S:St w hE s₀ mods R₀ c R s) (h:∀ s' t,St w hE s₀ mods R₀ c R s'→Q (.int (a ^ b.toNat) t) s'):wpAny (model prog w) A (binaryOp .Pow (.int a t) (.int b u)) Q E s:=PyProof.Rows.pow_int hn hsz (h _ _ (S.tok _))
theorem i_of_bool {b:Bool} (S:St w hE s₀ mods R₀ c R s) (h:∀ s' t,St w hE s₀ mods R₀ c R s'→Q (.int (if b then 1 else 0) t) s'):wpAny (model prog w) A (call (.type "int") [.bool b]) Q E s:=call_int_bool (h _ _ (S.tok _))
theorem i_max (hh:A.handled=none) (S:St w hE s₀ mods R₀ c R s) (h:∀ s' t,St w hE s₀ mods R₀ c R s'→Q (.int (if b > a then b else a) t) s'):wpAny (model prog w) A (call (.builtin "max") [.int a t,.int b u]) Q E s :=
 max_two_ints hh fun h' tk hk=>by
  have S':St w hE s₀ mods R₀ c R { s with heap:=h',toks:=tk }:=S.more hk rfl rfl rfl
  by_cases q:b > a
  ·have:=h _ u S';rw [if_pos q] at this ⊢;exact this
  ·have:=h _ t S';rw [if_neg q] at this ⊢;exact this
theorem i_min (hh:A.handled=none) (S:St w hE s₀ mods R₀ c R s) (h:∀ s' t,St w hE s₀ mods R₀ c R s'→Q (.int (if b<a then b else a) t) s'):wpAny (model prog w) A (call (.builtin "min") [.int a t,.int b u]) Q E s :=
 min_two_ints hh fun h' tk hk=>by
  have S':St w hE s₀ mods R₀ c R { s with heap:=h',toks:=tk }:=S.more hk rfl rfl rfl
  by_cases q:b<a
  ·have:=h _ u S';rw [if_pos q] at this ⊢;exact this
  ·have:=h _ t S';rw [if_neg q] at this ⊢;exact this
theorem lst_isl {h:Heap} {a:Addr} {vs:List Value} (I:(Ch.lst a vs).At w h):h.IsList a vs.toArray:=let ⟨n,e⟩:=I;⟨_,e,rfl,n,rfl⟩
theorem tup_ist {h:Heap} {a:Addr} {vs:List Value} (I:(Ch.tup a vs).At w h):IsTup h a vs.toArray:=let ⟨n,e⟩:=I;⟨_,e,rfl,n,rfl⟩
theorem l_new {vs:List Value} (hz:vs.length≤1000) (S:St w hE s₀ mods R₀ c R s) (h:∀ s' a,St w hE s₀ mods R₀ (.lst a vs::c) R s'→Q (.ref a) s'):wpAny (model prog w) A (newList vs) Q E s :=
 wpAny_newObj_type (h _ _ (S.alloc (fun b o e=>Heap.get?_push_of_some _ e) ⟨0,Heap.get?_push_size _ rfl⟩ (fun a ha=>by simp only [Ch.fp,List.mem_singleton] at ha;subst ha;exact none_at) (by simp [Ch.fp]) rfl rfl rfl))
  (by show vs.toArray.size≤sizeLine;rw [List.size_toArray,sizeLine_eq];lia)
theorem l_app {a:Addr} {vs:List Value} {x:Value} (S:St w hE s₀ mods R₀ c R s) (U:Upd1 (.lst a vs) (.lst a (vs++[x])) c c') (hz:vs.length≤1000000) (h:∀ s',St w hE s₀ mods R₀ c' R s'→Q .none s') :
  wpAny (model prog w) A (call (.builtin "list.append") [.ref a,x]) Q E s:=by
 obtain ⟨n,e⟩:=S.own _ U.mem
 refine append_at e (fun h' hs ho=>h _ ?_) (by rw [List.size_toArray,sizeLine_eq];lia)
 refine S.upd U rfl (fun b o hb q=>(hs.2 b fun z=>hb (by rw [z];simp [Ch.fp])).trans q) ⟨n+1,?_⟩ rfl rfl rfl
 rw [ho];simp
theorem l_get {l:Addr} {vs:List Value} {k:Int} {v:Value} {value slice:Expr} (I:s.heap.IsList l vs.toArray) (h0:0≤k) (hk:k<2 ^ 63) (hx:vs[k.toNat]?=some v) (h:Q v s)
  (hs:subscripted slice false (.ref l) (.int k u)=operate [.ref l,.int k u] (getItem (.ref l) (.int k u))) :
  wpAny (model prog w) A (subscriptTail value slice (.ref l) (.int k u)) Q E s :=
 tail_any I.typeIs slot_list_getitem.lookup (wpAny_getItem_list I h0 hk (by simpa using hx) h) hs
theorem t_get {l:Addr} {vs:List Value} {k:Int} {v:Value} {value slice:Expr} (I:IsTup s.heap l vs.toArray) (h0:0≤k) (hk:k<2 ^ 63) (hx:vs[k.toNat]?=some v) (h:Q v s)
  (hs:subscripted slice false (.ref l) (.int k u)=operate [.ref l,.int k u] (getItem (.ref l) (.int k u))) :
  wpAny (model prog w) A (subscriptTail value slice (.ref l) (.int k u)) Q E s:=by
 have hlt:k.toNat<vs.length:=(List.getElem?_eq_some_iff.mp hx).1
 refine item_tupleT (j:=k.toNat) I (Int.le_trans (by decide) h0) hk ?_ hx h hs
 have z:¬ k<0:=Int.not_lt.mpr h0
 have z2:(decide (0≤k)&&decide (k<(vs.length:Int)))=true:=by rw [decide_eq_true h0,decide_eq_true ((Int.toNat_lt h0).mp hlt)];rfl
 simp -iota only [seqIndex?,z,if_false,z2,if_true]
theorem l_len {l:Addr} {vs:List Value} (I:s.heap.IsList l vs.toArray) (hz:vs.length≤1000000) (S:St w hE s₀ mods R₀ c R s) (h:∀ s' t,St w hE s₀ mods R₀ c R s'→Q (.int vs.length t) s'):wpAny (model prog w) A (call (.builtin "len") [.ref l]) Q E s :=
 call_len_list I (by rw [List.size_toArray];lia) (by rw [List.size_toArray];exact h _ _ (S.tok _))
theorem t_len {l:Addr} {vs:List Value} (I:IsTup s.heap l vs.toArray) (hz:vs.length≤1000000) (S:St w hE s₀ mods R₀ c R s) (h:∀ s' t,St w hE s₀ mods R₀ c R s'→Q (.int vs.length t) s'):wpAny (model prog w) A (call (.builtin "len") [.ref l]) Q E s :=
 len_tuple I (by rw [List.size_toArray];lia) (by rw [List.size_toArray];exact h _ _ (S.tok _))
theorem lis_set {l:Addr} {vs:List Value} {k:Int} {v:Value} {Q:Unit→Shared→Prop} (S:St w hE s₀ mods R₀ c R s) (U:Upd1 (.lis l vs) (.lis l (vs.set k.toNat v)) c c') (h0:0≤k) (hk:k<2 ^ 63) (hn:k<vs.length) (h:∀ s',St w hE s₀ mods R₀ c' R s'→Q () s') :
  wpAny (model prog w) A (setItem (.ref l) (.int k t) v) Q E s:=by
 refine wpAny_setItem_list (items:=vs.toArray) (S.own _ U.mem) h0 hk (by rw [List.size_toArray];exact hn) fun h' hi hs=>h _ ?_
 refine S.upd U rfl (fun b o hb q=>(hs.2 b fun z=>hb (by rw [z];simp [Ch.fp])).trans q) ?_ rfl rfl rfl
 show h'.IsList l _
 simpa using hi
end
noncomputable def exCls:List Addr:=[90,116,142,168,194,220,246,272,298,322,348,374,400,426,452]
structure IsC (K:Frag) (C:Addr):Prop where
 hg:plainGet K C "__class__"=true
 hdct:hasDictIn K C=true
 ha:findIn K (.ref C) "__class__"=some (some (.builtin "object.__class__"))
 hn:specialIn K (.builtin "object.__class__") "__get__"=some (some (.builtin "getset_descriptor.__get__"))
 htk:takesIn K (.builtin "object.__class__")=some true
 hm:mroIn K C (.type "object")=some true
 one:∀ D∈exCls,kitOne K (.ref C) (.ref D)=some (decide (C=D))
noncomputable def nth:Nat→List Stmt→Stmt
 | _,[]=>.Pass ⟨0,0,0,0⟩
 | 0,s::_=>s
 | n+1,_::r=>nth n r
set_option backward.match.sparseCases false in
noncomputable def bodyF:Stmt→List Stmt
 | .FunctionDef _ _ b _ _ _ _ _ _ _=>b
 | .ClassDef _ _ _ b _ _ _ _ _ _ _=>b
 | _=>[]
noncomputable def top (n:Nat):Stmt:=nth n PySem.Challenge.pw_nt0144_01.main.body
structure Meth (K:Frag) (C:Addr) (name:Str) (f:Addr):Prop where
 find:findIn K (.ref C) name=some (some (.ref f))
 fn:typeIn K (.ref f)=some (.type "function")
noncomputable def gs:Loc:=[(("row_of":Str),Value.ref 28),(("rows_of":Str),Value.ref 33),(("affinity_of_type":Str),Value.ref 469),(("comparison_affinities":Str),Value.ref 476),(("children":Str),Value.ref 488),(("outer_numbers":Str),Value.ref 495),(("collect_numbers":Str),Value.ref 502),(("affinity_of":Str),Value.ref 510),(("explicit_collation":Str),Value.ref 517),(("column_collation":Str),Value.ref 524),(("collation_of":Str),Value.ref 532),(("comparison_collation":Str),Value.ref 539),(("split_and":Str),Value.ref 550),(("is_column_of":Str),Value.ref 557),(("is_free_of":Str),Value.ref 564),(("compared_bound":Str),Value.ref 635),(("comparison_bounds":Str),Value.ref 640),(("between_bounds":Str),Value.ref 645),(("list_bounds":Str),Value.ref 652),(("bounds_of":Str),Value.ref 659),(("is_rowid_place":Str),Value.ref 666),(("surely_integer":Str),Value.ref 673),(("first_bound":Str),Value.ref 723),(("put_equal":Str),Value.ref 730),(("put_list":Str),Value.ref 737),(("put_range":Str),Value.ref 744),(("guess":Str),Value.ref 751),(("rowid_paths":Str),Value.ref 756),(("fits_column":Str),Value.ref 763),(("index_paths":Str),Value.ref 770),(("new_index_path":Str),Value.ref 777),(("scan_path":Str),Value.ref 784),(("turns_of":Str),Value.ref 843),(("cost_of":Str),Value.ref 940),(("make_plan":Str),Value.ref 945),(("bound_name":Str),Value.ref 987),(("table_source":Str),Value.ref 993),(("with_on":Str),Value.ref 1000),(("_law_pool":Str),Value.ref 1102),(("_law_take":Str),Value.ref 1109),(("_law_one":Str),Value.ref 1116),(("_law_table":Str),Value.ref 1121),(("_law_column":Str),Value.ref 1128),(("_law_value":Str),Value.ref 1135),(("_law_condition":Str),Value.ref 1140),(("_law_rank":Str),Value.ref 1147),(("_law_compared":Str),Value.ref 1154),(("_law_worth":Str),Value.ref 1161),(("_law_is_true":Str),Value.ref 1166),(("_law_between":Str),Value.ref 1173),(("_law_in_path":Str),Value.ref 1178),(("_law_sources":Str),Value.ref 1185),(("_law_order":Str),Value.ref 1190),(("_law_paths":Str),Value.ref 1195),(("_law_stand_right":Str),Value.ref 1200),(("Literal":Str),Value.ref 90),(("Name":Str),Value.ref 116),(("Unary":Str),Value.ref 142),(("Binary":Str),Value.ref 168),(("Between":Str),Value.ref 194),(("InList":Str),Value.ref 220),(("InSelect":Str),Value.ref 246),(("Exists":Str),Value.ref 272),(("Scalar":Str),Value.ref 298),(("Case":Str),Value.ref 322),(("Call":Str),Value.ref 348),(("Cast":Str),Value.ref 374),(("Collate":Str),Value.ref 400),(("IsNull":Str),Value.ref 426),(("Match":Str),Value.ref 452),(("Bound":Str),Value.ref 581),(("Term":Str),Value.ref 624),(("Path":Str),Value.ref 712),(("OrderWalk":Str),Value.ref 825),(("Level":Str),Value.ref 867),(("Plan":Str),Value.ref 893),(("Conditions":Str),Value.ref 929),(("Source":Str),Value.ref 976),(("Column":Str),Value.ref 1018),(("Index":Str),Value.ref 1051),(("Table":Str),Value.ref 1091),(("TURNED":Str),Value.ref 540),(("NUMERIC_AFFINITIES":Str),Value.ref 455)]
noncomputable def bs:Loc:=[(("len":Str),Value.builtin "len"),(("isinstance":Str),Value.builtin "isinstance"),(("all":Str),Value.builtin "all"),(("any":Str),Value.builtin "any"),(("sorted":Str),Value.builtin "sorted"),(("max":Str),Value.builtin "max"),(("min":Str),Value.builtin "min"),(("int":Str),Value.type "int"),(("str":Str),Value.type "str"),(("bool":Str),Value.type "bool"),(("list":Str),Value.type "list"),(("tuple":Str),Value.type "tuple"),(("set":Str),Value.type "set"),(("range":Str),Value.type "range")]
section
variable {w:World} {hE:Heap} {s₀ s s':Shared} {mods:List Addr} {R₀ c c' R:List Ch} {p p':Ch}
theorem St.lose (S:St w hE s₀ mods R₀ c R s) (U:Rem1 p c c') (hm:∀ a∈p.fp,a∉mods) (hk:∀ b o,b∉p.fp→s.heap.get? b=some o→s'.heap.get? b=some o)
  (hg:s'.gens=s.gens) (ho:s'.os=s.os) (hd:s'.drawn=s.drawn):St w hE s₀ mods R₀ c' R s':=by
 have inn:∀ a∈p.fp,a∈fps c:=fun a ha=>by
  obtain ⟨x,y,rfl,rfl⟩:=U.split
  exact mem_fps (by simp) ha
 have D:=S.drop U (fun b hb=>by
  have:=S.modE b hb
  obtain ⟨x,y,rfl,rfl⟩:=U.split
  simp -iota only [fps,List.flatMap_append,List.flatMap_cons,List.mem_append] at this ⊢
  rcases this with h | h | h
  ·exact .inl h
  ·exact absurd hb (hm b h)
  ·exact .inr h)
 have off:∀ a∈fps c',a∉p.fp:=fun a ha hb=>by
  have nd:=S.nd
  obtain ⟨x,y,rfl,rfl⟩:=U.split
  rw [fps,List.flatMap_append,List.flatMap_cons] at nd
  obtain ⟨n1,n2,n3⟩:=List.nodup_append.mp nd
  obtain ⟨n4,n5,n6⟩:=List.nodup_append.mp n2
  simp -iota only [fps,List.flatMap_append,List.mem_append] at ha
  rcases ha with h | h
  ·exact n3 a h a (List.mem_append_left _ hb) rfl
  ·exact n6 a hb a h rfl
 refine ⟨fun b o e=>hk b o (fun hb=>?_) (D.base b o e),fun b o e n=>hk b o (fun hb=>?_) (D.keep b o e n),D.modE,fun q hq=>(D.own q hq).same fun a ha o e=>hk a o (off a (mem_fps hq ha)) e,
  fun q hq=>(D.fz q hq).same fun a ha o e=>hk a o (fun hb=>(S.ownf a (inn a hb)).2.2 q hq ha) e,D.nd,D.ownf,D.sub,D.fresh,hg.trans D.gens,ho.trans D.os,hd.trans D.drawn⟩
 ·rw [(S.ownf b (inn b hb)).1] at e;cases e
 ·rcases (S.ownf b (inn b hb)).2.1 with h | h
  ·rw [h] at e;cases e
  ·exact n h
theorem St.perm (S:St w hE s₀ mods R₀ c R s) (P:c.Perm c'):St w hE s₀ mods R₀ c' R s:=by
 have F:(fps c).Perm (fps c'):=P.flatMap_right _
 exact ⟨S.base,S.keep,fun b hb=>F.mem_iff.mp (S.modE b hb),fun p hp=>S.own p (P.mem_iff.mpr hp),S.fz,F.nodup_iff.mp S.nd,fun a ha=>S.ownf a (F.mem_iff.mpr ha),S.sub,S.fresh,S.gens,S.os,S.drawn⟩
theorem St.offmods (S:St w hE s₀ mods R₀ c R s) {a:Addr} (hf:s.heap.get? a=none):a∉mods:=fun h=>by
 obtain ⟨q,hq,haq⟩:=List.mem_flatMap.mp (S.modE a h)
 obtain ⟨o,e⟩:=(S.own q hq).live a haq
 rw [hf] at e;cases e
end
noncomputable def Has (w:World) (s₀:Shared) (mods:List Addr) (c R:List Ch) (p:Ch):Prop:=p∈c∨p∈R∨(p.At w s₀.heap∧∀ a∈p.fp,a∉mods)
theorem Has.at_ {w:World} {hE:Heap} {s₀ s:Shared} {mods:List Addr} {R₀ c R:List Ch} {p:Ch} (h:Has w s₀ mods c R p) (S:St w hE s₀ mods R₀ c R s):p.At w s.heap:=by
 rcases h with h | h | ⟨h,n⟩
 ·exact S.own p h
 ·exact S.fz p h
 ·exact S.at0 h n
theorem Has.more {w:World} {s₀:Shared} {mods:List Addr} {c c' R R':List Ch} {p:Ch} (h:Has w s₀ mods c R p) (hc:∀ q∈c,q∈c') (hR:∀ q∈R,q∈R'):Has w s₀ mods c' R' p:=h.imp (hc p) (Or.imp (hR p) id)
noncomputable abbrev lit (it l:Addr) (i:Nat):Ch:=.gen it fun o=>o.cls=.type "list_iterator"∧o.data=.fields #[.ref l,.int i 0]
noncomputable abbrev tit (it l:Addr) (i:Nat):Ch:=.gen it fun o=>o.cls=.type "tuple_iterator"∧o.data=.fields #[.ref l,.int i 0]
noncomputable abbrev rit (it:Addr) (x left step:Int):Ch:=.obj it { cls:=.type "range_iterator",dict:=none,data:=.fields #[rawInt x,rawInt left,rawInt step],slots:=#[] }
theorem let_go {prog:Program} {w:World} {A:Around} {E:Value→Shared→Prop} {s:Shared} {target:Expr} {it:Addr} {v:Value} {o:Obj} {T:String} {vs:Array Value} {Q:Unit→Shared→Prop} (ho:s.heap.get? it=some o) (hc:o.cls=.type T) (hd:o.data=.fields vs)
  (hT:["enumerate","zip","dict_itemiterator","dict_reverseitemiterator","odict_iterator","itertools.zip_longest","itertools.pairwise"].contains T=false) (h:Q () s):wpAny (model prog w) A (letOwnedTupleGo target (.ref it) v) Q E s:=by
 have key:∀ a:Addr,wpAny (model prog w) A (do
   let o ← load it
   match o.cls,o.data with
   | .type n,.fields vs =>
    if ["enumerate","zip","dict_itemiterator","dict_reverseitemiterator","odict_iterator","itertools.zip_longest","itertools.pairwise"].contains n&&vs[0]?==some (rawInt a) then
     rule "for.unpacks-the-owned-tuple"
     updateField it 0 .none
   | _,_=>pure ()) Q E s:=fun a=>by
  refine wpAny_bind (wpAny_load ho ?_)
  rw [hc,hd]
  simp only [hT,Bool.false_and,Bool.false_eq_true,if_false]
  exact wpAny_pure h
 unfold letOwnedTupleGo
 cases target<;>first
  | exact wpAny_pure h
  | (cases v<;>first | exact wpAny_pure h | exact key _)
structure It (prog:Program) (w:World) (A:Around) (it:Addr) (n:Nat) (P:Nat→Value→Prop) (ck:Nat→Ch) (rd:Heap→Prop):Prop where
 fp:∀ i,(ck i).fp=[it]
 item:∀ i (s:Shared) (Q:Option Value→Shared→Prop) (E:Value→Shared→Prop),i<n→(ck i).At w s.heap→rd s.heap →
  (∀ v h' tk,P i v→(ck (i+1)).At w h'→(∀ b o,b≠it→s.heap.get? b=some o→h'.get? b=some o)→Q (some v) { s with heap:=h',toks:=tk })→wpAny (model prog w) A (pyNext (.ref it)) Q E s
 done:∀ (s:Shared) (Q:Option Value→Shared→Prop) (E:Value→Shared→Prop),(ck n).At w s.heap→rd s.heap →
  (∀ h',(∀ b o,b≠it→s.heap.get? b=some o→h'.get? b=some o)→Q none { s with heap:=h' })→wpAny (model prog w) A (pyNext (.ref it)) Q E s
 lt:∀ i (s:Shared) (Q:Unit→Shared→Prop) (E:Value→Shared→Prop) (target:Expr) (v:Value),(ck i).At w s.heap→Q () s→wpAny (model prog w) A (letOwnedTupleGo target (.ref it) v) Q E s
 self:∀ i (s:Shared) (Q:Value→Shared→Prop) (E:Value→Shared→Prop),(ck i).At w s.heap→Q (.ref it) s→wpAny (model prog w) A (pyIter (.ref it)) Q E s
section
variable {prog:Program} {w:World} {A:Around} {E:Value→Shared→Prop} {hE:Heap} {s₀ s:Shared} {mods:List Addr} {R₀ c c' R:List Ch}
theorem It.list (hh:A.handled=none) (it ax:Addr) (vs:List Value):It prog w A it vs.length (fun i v=>vs[i]?=some v) (lit it ax) (fun h=>h.IsList ax vs.toArray) where
 fp:=fun _=>rfl
 item:=fun i s Q E hi ha hl hQ=>wpAny_pyNext_list_item ha hl (x:=vs[i]) (by simp -iota [hi]) fun h' hit' hs'=>hQ _ h' s.toks (by simp -iota [hi]) hit' fun b o hb e=>hs'.extBut b o hb e
 done:=fun s Q E ha hl hQ=>wpAny_pyNext_list_end hh ha hl (by simp) fun h' he'=>hQ h' fun b o hb e=>he' b o hb e
 lt:=fun i s Q E t v ha h=>let ⟨o,ho,hc,hd⟩:=ha;let_go ho hc hd (by decide) h
 self:=fun i s Q E ha h=>wpAny_pyIter_listiter (l:=ax) (i:=i) ha h
theorem It.tuple (hh:A.handled=none) (it ax:Addr) (vs:List Value):It prog w A it vs.length (fun i v=>vs[i]?=some v) (tit it ax) (fun h=>h.IsTuple ax vs.toArray) where
 fp:=fun _=>rfl
 item:=fun i s Q E hi ha hl hQ=>wpAny_pyNext_tuple_item ha hl (x:=vs[i]) (by simp -iota [hi]) fun h' hit' hs'=>hQ _ h' s.toks (by simp -iota [hi]) hit' fun b o hb e=>hs'.extBut b o hb e
 done:=fun s Q E ha hl hQ=>wpAny_pyNext_tuple_end hh ha hl (by simp) fun h' he'=>hQ h' fun b o hb e=>he' b o hb e
 lt:=fun i s Q E t v ha h=>let ⟨o,ho,hc,hd⟩:=ha;let_go ho hc hd (by decide) h
 self:=fun i s Q E ha h=>wpAny_pyIter_tupleiter (t:=ax) (i:=i) ha h
theorem It.range (hh:A.handled=none) (it:Addr) (n:Nat):It prog w A it n (fun i v=>∃ t,v=.int i t) (fun i=>rit it (i:Int) ((n:Int) - i) 1) (fun _=>True) where
 fp:=fun _=>rfl
 item:=fun i s Q E hi ha _ hQ=>wpAny_pyNext_range_item (x:=(i:Int)) ha (by lia) fun h' hit' hs'=>by
  refine hQ _ h' _ ⟨_,rfl⟩ ?_ fun b o hb e=>hs'.extBut b o hb e
  show IsRangeIter h' it _ _ _
  have e2:(n:Int) - ((i+1:Nat):Int)=(n:Int) - (i:Int) - 1:=by push_cast;lia
  rw [e2];push_cast;exact hit'
 done:=fun s Q E ha _ hQ=>wpAny_pyNext_range_end hh ha (by lia) fun h' he'=>hQ h' fun b o hb e=>he' b o hb e
 lt:=fun i s Q E t v ha h=>let_go ha rfl rfl (by decide) h
 self:=fun i s Q E ha h=>wpAny_pyIter_rangeiter ha h
noncomputable def Imp {α:Type} (P P':α→Shared→Prop):Prop:=∀ v s,P v s→P' v s
theorem Imp.ap {α:Type} {P P':α→Shared→Prop} {v:α} {s:Shared} (k:Imp P P') (h:P v s):P' v s:=k v s h
theorem Imp.rfl {α:Type} {P:α→Shared→Prop}:Imp P P:=fun _ _ h=>h
noncomputable def Imp1 (P P':Shared→Prop):Prop:=∀ s,P s→P' s
theorem Imp1.ap {P P':Shared→Prop} {s:Shared} (k:Imp1 P P') (h:P s):P' s:=k s h
noncomputable abbrev LE (w:World) (hE:Heap) (s₀:Shared) (mods:List Addr) (R₀:List Ch) (L:Addr) (ck:Ch) (J B:Loc→List Ch→List Ch→Prop) (Q:Flow→Shared→Prop) (f:Flow) (s:Shared):Prop :=
 match f with
 | .next | .cont=>∃ m c R,J m c R∧St w hE s₀ mods R₀ (.frm L m::ck::c) R s
 | .brk=>∃ m c R,B m c R∧St w hE s₀ mods R₀ (.frm L m::ck::c) R s
 | .ret v=>Q (.ret v) s
theorem for_it {env:Env} {L it:Addr} {n:Nat} {P:Nat→Value→Prop} {ck:Nat→Ch} {rd:Heap→Prop} {target:Expr} {body:List Stmt} {Rr:Result→Shared→Prop} {m:Loc}
  (J:Nat→Loc→List Ch→List Ch→Prop) (B:Loc→List Ch→List Ch→Prop)
  (I:It prog w A it n P ck rd) (S:St w hE s₀ mods R₀ (.frm L m::ck 0::c) R s) (hi:it∉mods) (j0:J 0 m c R)
  (hrd:∀ i m c R s,J i m c R→St w hE s₀ mods R₀ (.frm L m::ck i::c) R s→rd s.heap)
  (step:∀ i v m c R s E' G,Imp (LE w hE s₀ mods R₀ L (ck (i+1)) (J (i+1)) B fun f s₃=>Rr (.ok f) s₃) G→i<n→P i v→J i m c R→St w hE s₀ mods R₀ (.frm L m::ck (i+1)::c) R s →
   wpAny (model prog w) A (assign target env v) (fun _ s₂=>wpAny (model prog w) A (execs body env) G E' s₂) E' s)
  (done:∀ m c R,J n m c R→B m c R)
  (fin:∀ m c R s,B m c R→St w hE s₀ mods R₀ (.frm L m::c) R s→Rr (.ok .next) s) :
  codeAny (model prog w) A (.forLoop target (.ref it) body [] env) Rr s:=by
 refine codeAny_forLoop_any (fun k s'=>∃ i m c R,k=n - i∧i≤n∧J i m c R∧St w hE s₀ mods R₀ (.frm L m::ck i::c) R s') ?_ n ⟨0,m,c,R,rfl,Nat.zero_le _,j0,S⟩
 rintro k s ⟨i,m,c,R,rfl,hin,j,S⟩
 have hl:∀ i,∀ a∈(ck i).fp,a∉mods:=fun i a ha=>by rw [I.fp] at ha;simp -iota only [List.mem_singleton] at ha;subst ha;exact hi
 have turnCk:∀ (s':Shared) (i:Nat) ,St w hE s₀ mods R₀ (.frm L m::ck i::c) R s→(ck (i+1)).At w s'.heap→(∀ b o,b≠it→s.heap.get? b=some o→s'.heap.get? b=some o)→s'.gens=s.gens→s'.os=s.os→s'.drawn=s.drawn →
   St w hE s₀ mods R₀ (.frm L m::ck (i+1)::c) R s':=fun s' i S ha hk hg ho hd =>
  S.upd (.tl .hd) (by rw [I.fp,I.fp]) (fun b o hb e=>hk b o (fun q=>hb (by rw [I.fp,q];simp)) e) ha hg ho hd
 by_cases hlt:i<n
 ·refine I.item i s _ _ hlt (S.own _ (by simp)) (hrd i m c R s j S) fun v h' tk hv ha hk=>?_
  have S':=turnCk { s with heap:=h',toks:=tk } i S ha hk rfl rfl rfl
  refine I.lt (i+1) _ _ _ target v (S'.own _ (by simp)) ?_
  refine wpAny_mono (step i v m c R _ _ _ .rfl hlt hv j S') (fun _ s₂ h₂=>wpAny_mono h₂ (fun f s₃ h₃=>?_) fun _ _ e=>e) fun _ _ e=>e
  cases f with
  | next=>obtain ⟨m',c',R',j',S''⟩:=h₃;exact ⟨n - (i+1),Nat.sub_lt_sub_left hlt (Nat.lt_succ_self i),i+1,m',c',R',rfl,hlt,j',S''⟩
  | cont=>obtain ⟨m',c',R',j',S''⟩:=h₃;exact ⟨n - (i+1),Nat.sub_lt_sub_left hlt (Nat.lt_succ_self i),i+1,m',c',R',rfl,hlt,j',S''⟩
  | brk=>obtain ⟨m',c',R',b',S''⟩:=h₃;exact fin m' c' R' s₃ b' (S''.lose (.tl .hd) (hl _) (fun _ _ _ e=>e) rfl rfl rfl)
  | ret v=>exact h₃
 ·obtain rfl:i=n:=Nat.le_antisymm hin (Nat.not_lt.mp hlt)
  refine I.done s _ _ (S.own _ (by simp)) (hrd i m c R s j S) fun h' hk=>wpAny_execs_nil ?_
  refine fin m c R _ (done m c R j) (S.lose (s':={ s with heap:=h' }) (.tl .hd) (hl _) (fun b o hb e=>hk b o (fun q=>hb (by rw [I.fp,q];simp)) e) rfl rfl rfl)
theorem for_list {env:Env} {L ax:Addr} {vs:List Value} {target:Expr} {body:List Stmt} {Rr:Result→Shared→Prop} {m:Loc}
  (J:Nat→Loc→List Ch→List Ch→Prop) (B:Loc→List Ch→List Ch→Prop)
  (hh:A.handled=none) (S:St w hE s₀ mods R₀ (.frm L m::c) R s) (j0:J 0 m c R)
  (hrd:∀ i m c R,J i m c R→Has w s₀ mods c R (.lst ax vs))
  (step:∀ i v m c R s E' ck G,Imp (LE w hE s₀ mods R₀ L ck (J (i+1)) B fun f s₃=>Rr (.ok f) s₃) G→vs[i]?=some v→J i m c R→St w hE s₀ mods R₀ (.frm L m::ck::c) R s →
   wpAny (model prog w) A (assign target env v) (fun _ s₂=>wpAny (model prog w) A (execs body env) G E' s₂) E' s)
  (done:∀ m c R,J vs.length m c R→B m c R)
  (fin:∀ m c R s,B m c R→St w hE s₀ mods R₀ (.frm L m::c) R s→Rr (.ok .next) s) :
  wpAny (model prog w) A (pyIter (.ref ax)) (fun it s₂=>codeAny (model prog w) A (.forLoop target it body [] env) Rr s₂) E s:=by
 refine wpAny_pyIter_list (lst_isl (((hrd _ _ _ _ j0).more (fun q hq=>List.mem_cons_of_mem _ hq) fun _ h=>h).at_ S)) ?_
 have S1:=S.alloc (s':={ s with heap:=s.heap.push { cls:=.type "list_iterator",data:=.fields #[.ref ax,.int 0 0] } }) (p:=lit s.heap.objs.size ax 0) (fun b o e=>Heap.get?_push_of_some _ e) ⟨_,Heap.get?_push_size _ rfl,rfl,rfl⟩
  (fun a ha=>by simp only [Ch.fp,List.mem_singleton] at ha;subst ha;exact none_at) (by simp [Ch.fp]) rfl rfl rfl
 have S2:=S1.perm (.swap _ _ _)
 exact for_it J B (It.list hh _ ax vs) S2 (S.offmods none_at) j0 (fun i m c R s j S=>lst_isl (((hrd _ _ _ _ j).more (fun q hq=>List.mem_cons_of_mem _ (List.mem_cons_of_mem _ hq)) fun _ h=>h).at_ S)) (fun i v m c R s E' G kl _ hv j S=>step i v m c R s E' _ G kl hv j S) done fin
theorem for_tuple {env:Env} {L ax:Addr} {vs:List Value} {target:Expr} {body:List Stmt} {Rr:Result→Shared→Prop} {m:Loc}
  (J:Nat→Loc→List Ch→List Ch→Prop) (B:Loc→List Ch→List Ch→Prop)
  (hh:A.handled=none) (S:St w hE s₀ mods R₀ (.frm L m::c) R s) (j0:J 0 m c R)
  (hrd:∀ i m c R,J i m c R→Has w s₀ mods c R (.tup ax vs))
  (step:∀ i v m c R s E' ck G,Imp (LE w hE s₀ mods R₀ L ck (J (i+1)) B fun f s₃=>Rr (.ok f) s₃) G→vs[i]?=some v→J i m c R→St w hE s₀ mods R₀ (.frm L m::ck::c) R s →
   wpAny (model prog w) A (assign target env v) (fun _ s₂=>wpAny (model prog w) A (execs body env) G E' s₂) E' s)
  (done:∀ m c R,J vs.length m c R→B m c R)
  (fin:∀ m c R s,B m c R→St w hE s₀ mods R₀ (.frm L m::c) R s→Rr (.ok .next) s) :
  wpAny (model prog w) A (pyIter (.ref ax)) (fun it s₂=>codeAny (model prog w) A (.forLoop target it body [] env) Rr s₂) E s:=by
 refine wpAny_pyIter_tuple (tup_ist (((hrd _ _ _ _ j0).more (fun q hq=>List.mem_cons_of_mem _ hq) fun _ h=>h).at_ S)) ?_
 have S1:=S.alloc (s':={ s with heap:=s.heap.push { cls:=.type "tuple_iterator",data:=.fields #[.ref ax,.int 0 0] } }) (p:=tit s.heap.objs.size ax 0) (fun b o e=>Heap.get?_push_of_some _ e) ⟨_,Heap.get?_push_size _ rfl,rfl,rfl⟩
  (fun a ha=>by simp only [Ch.fp,List.mem_singleton] at ha;subst ha;exact none_at) (by simp [Ch.fp]) rfl rfl rfl
 have S2:=S1.perm (.swap _ _ _)
 exact for_it J B (It.tuple hh _ ax vs) S2 (S.offmods none_at) j0 (fun i m c R s j S=>tup_ist (((hrd _ _ _ _ j).more (fun q hq=>List.mem_cons_of_mem _ (List.mem_cons_of_mem _ hq)) fun _ h=>h).at_ S)) (fun i v m c R s E' G kl _ hv j S=>step i v m c R s E' _ G kl hv j S) done fin
noncomputable abbrev rng (r:Addr) (k:Int):Ch:=.gen r fun o=>∃ t u v,o={ cls:=.type "range",dict:=none,data:=.fields #[.int 0 t,.int k u,.int 1 v],slots:=#[] }
theorem c_range {k:Int} {t:Tok} {Q:Value→Shared→Prop} (S:St w hE s₀ mods R₀ c R s) (h:∀ s' r,r∉mods→St w hE s₀ mods R₀ (rng r k::c) R s'→Q (.ref r) s') :
  wpAny (model prog w) A (call (.type "range") [.int k t]) Q E s :=
 call_range_1 (h _ _ (S.offmods none_at) (S.alloc (fun b o e=>Heap.get?_push_of_some _ e) ⟨_,Heap.get?_push_size _ rfl,_,_,_,rfl⟩
  (fun a ha=>by simp only [Ch.fp,List.mem_singleton] at ha;subst ha;exact none_at) (by simp [Ch.fp]) rfl rfl rfl))
theorem for_range {env:Env} {L r:Addr} {n:Nat} {target:Expr} {body:List Stmt} {Rr:Result→Shared→Prop} {m:Loc} {k:Int}
  (J:Nat→Loc→List Ch→List Ch→Prop) (B:Loc→List Ch→List Ch→Prop)
  (hh:A.handled=none) (S:St w hE s₀ mods R₀ (rng r k::.frm L m::c) R s) (hr:r∉mods) (hk:k=n) (hn:n≤1000) (j0:J 0 m c R)
  (step:∀ i t m c R s E' ck G,Imp (LE w hE s₀ mods R₀ L ck (J (i+1)) B fun f s₃=>Rr (.ok f) s₃) G→i<n→J i m c R→St w hE s₀ mods R₀ (.frm L m::ck::c) R s →
   wpAny (model prog w) A (assign target env (.int i t)) (fun _ s₂=>wpAny (model prog w) A (execs body env) G E' s₂) E' s)
  (done:∀ m c R,J n m c R→B m c R)
  (fin:∀ m c R s,B m c R→St w hE s₀ mods R₀ (.frm L m::c) R s→Rr (.ok .next) s) :
  wpAny (model prog w) A (pyIter (.ref r)) (fun it s₂=>codeAny (model prog w) A (.forLoop target it body [] env) Rr s₂) E s:=by
 obtain ⟨o,ho,t,u,v,rfl⟩:=S.own _ (.head _)
 subst hk
 refine wpAny_pyIter_range (a:=0) (b:=n) (c:=1) ho (small_one (by lia) (by lia) (by lia) (by lia)) ?_
 rw [rangeSize_one]
 have e:(if (0:Int)<(n:Int) then (n:Int) - 0 else 0)=(n:Int) - ((0:Nat):Int):=by split<;>lia
 rw [e]
 have S0:=S.lose (s':=s) .hd (fun a ha=>by simp only [Ch.fp,List.mem_singleton] at ha;subst ha;exact hr) (fun _ _ _ e=>e) rfl rfl rfl
 have S1:=S0.alloc (s':={ s with heap:=s.heap.push { cls:=.type "range_iterator",data:=.fields #[rawInt 0,rawInt ((n:Int) - ((0:Nat):Int)),rawInt 1] } }) (p:=rit s.heap.objs.size ((0:Nat):Int) ((n:Int) - ((0:Nat):Int)) 1) (fun b o e=>Heap.get?_push_of_some _ e) (Heap.get?_push_size _ rfl)
  (fun a ha=>by simp only [Ch.fp,List.mem_singleton] at ha;subst ha;exact none_at) (by simp [Ch.fp]) rfl rfl rfl
 have S2:=S1.perm (.swap _ _ _)
 exact for_it J B (It.range hh _ n) S2 (S.offmods none_at) j0 (fun i m c R s j S=>trivial) (fun i v m c R s E' G kl hi hv j S=>by obtain ⟨t,rfl⟩:=hv;exact step i t m c R s E' _ G kl hi j S) done fin
end
noncomputable def freeGo (ks:Kinds) (cells acc:List (Str×Addr)):Option (List (Str×Addr)):=ks.foldlM (fun acc q=>if q.2==.free then (cells.lookup q.1).map fun a=>(q.1,a)::acc else some acc) acc
noncomputable def relK (names kinds:Kinds):Kinds:=names.map fun (n,k)=>if (k==.free&&kinds.lookup n==some .cell) then (n,.cell) else (n,k)
theorem clos_go {env:Env} {names:Kinds} {acc cl:List (Str×Addr)} (h:freeGo names env.cells acc=some cl) :
  (forIn names acc fun (x:Str×NameKind) (r:List (Str×Addr))=>(match x with | (name,kind)=>if (kind==NameKind.free)=true then (do let a ← cellOf env name;pure (ForInStep.yield ((name,a)::r))) else pure (ForInStep.yield r):Sem (ForInStep (List (Str×Addr)))))=pure cl:=by
 induction names generalizing acc with
 | nil=>cases h;rfl
 | cons q r ih =>
  rw [List.forIn_cons]
  replace h:((if q.2==.free then (env.cells.lookup q.1).map fun a=>(q.1,a)::acc else some acc).bind fun acc=>freeGo r env.cells acc)=some cl:=h
  show ((if (q.2==NameKind.free)=true then (do let a ← cellOf env q.1;pure (ForInStep.yield ((q.1,a)::acc))) else pure (ForInStep.yield acc):Sem (ForInStep (List (Str×Addr)))) >>= _)=_
  cases k:(q.2==NameKind.free) with
  | false =>
   rw [k] at h
   rw [if_neg Bool.false_ne_true,pure_bind]
   exact ih h
  | true =>
   rw [k] at h
   cases e:env.cells.lookup q.1 with
   | none=>rw [e] at h;exact (Option.some_ne_none _ h.symm).elim
   | some a =>
    rw [e] at h
    rw [if_pos rfl,show cellOf env q.1=pure a by unfold cellOf;rw [e],pure_bind,pure_bind]
    exact ih h
theorem clos_of {scope:Scope} {env:Env} {cells cl:List (Str×Addr)} (hc:env.cells=cells) (h:freeGo scope.names cells []=some cl):closureFor scope env=pure cl:=by
 subst hc
 unfold closureFor
 have:=clos_go h
 simp -iota only [bind_pure] at this ⊢
 refine Eq.trans ?_ this
 rfl
theorem relK_none {x:Str} {kinds:Kinds} {names:Kinds} (h:names.lookup x=none):(relK names kinds).lookup x=none:=by
 induction names with
 | nil=>rfl
 | cons p r ih =>
  obtain ⟨n,k⟩:=p
  rw [List.lookup_cons] at h
  show List.lookup x ((if (k==.free&&kinds.lookup n==some .cell)=true then (n,NameKind.cell) else (n,k))::relK r kinds)=none
  cases q:x==n with
  | true=>rw [q] at h;cases h
  | false =>
   rw [q] at h
   by_cases e:(k==.free&&kinds.lookup n==some .cell)=true
   ·rw [if_pos e,List.lookup_cons,q];exact ih h
   ·rw [if_neg e,List.lookup_cons,q];exact ih h
theorem envC {scope:Scope} {env:Env} {L C:Addr} {kinds:Kinds} {cells cl:List (Str×Addr)} (V:EnvOk env L kinds cells) (hk:scope.kind=.function) (hd:scope.names.lookup ("__debug__":Str)=none):EnvOk (compEnvC scope cl C env) C (relK scope.names kinds) cl:=by
 refine ⟨hk,rfl,V.glob,V.blt,?_,rfl,relK_none hd⟩
 show (relabel scope env).names=_
 unfold relabel relK Env.kindOf
 rw [V.kind,V.names]
 apply List.map_congr_left
 rintro ⟨n,k⟩ _
 simp
section
variable {prog:Program} {w:World} {A:Around} {E:Value→Shared→Prop} {hE:Heap} {s₀ s:Shared} {mods:List Addr} {R₀ c c' R:List Ch}
theorem comp_loop {Rr:Result→Shared→Prop} {elt target iter:Expr} {ifs:List Expr} {scope:Scope} {pos:Pos} {it acc:Value} {env:Env} (I:Nat→Shared→Prop)
  (turn:∀ n s,I n s→wpAny (model prog w) A (pyNext it) (fun r s₁=>match r with
   | none=>Rr (.ok .next) s₁
   | some v=>wpAny (model prog w) A (letOwnedTupleGo target it v) (fun _ s₁'=>wpAny (model prog w) A (assign target env v) (fun _ s₂ =>
     wpAny (model prog w) A (forIn ifs true fun c r=>if r=true then do let ok ← isTrue c env (eval c env);pure (ForInStep.yield ok) else pure (ForInStep.yield r)) (fun ok s₃ =>
      if ok=true then wpAny (model prog w) A (eval elt env) (fun x s₄ =>
       wpAny (model prog w) A (call (.builtin "list.append") [acc,x]) (fun _ s₅=>∃ m,m<n∧I m s₅) (notedBy (model prog w) A env fun e s'=>Rr (.error e) s') s₄) (notedBy (model prog w) A env fun e s'=>Rr (.error e) s') s₃
      else ∃ m,m<n∧I m s₃) (notedBy (model prog w) A env fun e s'=>Rr (.error e) s') s₂) (notedBy (model prog w) A env fun e s'=>Rr (.error e) s') s₁') (notedBy (model prog w) A env fun e s'=>Rr (.error e) s') s₁) (notedBy (model prog w) A env fun e s'=>Rr (.error e) s') s)
  (n:Nat) (h:I n s):codeAny (model prog w) A (.compLoop (.ListComp elt [⟨target,iter,ifs,0⟩] scope pos) 0 it acc env) Rr s:=by
 refine codeAny_loop rfl I (fun n s hI=>?_) n h
 show wpAny _ A ((compTurn (.ListComp elt [⟨target,iter,ifs,0⟩] scope pos) 0 it acc env).onRaise (fun x=>do noteFrame x env;theTreesLotGoes x)) _ _ s
 refine wpAny_noted ?_
 rw [compTurn_list]
 refine wpAny_bind (wpAny_standAt (wpAny_bind (wpAny_mono (turn n s hI) (fun r s₁ h₁=>?_) fun _ _ e=>e)))
 cases r with
 | none=>exact wpAny_pure h₁
 | some v =>
  refine wpAny_bind (wpAny_mono h₁ (fun _ s₁' h₁'=>?_) fun _ _ e=>e)
  refine wpAny_bind (wpAny_mono h₁' (fun _ s₂ h₂=>wpAny_bind (wpAny_mono h₂ (fun ok s₃ h₃=>?_) fun _ _ e=>e)) fun _ _ e=>e)
  cases ok with
  | false=>exact wpAny_pure ⟨rfl,h₃⟩
  | true=>exact wpAny_bind (wpAny_bind (wpAny_mono h₃ (fun x s₄ h₄=>wpAny_bind (wpAny_mono h₄ (fun _ s₅ h₅=>wpAny_pure (wpAny_pure ⟨rfl,h₅⟩)) fun _ _ e=>e)) fun _ _ e=>e))
theorem comp_it {env:Env} {L it:Addr} {kinds:Kinds} {cells cl:List (Str×Addr)} {n:Nat} {P:Nat→Value→Prop} {ck:Nat→Ch} {rd:Heap→Prop} {elt target iter:Expr} {ifs:List Expr} {scope:Scope} {pos:Pos} {RR:Value→Addr→Result→Shared→Prop}
  (J:Nat→List Value→List Ch→List Ch→Prop)
  (V:EnvOk env L kinds cells) (hkind:scope.kind=.function) (hcell:∀ y∈scope.names,y.2≠.cell) (hnd0:scope.names.lookup ("__debug__":Str)=none) (hz:n≤1000)
  (I:It prog w A it n P ck rd) (S:St w hE s₀ mods R₀ (ck 0::c) R s) (hi:it∉mods) (j0:J 0 [] c R)
  (hrd:∀ i ys m C D c R s,J i ys c R→St w hE s₀ mods R₀ (.frm C m::.lst D ys::ck i::c) R s→rd s.heap)
  (step:∀ C D i v ys m c R s E',i<n→P i v→J i ys c R→EnvOk (compEnvC scope cl C env) C (relK scope.names kinds) cl→St w hE s₀ mods R₀ (.frm C m::.lst D ys::ck (i+1)::c) R s →
   wpAny (model prog w) A (assign target (compEnvC scope cl C env) v) (fun _ s₂ =>
    wpAny (model prog w) A (forIn ifs true fun c r=>if r=true then do let ok ← isTrue c (compEnvC scope cl C env) (eval c (compEnvC scope cl C env));pure (ForInStep.yield ok) else pure (ForInStep.yield r))
     (fun ok s₃=>if ok=true then wpAny (model prog w) A (eval elt (compEnvC scope cl C env)) (fun y s₄=>∃ m c R,J (i+1) (ys++[y]) c R∧St w hE s₀ mods R₀ (.frm C m::.lst D ys::ck (i+1)::c) R s₄) E' s₃
      else ∃ m c R,J (i+1) ys c R∧St w hE s₀ mods R₀ (.frm C m::.lst D ys::ck (i+1)::c) R s₃) E' s₂) E' s)
  (fin:∀ D C ys m c R s,C∉mods→J n ys c R→St w hE s₀ mods R₀ (.frm C m::.lst D ys::c) R s→RR (.ref D) C (.ok .next) s) :
  wpAny (model prog w) A (newList []) (fun acc s₃=>wpAny (model prog w) A (newFunctionEnv scope env.globals cl [] env.qual none .none (some env)) (fun cenv s₄ =>
   codeAny (model prog w) A (.compStart (.ListComp elt [⟨target,iter,ifs,0⟩] scope pos) 0 (.ref it) acc { cenv with scope:=relabel scope env }) (RR acc cenv.locals) s₄) E s₃) E s:=by
 refine l_new (by simp) S fun s₁ D S₁=>?_
 refine wpAny_newFunctionEnv hcell (by intro y hy;simp at hy) (fun h₁ hns hsb=>?_) hkind
 have hC:s₁.heap.objs.size∉mods:=S₁.offmods none_at
 have S₂:St w hE s₀ mods R₀ (.frm s₁.heap.objs.size []::.lst D []::ck 0::c) R { s₁ with heap:=h₁,toks:=s₁.toks+([]:List (Str×Value)).length }:=by
  refine S₁.alloc (fun b o e=>?_) ⟨_,hns,fun x v hx=>by simp [look] at hx⟩ (fun a ha=>by simp only [Ch.fp,List.mem_singleton] at ha;subst ha;exact none_at) (by simp [Ch.fp]) rfl rfl rfl
  exact (hsb.2 b (Nat.ne_of_lt (Heap.lt_size e))).trans (Heap.get?_push_of_some _ e)
 generalize s₁.heap.objs.size=C at hC S₂ ⊢
 have V':EnvOk (compEnvC scope cl C env) C (relK scope.names kinds) cl:=envC V hkind hnd0
 have loop:∀ s',St w hE s₀ mods R₀ (.frm C []::.lst D []::ck 0::c) R s'→codeAny (model prog w) A (.compLoop (.ListComp elt [⟨target,iter,ifs,0⟩] scope pos) 0 (.ref it) (.ref D) (compEnvC scope cl C env)) (RR (.ref D) C) s':=by
  intro s' S'
  refine comp_loop (fun k s'=>∃ i m ys c R,k=n - i∧i≤n∧ys.length≤i∧J i ys c R∧St w hE s₀ mods R₀ (.frm C m::.lst D ys::ck i::c) R s') ?_ n ⟨0,_,[],c,R,rfl,Nat.zero_le _,Nat.zero_le _,j0,S'⟩
  rintro k s ⟨i,m,ys,c,R,rfl,hin,hy,j,S⟩
  by_cases hlt:i<n
  ·refine I.item i s _ _ hlt (S.own _ (by simp)) (hrd i ys m C D c R s j S) fun v h' tk hv ha hk=>?_
   have S':=S.upd (s':={ s with heap:=h',toks:=tk }) (p:=ck i) (p':=ck (i+1)) (.tl (.tl .hd)) (by rw [I.fp,I.fp]) (fun b o hb e=>hk b o (fun q=>hb (by rw [I.fp,q];simp)) e) ha rfl rfl rfl
   refine I.lt (i+1) _ _ _ target v (S'.own _ (by simp)) ?_
   refine wpAny_mono (step C D i v ys m c R _ _ hlt hv j V' S') (fun _ s₂ h₂=>wpAny_mono h₂ (fun ok s₃ h₃=>?_) fun _ _ e=>e) fun _ _ e=>e
   cases ok with
   | true =>
    simp only [if_true] at h₃ ⊢
    refine wpAny_mono h₃ (fun y s₄ h₄=>?_) fun _ _ e=>e
    obtain ⟨m',c',R',j',S''⟩:=h₄
    refine l_app S'' (.tl .hd) (by lia) fun s₅ S₅=>⟨n - (i+1),Nat.sub_lt_sub_left hlt (Nat.lt_succ_self i),i+1,m',ys++[y],c',R',rfl,hlt,?_,j',S₅⟩
    rw [List.length_append];exact Nat.succ_le_succ hy
   | false =>
    simp only [Bool.false_eq_true,if_false] at h₃ ⊢
    obtain ⟨m',c',R',j',S''⟩:=h₃
    exact ⟨n - (i+1),Nat.sub_lt_sub_left hlt (Nat.lt_succ_self i),i+1,m',ys,c',R',rfl,hlt,Nat.le_succ_of_le hy,j',S''⟩
  ·obtain rfl:i=n:=Nat.le_antisymm hin (Nat.not_lt.mp hlt)
   refine I.done s _ _ (S.own _ (by simp)) (hrd i ys m C D c R s j S) fun h' hk=>?_
   refine fin D C ys m c R _ hC j (S.lose (s':={ s with heap:=h' }) (p:=ck i) (.tl (.tl .hd)) (fun a ha=>?_) (fun b o hb e=>hk b o (fun q=>hb (by rw [I.fp,q];simp)) e) rfl rfl rfl)
   rw [I.fp] at ha;simp only [List.mem_singleton] at ha;subst ha;exact hi
 exact codeAny_compStart_list (loop _ S₂) (I.self 0 _ _ _ (S₂.own _ (by simp)) (loop _ S₂))
noncomputable def CompAt (prog:Program) (w:World) (A:Around) (env:Env) (cl:List (Str×Addr)) (elt target iter:Expr) (ifs:List Expr) (scope:Scope) (pos:Pos) (use:Option (Value→Sem Unit)) (Q:Value→Shared→Prop) (E:Value→Shared→Prop) (x:Value) (s:Shared):Prop :=
 wpAny (model prog w) A (pyIter x) (fun it s₂=>wpAny (model prog w) A (newList []) (fun acc s₃=>wpAny (model prog w) A (newFunctionEnv scope env.globals cl [] env.qual none .none (some env)) (fun cenv s₄ =>
   codeAny (model prog w) A (.compStart (.ListComp elt [⟨target,iter,ifs,0⟩] scope pos) 0 it acc { cenv with scope:=relabel scope env }) (compPost (model prog w) A E use Q acc cenv.locals) s₄) E s₃) E s₂) E s
noncomputable def scopeOk (names:Kinds):Bool:=decide (names.lookup ("__debug__":Str)=none)&&names.all fun x=>decide (x.2≠.cell)&&(decide (x.2≠.local)||decide (names.lookup x.1=some .local))
theorem scopeOk.cell {names:Kinds} (h:scopeOk names=true):∀ y∈names,y.2≠.cell:=by
 simp -iota only [scopeOk,List.all_eq_true,Bool.and_eq_true,decide_eq_true_eq,Bool.or_eq_true] at h
 exact fun y hy=>(h.2 y hy).1
theorem scopeOk.nd {names:Kinds} (h:scopeOk names=true):names.lookup ("__debug__":Str)=none:=by
 simp -iota only [scopeOk,Bool.and_eq_true,decide_eq_true_eq] at h
 exact h.1
theorem lc {env:Env} {L:Addr} {kinds:Kinds} {cells cl:List (Str×Addr)} {elt target iter:Expr} {ifs:List Expr} {scope:Scope} {pos:Pos} {Q:Value→Shared→Prop}
  (V:EnvOk env L kinds cells) (hcl:freeGo scope.names cells []=some cl) (hkind:scope.kind=.function) (hok:scopeOk scope.names=true)
  (h:wpAny (model prog w) A (eval iter env) (fun x s₁=>CompAt prog w A env cl elt target iter ifs scope pos none Q E x s₁) E s)
  (hs:∀ x,foldedSetIterable iter env x=pure x) :
  wpAny (model prog w) A (eval (.ListComp elt [⟨target,iter,ifs,0⟩] scope pos) env) Q E s:=by
 rw [eval_ListComp]
 simp -iota only [scopeOk,List.all_eq_true,Bool.and_eq_true,decide_eq_true_eq,Bool.or_eq_true] at hok
 exact wpAny_comprehension_free (use:=none) rfl hs (clos_of V.cells hcl) hkind (fun x hx hl=>((hok.2 x hx).2.resolve_left (fun h=>h hl))) h
theorem lc_assign {env:Env} {L:Addr} {kinds:Kinds} {cells cl:List (Str×Addr)} {elt target iter:Expr} {ifs:List Expr} {scope:Scope} {pos spos py:Pos} {y:Str} {Q:Flow→Shared→Prop}
  (V:EnvOk env L kinds cells) (hcl:freeGo scope.names cells []=some cl) (hkind:scope.kind=.function) (hok:scopeOk scope.names=true)
  (hy:kinds.lookup y=some .local) (hl:(py.line==pos.line&&!(scope.names.any fun (n,k)=>n==y&&(k==.local||k==.cell)))=true)
  (h:wpAny (model prog w) A (eval iter env) (fun x s₁=>CompAt prog w A env cl elt target iter ifs scope pos (some (assign (.Name y py) env)) (fun _ s'=>Q .next s') E x s₁) E s)
  (hs:∀ x,foldedSetIterable iter env x=pure x) :
  wpAny (model prog w) A (exec (.Assign [.Name y py] (.ListComp elt [⟨target,iter,ifs,0⟩] scope pos) spos) env) Q E s:=by
 have hsw:swapsWith (.ListComp elt [⟨target,iter,ifs,0⟩] scope pos) (some (.Name y py)) spos.line env=pure true:=by
  have k1:env.kindOf y=some .local:=by unfold Env.kindOf;rw [V.names];exact hy
  have k2:env.blockKind=.function:=by unfold Env.blockKind;rw [V.kind];rfl
  show (pure (env.blockKind==.function&&env.kindOf y==some .local&&py.line==pos.line&&!(scope.names.any fun (n,k)=>n==y&&(k==.local||k==.cell))):Sem Bool)=_
  rw [k1,k2]
  simp -iota only [beq_self_eq_true,Bool.true_and,hl]
 rw [exec_Assign_Name_used _ _ _ _ hsw]
 refine wpAny_bind (wpAny_standAt (wpAny_bind ?_))
 show wpAny _ A (do let _ ← comprehension (.ListComp elt [⟨target,iter,ifs,0⟩] scope pos) scope env _ (newList []) false (eval iter env) (some (assign (.Name y py) env))) _ _ s
 simp -iota only [scopeOk,List.all_eq_true,Bool.and_eq_true,decide_eq_true_eq,Bool.or_eq_true] at hok
 refine wpAny_bind (wpAny_mono (wpAny_comprehension_free (use:=some (assign (.Name y py) env)) (Q:=fun _ s'=>Q .next s') rfl hs (clos_of V.cells hcl) hkind (fun x hx hl=>((hok.2 x hx).2.resolve_left (fun h=>h hl))) h) (fun _ s' hq=>wpAny_pure (wpAny_pure hq)) fun _ _ e=>e)
section
variable {env:Env} {L:Addr} {kinds:Kinds} {cells cl:List (Str×Addr)} {elt target iter:Expr} {ifs:List Expr} {scope:Scope} {pos:Pos} {m:Loc}
noncomputable abbrev Turn (prog:Program) (w:World) (A:Around) (hE:Heap) (s₀:Shared) (mods:List Addr) (R₀:List Ch) (env:Env) (kinds:Kinds) (cl:List (Str×Addr)) (scope:Scope) (target elt:Expr) (ifs:List Expr) (F:Ch)
  (J1:List Value→List Ch→List Ch→Prop) (v:Value) (ys:List Value) (c R:List Ch):Prop :=
 ∀ C D m s E' ck G G0,Imp (fun y s₄=>∃ m c R,J1 (ys++[y]) c R∧St w hE s₀ mods R₀ (.frm C m::.lst D ys::ck::F::c) R s₄) G→Imp1 (fun s₃=>∃ m c R,J1 ys c R∧St w hE s₀ mods R₀ (.frm C m::.lst D ys::ck::F::c) R s₃) G0 →
  EnvOk (compEnvC scope cl C env) C (relK scope.names kinds) cl→St w hE s₀ mods R₀ (.frm C m::.lst D ys::ck::F::c) R s →
   wpAny (model prog w) A (assign target (compEnvC scope cl C env) v) (fun _ s₂ =>
    wpAny (model prog w) A (forIn ifs true fun c r=>if r=true then do let ok ← isTrue c (compEnvC scope cl C env) (eval c (compEnvC scope cl C env));pure (ForInStep.yield ok) else pure (ForInStep.yield r))
     (fun ok s₃=>if ok=true then wpAny (model prog w) A (eval elt (compEnvC scope cl C env)) G E' s₃ else G0 s₃) E' s₂) E' s
theorem comp_core {n:Nat} {P:Nat→Value→Prop} {ck:Nat→Ch} {rd:Heap→Prop} {it:Addr} {RR:Value→Addr→Result→Shared→Prop} (J:Nat→List Value→List Ch→List Ch→Prop)
  (V:EnvOk env L kinds cells) (hkind:scope.kind=.function) (hok:scopeOk scope.names=true) (hz:n≤1000)
  (I:It prog w A it n P ck rd) (S:St w hE s₀ mods R₀ (ck 0::.frm L m::c) R s) (hi:it∉mods) (j0:J 0 [] c R)
  (hrd:∀ i ys c R s c₁,J i ys c R→(∀ p∈c,p∈c₁)→St w hE s₀ mods R₀ c₁ R s→rd s.heap)
  (step:∀ i v ys c R,i<n→P i v→J i ys c R→Turn prog w A hE s₀ mods R₀ env kinds cl scope target elt ifs (.frm L m) (J (i+1)) v ys c R)
  (fin:∀ D C ys m' c R s,C∉mods→J n ys c R→St w hE s₀ mods R₀ (.frm C m'::.lst D ys::.frm L m::c) R s→RR (.ref D) C (.ok .next) s) :
  wpAny (model prog w) A (newList []) (fun acc s₃=>wpAny (model prog w) A (newFunctionEnv scope env.globals cl [] env.qual none .none (some env)) (fun cenv s₄ =>
   codeAny (model prog w) A (.compStart (.ListComp elt [⟨target,iter,ifs,0⟩] scope pos) 0 (.ref it) acc { cenv with scope:=relabel scope env }) (RR acc cenv.locals) s₄) E s₃) E s:=by
 refine comp_it (fun i ys c' R=>∃ c,c'=.frm L m::c∧J i ys c R) V hkind (scopeOk.cell hok) (scopeOk.nd hok) hz I S hi ⟨c,rfl,j0⟩ ?_ ?_ ?_
 ·rintro i ys m' C D c' R s ⟨c,rfl,j⟩ S'
  exact hrd i ys c R s _ j (fun p hp=>.tail _ (.tail _ (.tail _ (.tail _ hp)))) S'
 ·rintro C D i v ys m' c' R s E' hi hv ⟨c,rfl,j⟩ V' S'
  refine wpAny_mono (step i v ys c R hi hv j C D m' s E' _ _ _ .rfl (fun _ h=>h) V' S') (fun _ s₂ h₂=>wpAny_mono h₂ (fun ok s₃ h₃=>?_) fun _ _ e=>e) fun _ _ e=>e
  cases ok with
  | true =>
   simp -iota only [if_true] at h₃ ⊢
   refine wpAny_mono h₃ (fun y s₄ h₄=>?_) fun _ _ e=>e
   obtain ⟨m,c,R,j,S⟩:=h₄
   exact ⟨m,_,R,⟨c,rfl,j⟩,S⟩
  | false =>
   simp -iota only [Bool.false_eq_true,if_false] at h₃ ⊢
   obtain ⟨m,c,R,j,S⟩:=h₃
   exact ⟨m,_,R,⟨c,rfl,j⟩,S⟩
 ·rintro D C ys m' c' R s hC ⟨c,rfl,j⟩ S'
  exact fin D C ys m' c R s hC j S'
theorem post_none {Q:Value→Shared→Prop} {C D:Addr} {ys:List Value} {m':Loc} (hC:C∉mods) (S:St w hE s₀ mods R₀ (.frm C m'::.lst D ys::.frm L m::c) R s)
  (h:∀ s',St w hE s₀ mods R₀ (.frm L m::.lst D ys::c) R s'→Q (.ref D) s'):compPost (model prog w) A E none Q (.ref D) C (.ok .next) s:=by
 obtain ⟨f,hn,_⟩:=S.own _ (.head _)
 refine ⟨f,hn,fun h' hs=>h _ ?_⟩
 exact (S.lose (s':={ s with heap:=h' }) .hd (fun a ha=>by simp only [Ch.fp,List.mem_singleton] at ha;subst ha;exact hC) (fun b o hb e=>(hs.2 b fun q=>hb (by rw [q];simp [Ch.fp])).trans e) rfl rfl rfl).perm (.swap _ _ _)
theorem post_as {Q:Flow→Shared→Prop} {C D:Addr} {ys:List Value} {m':Loc} {y:Str} {py:Pos} (V:EnvOk env L kinds cells) (hy:kinds.lookup y=some .local) (hC:C∉mods) (S:St w hE s₀ mods R₀ (.frm C m'::.lst D ys::.frm L m::c) R s)
  (h:∀ s',St w hE s₀ mods R₀ (.frm L ((y,.ref D)::m)::.lst D ys::c) R s'→Q .next s'):compPost (model prog w) A E (some (assign (.Name y py) env)) (fun _ s'=>Q .next s') (.ref D) C (.ok .next) s:=by
 show wpAny _ A (assign (.Name y py) env (.ref D)) _ _ _
 refine wpAny_assign_Name (st_locU V hy S (.tl (.tl .hd)) fun s₁ _ S₁=>?_)
 obtain ⟨f,hn,_⟩:=S₁.own _ (.head _)
 refine ⟨f,hn,fun h' hs=>h _ ?_⟩
 exact (S₁.lose (s':={ s₁ with heap:=h' }) .hd (fun a ha=>by simp only [Ch.fp,List.mem_singleton] at ha;subst ha;exact hC) (fun b o hb e=>(hs.2 b fun q=>hb (by rw [q];simp [Ch.fp])).trans e) rfl rfl rfl).perm (.swap _ _ _)
theorem comp_list {ax:Addr} {vs:List Value} {Q:Value→Shared→Prop} (J:Nat→List Value→List Ch→List Ch→Prop)
  (hh:A.handled=none) (V:EnvOk env L kinds cells) (hkind:scope.kind=.function) (hok:scopeOk scope.names=true) (hz:vs.length≤1000)
  (S:St w hE s₀ mods R₀ (.frm L m::c) R s) (j0:J 0 [] c R) (hrd:∀ i ys c R,J i ys c R→Has w s₀ mods c R (.lst ax vs))
  (step:∀ i v ys c R,vs[i]?=some v→J i ys c R→Turn prog w A hE s₀ mods R₀ env kinds cl scope target elt ifs (.frm L m) (J (i+1)) v ys c R)
  (fin:∀ D ys c R s,J vs.length ys c R→St w hE s₀ mods R₀ (.frm L m::.lst D ys::c) R s→Q (.ref D) s) :
  CompAt prog w A env cl elt target iter ifs scope pos none Q E (.ref ax) s:=by
 have rd:∀ i ys c R s c₁,J i ys c R→(∀ p∈c,p∈c₁)→St w hE s₀ mods R₀ c₁ R s→s.heap.IsList ax vs.toArray:=fun i ys c R s c₁ j hc S=>lst_isl (((hrd i ys c R j).more hc fun _ h=>h).at_ S)
 refine wpAny_pyIter_list (rd _ _ _ _ _ _ j0 (fun _ h=>.tail _ h) S) ?_
 have S1:=S.alloc (s':={ s with heap:=s.heap.push { cls:=.type "list_iterator",data:=.fields #[.ref ax,.int 0 0] } }) (p:=lit s.heap.objs.size ax 0) (fun b o e=>Heap.get?_push_of_some _ e) ⟨_,Heap.get?_push_size _ rfl,rfl,rfl⟩
  (fun a ha=>by simp only [Ch.fp,List.mem_singleton] at ha;subst ha;exact none_at) (by simp [Ch.fp]) rfl rfl rfl
 exact comp_core J V hkind hok hz (It.list hh _ ax vs) S1 (S.offmods none_at) j0 rd (fun i v ys c R _ hv j=>step i v ys c R hv j) (fun D C ys m' c R s hC j S'=>post_none hC S' fun s' S''=>fin D ys c R s' j S'')
theorem comp_list_as {ax:Addr} {vs:List Value} {Q:Flow→Shared→Prop} {y:Str} {py:Pos} (J:Nat→List Value→List Ch→List Ch→Prop)
  (hh:A.handled=none) (V:EnvOk env L kinds cells) (hkind:scope.kind=.function) (hok:scopeOk scope.names=true) (hy:kinds.lookup y=some .local) (hz:vs.length≤1000)
  (S:St w hE s₀ mods R₀ (.frm L m::c) R s) (j0:J 0 [] c R) (hrd:∀ i ys c R,J i ys c R→Has w s₀ mods c R (.lst ax vs))
  (step:∀ i v ys c R,vs[i]?=some v→J i ys c R→Turn prog w A hE s₀ mods R₀ env kinds cl scope target elt ifs (.frm L m) (J (i+1)) v ys c R)
  (fin:∀ D ys c R s,J vs.length ys c R→St w hE s₀ mods R₀ (.frm L ((y,.ref D)::m)::.lst D ys::c) R s→Q .next s) :
  CompAt prog w A env cl elt target iter ifs scope pos (some (assign (.Name y py) env)) (fun _ s'=>Q .next s') E (.ref ax) s:=by
 have rd:∀ i ys c R s c₁,J i ys c R→(∀ p∈c,p∈c₁)→St w hE s₀ mods R₀ c₁ R s→s.heap.IsList ax vs.toArray:=fun i ys c R s c₁ j hc S=>lst_isl (((hrd i ys c R j).more hc fun _ h=>h).at_ S)
 refine wpAny_pyIter_list (rd _ _ _ _ _ _ j0 (fun _ h=>.tail _ h) S) ?_
 have S1:=S.alloc (s':={ s with heap:=s.heap.push { cls:=.type "list_iterator",data:=.fields #[.ref ax,.int 0 0] } }) (p:=lit s.heap.objs.size ax 0) (fun b o e=>Heap.get?_push_of_some _ e) ⟨_,Heap.get?_push_size _ rfl,rfl,rfl⟩
  (fun a ha=>by simp only [Ch.fp,List.mem_singleton] at ha;subst ha;exact none_at) (by simp [Ch.fp]) rfl rfl rfl
 exact comp_core J V hkind hok hz (It.list hh _ ax vs) S1 (S.offmods none_at) j0 rd (fun i v ys c R _ hv j=>step i v ys c R hv j) (fun D C ys m' c R s hC j S'=>post_as V hy hC S' fun s' S''=>fin D ys c R s' j S'')
theorem range_it {r:Addr} {k:Int} {n:Nat} (S:St w hE s₀ mods R₀ (rng r k::c) R s) (hr:r∉mods) (hk:k=n) (hn:n≤1000) {Q:Value→Shared→Prop}
  (h:∀ s' it,it∉mods→St w hE s₀ mods R₀ (rit it ((0:Nat):Int) ((n:Int) - ((0:Nat):Int)) 1::c) R s'→Q (.ref it) s'):wpAny (model prog w) A (pyIter (.ref r)) Q E s:=by
 obtain ⟨o,ho,t,u,v,rfl⟩:=S.own _ (.head _)
 subst hk
 refine wpAny_pyIter_range (a:=0) (b:=n) (c:=1) ho (small_one (by lia) (by lia) (by lia) (by lia)) ?_
 rw [rangeSize_one]
 have e:(if (0:Int)<(n:Int) then (n:Int) - 0 else 0)=(n:Int) - ((0:Nat):Int):=by split<;>lia
 rw [e]
 have S0:=S.lose (s':=s) .hd (fun a ha=>by simp only [Ch.fp,List.mem_singleton] at ha;subst ha;exact hr) (fun _ _ _ e=>e) rfl rfl rfl
 exact h _ _ (S.offmods none_at) (S0.alloc (s':={ s with heap:=s.heap.push { cls:=.type "range_iterator",data:=.fields #[rawInt 0,rawInt ((n:Int) - ((0:Nat):Int)),rawInt 1] } }) (p:=rit s.heap.objs.size ((0:Nat):Int) ((n:Int) - ((0:Nat):Int)) 1) (fun b o e=>Heap.get?_push_of_some _ e) (Heap.get?_push_size _ rfl)
  (fun a ha=>by simp only [Ch.fp,List.mem_singleton] at ha;subst ha;exact none_at) (by simp [Ch.fp]) rfl rfl rfl)
theorem comp_range {r:Addr} {k:Int} {n:Nat} {Q:Value→Shared→Prop} (J:Nat→List Value→List Ch→List Ch→Prop)
  (hh:A.handled=none) (V:EnvOk env L kinds cells) (hkind:scope.kind=.function) (hok:scopeOk scope.names=true) (hk:k=n) (hz:n≤1000)
  (S:St w hE s₀ mods R₀ (rng r k::.frm L m::c) R s) (hr:r∉mods) (j0:J 0 [] c R)
  (step:∀ i t ys c R,i<n→J i ys c R→Turn prog w A hE s₀ mods R₀ env kinds cl scope target elt ifs (.frm L m) (J (i+1)) (.int i t) ys c R)
  (fin:∀ D ys c R s,J n ys c R→St w hE s₀ mods R₀ (.frm L m::.lst D ys::c) R s→Q (.ref D) s) :
  CompAt prog w A env cl elt target iter ifs scope pos none Q E (.ref r) s :=
 range_it S hr hk hz fun _ _ hi S1=>comp_core J V hkind hok hz (It.range hh _ n) S1 hi j0 (fun _ _ _ _ _ _ _ _ _=>trivial) (fun i v ys c R hi hv j=>by obtain ⟨t,rfl⟩:=hv;exact step i t ys c R hi j) (fun D C ys m' c R s hC j S'=>post_none hC S' fun s' S''=>fin D ys c R s' j S'')
theorem comp_range_as {r:Addr} {k:Int} {n:Nat} {Q:Flow→Shared→Prop} {y:Str} {py:Pos} (J:Nat→List Value→List Ch→List Ch→Prop)
  (hh:A.handled=none) (V:EnvOk env L kinds cells) (hkind:scope.kind=.function) (hok:scopeOk scope.names=true) (hy:kinds.lookup y=some .local) (hk:k=n) (hz:n≤1000)
  (S:St w hE s₀ mods R₀ (rng r k::.frm L m::c) R s) (hr:r∉mods) (j0:J 0 [] c R)
  (step:∀ i t ys c R,i<n→J i ys c R→Turn prog w A hE s₀ mods R₀ env kinds cl scope target elt ifs (.frm L m) (J (i+1)) (.int i t) ys c R)
  (fin:∀ D ys c R s,J n ys c R→St w hE s₀ mods R₀ (.frm L ((y,.ref D)::m)::.lst D ys::c) R s→Q .next s) :
  CompAt prog w A env cl elt target iter ifs scope pos (some (assign (.Name y py) env)) (fun _ s'=>Q .next s') E (.ref r) s :=
 range_it S hr hk hz fun _ _ hi S1=>comp_core J V hkind hok hz (It.range hh _ n) S1 hi j0 (fun _ _ _ _ _ _ _ _ _=>trivial) (fun i v ys c R hi hv j=>by obtain ⟨t,rfl⟩:=hv;exact step i t ys c R hi j) (fun D C ys m' c R s hC j S'=>post_as V hy hC S' fun s' S''=>fin D ys c R s' j S'')
end
end
section
variable {prog:Program} {w:World} {A:Around} {E:Value→Shared→Prop} {hE:Heap} {s₀ s:Shared} {mods:List Addr} {R₀ c c' R:List Ch} {K:Frag} {gs bs:Loc} {env:Env} {L:Addr} {kinds:Kinds} {cells:List (Str×Addr)} {m:Loc}
theorem while_it {test:Expr} {body:List Stmt} {pos:Pos} {Q:Flow→Shared→Prop}
  (J:Nat→Loc→List Ch→List Ch→Prop) (B:Loc→List Ch→List Ch→Prop) (n:Nat)
  (S:St w hE s₀ mods R₀ (.frm L m::c) R s) (j0:J n m c R)
  (step:∀ n m c R s E' G G0,Imp (fun f s₃=>match f with
     | .next | .cont=>∃ n' m c R,n'<n∧J n' m c R∧St w hE s₀ mods R₀ (.frm L m::c) R s₃
     | .brk=>∃ m c R,B m c R∧St w hE s₀ mods R₀ (.frm L m::c) R s₃
     | .ret v=>Q (.ret v) s₃) G→Imp1 (fun s₂=>∃ m c R,B m c R∧St w hE s₀ mods R₀ (.frm L m::c) R s₂) G0→J n m c R→St w hE s₀ mods R₀ (.frm L m::c) R s →
   wpAny (model prog w) A (isTrue test env (eval test env)) (fun b s₂=>if b then wpAny (model prog w) A (execs body env) G E' s₂ else G0 s₂) E' s)
  (fin:∀ m c R s,B m c R→St w hE s₀ mods R₀ (.frm L m::c) R s→Q .next s) :
  wpAny (model prog w) A (exec (.While test body [] pos) env) Q E s:=by
 refine wpAny_While (codeAny_whileLoop (fun n s=>∃ m c R,J n m c R∧St w hE s₀ mods R₀ (.frm L m::c) R s) ?_ n ⟨m,c,R,j0,S⟩)
 rintro n s ⟨m,c,R,j,S⟩
 refine wpAny_mono (step n m c R s _ _ _ .rfl (fun _ h=>h) j S) (fun b s₂ h₂=>?_) fun _ _ e=>e
 cases b with
 | true =>
  simp -iota only [if_true] at h₂ ⊢
  refine wpAny_mono h₂ (fun f s₃ h₃=>?_) fun _ _ e=>e
  cases f with
  | next=>obtain ⟨n',m,c,R,hn,j,S⟩:=h₃;exact ⟨n',hn,m,c,R,j,S⟩
  | cont=>obtain ⟨n',m,c,R,hn,j,S⟩:=h₃;exact ⟨n',hn,m,c,R,j,S⟩
  | brk=>obtain ⟨m,c,R,b,S⟩:=h₃;exact fin m c R _ b S
  | ret v=>exact h₃
 | false =>
  simp -iota only [Bool.false_eq_true,if_false] at h₂ ⊢
  obtain ⟨m,c,R,b,S⟩:=h₂
  exact wpAny_execs_nil (fin m c R _ b S)
theorem a_get {expr:Bool} {x:Str} {v:Value} {y dx C:Addr} {names:List Str} {fs:Loc} {Q:Value→Shared→Prop} (G:Gl K hE gs bs) (S:St w hE s₀ mods R₀ c R s) (I:Has w s₀ mods c R (.inst y dx C fs)) (ci:CI K C names) (hn:names.contains x=true) (hv:look fs x=some v)
  (hh:handedIn v=true) (h:∀ s',St w hE s₀ mods R₀ c R s'→Q v s'):wpAny (model prog w) A (getAttr (.ref y) x expr) Q E s:=at_get G S (I.at_ S) ci hn hv hh h
theorem m_fn {x:Str} {y dx C f:Addr} {names:List Str} {fs:Loc} {pl:Sem Bool} {Q:Value×List Value→Shared→Prop} (G:Gl K hE gs bs) (S:St w hE s₀ mods R₀ c R s) (I:Has w s₀ mods c R (.inst y dx C fs)) (ci:CI K C names) (mt:Meth K C x f) (hv:look fs x=none)
  (h:Q (.ref f,[.ref y]) s):wpAny (model prog w) A (getMethod (.ref y) x pl) Q E s:=by
 obtain ⟨es,n,he,ia,_⟩:=instAt (I.at_ S)
 have pg:=plainGet_of ci.ga
 exact method_fn (G.X.keeps S.base) ia pg.1 pg.2 mt.find mt.fn (by show (lookIn x (dictOf es n)).map (·.isSome)=_;rw [lookIn_dict,he.at_,hv];rfl) h
theorem m_app {a:Addr} {vs:List Value} {pl:Sem Bool} {Q:Value×List Value→Shared→Prop} (S:St w hE s₀ mods R₀ c R s) (I:Has w s₀ mods c R (.lst a vs)) (h:Q (.builtin "list.append",[.ref a]) s):wpAny (model prog w) A (getMethod (.ref a) "append" pl) Q E s:=by
 obtain ⟨n,e⟩:=I.at_ S
 exact getMethod_list_append e rfl rfl h
theorem m_pop {a:Addr} {vs:List Value} {pl:Sem Bool} {Q:Value×List Value→Shared→Prop} (S:St w hE s₀ mods R₀ c R s) (I:Has w s₀ mods c R (.lst a vs)) (h:Q (.builtin "list.pop",[.ref a]) s):wpAny (model prog w) A (getMethod (.ref a) "pop" pl) Q E s:=by
 obtain ⟨n,e⟩:=I.at_ S
 exact getMethod_list_of PySem.F.slot_list_pop PySem.F.type_list_pop ⟨_,e,rfl,n,rfl⟩ ⟨_,e,rfl⟩ h
theorem l_pop {a:Addr} {p:List Value} {y:Value} {Q:Value→Shared→Prop} (S:St w hE s₀ mods R₀ c R s) (U:Upd1 (.lst a (p++[y])) (.lst a p) c c') (hz:p.length≤1000) (h:∀ s',St w hE s₀ mods R₀ c' R s'→Q y s') :
  wpAny (model prog w) A (call (.builtin "list.pop") [.ref a]) Q E s:=by
 obtain ⟨n,e⟩:=S.own _ U.mem
 have hz':(p++[y]).toArray.size≤sizeLine:=by rw [List.size_toArray,sizeLine_eq,List.length_append];simp;lia
 have hk:(p++[y]).toArray.size - 1=p.length:=by rw [List.size_toArray,List.length_append];rfl
 have hy:(p++[y]).toArray[(p++[y]).toArray.size - 1]?=some y:=by rw [hk];simp
 refine call_meets PySem.F.slot_list_pop ⟨_,e,rfl⟩ PySem.F.entry_list_pop (PySem.F.args_list_pop_1 _) (PySem.MeetsSeq.list_pop_last a _ n y hy hz') ⟨e,h _ ?_⟩
 refine S.upd U rfl (fun b o hb q=>((Heap.SameBut.update ..).2 b fun z=>hb (by rw [z];simp [Ch.fp])).trans q) ⟨n+1,?_⟩ rfl rfl rfl
 have q:=PySem.IsL.update e (fun xs=>xs.eraseIdxIfInBounds ((p++[y]).toArray.size - 1))
 have q2:(p++[y]).toArray.eraseIdxIfInBounds ((p++[y]).toArray.size - 1)=p.toArray:=by rw [hk,kl_erase,List.append_nil]
 rw [q2,if_neg (by simp)] at q
 exact q
theorem i_isi {y dx C D:Addr} {fs:Loc} {Q:Value→Shared→Prop} (G:Gl K hE gs bs) (S:St w hE s₀ mods R₀ c R s) (I:Has w s₀ mods c R (.inst y dx C fs)) (k:IsC K C) (hD:exCls.contains D=true) (h:∀ s',St w hE s₀ mods R₀ c R s'→Q (.bool (decide (C=D))) s') :
  wpAny (model prog w) A (call (.builtin "isinstance") [.ref y,.ref D]) Q E s:=by
 obtain ⟨es,n,he,ia,_⟩:=instAt (I.at_ S)
 exact kia_one (kitx_own k.hg k.hdct k.ha k.hn k.htk k.hm) (G.X.keeps S.base) ia (k.one D (by simpa using hD)) (by intro q;cases q) fun tk=>h _ (S.tok tk)
noncomputable def anyD (C:Addr) (l:List Addr):Bool:=l.any fun D=>decide (C=D)
theorem kit_any {C:Addr} (k:IsC K C) (Ds:List Addr) (h:(Ds.all fun D=>exCls.contains D)=true):kitAny K (.ref C) (Ds.map Value.ref)=some (anyD C Ds):=by
 induction Ds with
 | nil=>rfl
 | cons D r ih =>
  rw [List.all_cons,Bool.and_eq_true] at h
  show (match kitOne K (.ref C) (.ref D) with | some true=>some true | some false=>kitAny K (.ref C) (r.map Value.ref) | none=>none)=some (decide (C=D)||anyD C r)
  rw [k.one D (by simpa using h.1)]
  cases decide (C=D) with
  | true=>rfl
  | false=>exact ih h.2
theorem i_isis {y dx C t:Addr} {Ds:List Addr} {fs:Loc} {vs:List Value} {Q:Value→Shared→Prop} (G:Gl K hE gs bs) (S:St w hE s₀ mods R₀ c R s) (I:Has w s₀ mods c R (.inst y dx C fs)) (T:Has w s₀ mods c R (.tup t vs)) (k:IsC K C) (hvs:vs=Ds.map Value.ref)
  (hD:(Ds.all fun D=>exCls.contains D)=true) (h:∀ s',St w hE s₀ mods R₀ c R s'→Q (.bool (anyD C Ds)) s') :
  wpAny (model prog w) A (call (.builtin "isinstance") [.ref y,.ref t]) Q E s:=by
 obtain ⟨es,n,he,ia,_⟩:=instAt (I.at_ S)
 obtain ⟨n',ht⟩:=T.at_ S
 subst hvs
 exact kia_tup (dd:=none) (sl:=#[]) (n:=n') (kitx_own k.hg k.hdct k.ha k.hn k.htk k.hm) (G.X.keeps S.base) ia ht (kit_any k Ds hD) (by intro q;cases q) fun tk=>h _ (S.tok tk)
theorem lst_dsp {vs:List Value} {Q:Value→Shared→Prop} (S:St w hE s₀ mods R₀ c R s) (hz:vs.length≤1000) (h:∀ s' a,St w hE s₀ mods R₀ (.lst a vs::c) R s'→Q (.ref a) s') :
  vs.length≤sizeLine∧Q (.ref s.heap.objs.size) { s with heap:=s.heap.push { cls:=.type "list",data:=.seq vs.toArray } } :=
 ⟨by rw [sizeLine_eq];lia,h _ _ (S.alloc (fun b o e=>Heap.get?_push_of_some _ e) ⟨0,Heap.get?_push_size _ rfl⟩ (fun a ha=>by simp only [Ch.fp,List.mem_singleton] at ha;subst ha;exact none_at) (by simp [Ch.fp]) rfl rfl rfl)⟩
theorem tup_dsp {vs:List Value} {Q:Value→Shared→Prop} (S:St w hE s₀ mods R₀ c R s) (hz:vs.length≤1000) (h:∀ s' a,St w hE s₀ mods R₀ (.tup a vs::c) R s'→Q (.ref a) s') :
  vs.length≤sizeLine∧Q (.ref s.heap.objs.size) { s with heap:=s.heap.push { cls:=.type "tuple",data:=.seq vs.toArray } } :=
 ⟨by rw [sizeLine_eq];lia,h _ _ (S.alloc (fun b o e=>Heap.get?_push_of_some _ e) ⟨0,Heap.get?_push_size _ rfl⟩ (fun a ha=>by simp only [Ch.fp,List.mem_singleton] at ha;subst ha;exact none_at) (by simp [Ch.fp]) rfl rfl rfl)⟩
theorem as_tup {elts:List Expr} {x1} {pos:Pos} {t:Addr} {vs:List Value} {Q:Unit→Shared→Prop} (hh:A.handled=none) (S:St w hE s₀ mods R₀ c R s) (T:Has w s₀ mods c R (.tup t vs))
  (hn:(assignEach elts env).length=vs.length) (hstar:(assignEach elts env).findIdx? (·.1)=none)
  (h:∀ s',St w hE s₀ mods R₀ c R s'→wpAny (model prog w) A (assignInOrder ((assignEach elts env).map (·.2)) vs) Q E s') :
  wpAny (model prog w) A (assign (.Tuple elts x1 pos) env (.ref t)) Q E s :=
 assign_Tuple_tuple (items:=vs.toArray) hh (tup_ist (T.at_ S)) (by simpa using hn) hstar fun h' e=>h _ (S.more (fun b o q=>e b o (Nat.ne_of_lt (Heap.lt_size q)) q) rfl rfl rfl)
theorem un_tup {t:Addr} {vs:List Value} {n:Nat} {Q:List Value→Shared→Prop} (hh:A.handled=none) (S:St w hE s₀ mods R₀ c R s) (T:Has w s₀ mods c R (.tup t vs)) (hn:n=vs.length)
  (h:∀ s',St w hE s₀ mods R₀ c R s'→Q vs s'):wpAny (model prog w) A (unpackItems (.ref t) n none) Q E s:=by
 subst hn
 have:=unpackItems_tuple (prog:=prog) (w:=w) (A:=A) (E:=E) (Q:=Q) (items:=vs.toArray) hh (tup_ist (T.at_ S)) fun h' e=>h _ (S.more (fun b o q=>e b o (Nat.ne_of_lt (Heap.lt_size q)) q) rfl rfl rfl)
 simpa using this
theorem l_add {a b:Addr} {vs ws:List Value} {Q:Value→Shared→Prop} (S:St w hE s₀ mods R₀ c R s) (Ha:Has w s₀ mods c R (.lst a vs)) (Hb:Has w s₀ mods c R (.lst b ws)) (hz:vs.length+ws.length≤1000)
  (h:∀ s' d,St w hE s₀ mods R₀ (.lst d (vs++ws)::c) R s'→Q (.ref d) s'):wpAny (model prog w) A (binaryOp .Add (.ref a) (.ref b)) Q E s:=by
 obtain ⟨n,ho⟩:=Ha.at_ S
 obtain ⟨n2,ho2⟩:=Hb.at_ S
 have e:vs.toArray++ws.toArray=(vs++ws).toArray:=by simp
 refine concat_meets ⟨_,ho,rfl⟩ ⟨_,ho2,rfl⟩ noFill_list_add seq_list_add PySem.F.slot_list_add PySem.F.entry_list_add (PySem.F.args_list_add_2 _ _) (list_addW a b vs.toArray ws.toArray n n2 none none #[] #[] (by rw [sizeLine_eq];simp;lia)) ⟨ho,ho2,?_⟩
 rw [e]
 exact h _ _ (S.alloc (fun b o e=>Heap.get?_push_of_some _ e) ⟨0,Heap.get?_push_size _ rfl⟩ (fun a ha=>by simp only [Ch.fp,List.mem_singleton] at ha;subst ha;exact none_at) (by simp [Ch.fp]) rfl rfl rfl)
theorem l_copy {a:Addr} {vs:List Value} {Q:Value→Shared→Prop} (S:St w hE s₀ mods R₀ c R s) (Ha:Has w s₀ mods c R (.lst a vs)) (hz:vs.length≤1000)
  (h:∀ s' d,St w hE s₀ mods R₀ (.lst d vs::c) R s'→Q (.ref d) s'):wpAny (model prog w) A (call (.type "list") [.ref a]) Q E s:=by
 obtain ⟨n,ho⟩:=Ha.at_ S
 refine call_list_seq a (.inl rfl) ho rfl rfl (fun h' c' hk hd=>h _ _ (S.alloc hk ⟨c',hd⟩ (fun a ha=>by simp only [Ch.fp,List.mem_singleton] at ha;subst ha;exact none_at) (by simp [Ch.fp]) rfl rfl rfl)) (by rw [List.size_toArray,sizeLine_eq];lia)
noncomputable def envK (kinds:Kinds):Env:={ scope:=⟨.function,kinds,false,false,[]⟩,locals:=0,globals:=0,cells:=[] }
theorem sw_env (V:EnvOk env L kinds cells) (ts:List Expr) (value:Expr):swappedStores ts value env=swappedStores ts value (envK kinds):=by
 have k1:=V.kind
 have k2:=V.names
 clear V
 obtain ⟨⟨k,n,a,b,c⟩,l,g,ce⟩:=env
 cases k1;cases k2;rfl
theorem Assign_sw {elts k tpos value pos} {names:List Str} {Q:Flow→Shared→Prop} (V:EnvOk env L kinds cells) (hw:swappedStores [.Tuple elts k tpos] value (envK kinds)=pure (some names))
  (hs:swapsWithSole [.Tuple elts k tpos] value pos.line env=pure false)
  (h:wpAny (model prog w) A (eval value env) (fun v s₁=>wpAny (model prog w) A (unpackItems v names.length none) (fun items s₂=>wpAny (model prog w) A (assignInOrder (names.reverse.map fun n=>bindName env n) items.reverse) (fun _=>Q .next) E s₂) E s₁) E s) :
  wpAny (model prog w) A (exec (.Assign [.Tuple elts k tpos] value pos) env) Q E s:=Assign_Tuple_swapped h hs ((sw_env V _ _).trans hw)
theorem Assign_tp {elts k tpos value pos} {Q:Flow→Shared→Prop} (V:EnvOk env L kinds cells) (hw:swappedStores [.Tuple elts k tpos] value (envK kinds)=pure none)
  (hs:swapsWithSole [.Tuple elts k tpos] value pos.line env=pure false)
  (h:wpAny (model prog w) A (eval value env) (fun v s₁=>wpAny (model prog w) A (assign (.Tuple elts k tpos) env v) (fun _=>Q .next) E s₁) E s) :
  wpAny (model prog w) A (exec (.Assign [.Tuple elts k tpos] value pos) env) Q E s:=Assign_Tuple h hs ((sw_env V _ _).trans hw)
theorem t_getH {l:Addr} {vs:List Value} {k:Int} {u:Tok} {v:Value} {value slice:Expr} {Q:Value→Shared→Prop} (S:St w hE s₀ mods R₀ c R s) (I:Has w s₀ mods c R (.tup l vs)) (h0:0≤k) (hk:k<2 ^ 63) (hx:vs[k.toNat]?=some v) (h:Q v s)
  (hs:subscripted slice false (.ref l) (.int k u)=operate [.ref l,.int k u] (getItem (.ref l) (.int k u))) :
  wpAny (model prog w) A (subscriptTail value slice (.ref l) (.int k u)) Q E s:=t_get (tup_ist (I.at_ S)) h0 hk hx h hs
theorem l_getH {l:Addr} {vs:List Value} {k:Int} {u:Tok} {v:Value} {value slice:Expr} {Q:Value→Shared→Prop} (S:St w hE s₀ mods R₀ c R s) (I:Has w s₀ mods c R (.lst l vs)) (h0:0≤k) (hk:k<2 ^ 63) (hx:vs[k.toNat]?=some v) (h:Q v s)
  (hs:subscripted slice false (.ref l) (.int k u)=operate [.ref l,.int k u] (getItem (.ref l) (.int k u))) :
  wpAny (model prog w) A (subscriptTail value slice (.ref l) (.int k u)) Q E s:=l_get (lst_isl (I.at_ S)) h0 hk hx h hs
theorem l_lenH {l:Addr} {vs:List Value} {Q:Value→Shared→Prop} (S:St w hE s₀ mods R₀ c R s) (I:Has w s₀ mods c R (.lst l vs)) (hz:vs.length≤1000) (h:∀ s' t,St w hE s₀ mods R₀ c R s'→Q (.int vs.length t) s'):wpAny (model prog w) A (call (.builtin "len") [.ref l]) Q E s:=l_len (lst_isl (I.at_ S)) (by lia) S h
end
noncomputable def LstMk (Q:Value→Shared→Prop) (vs:List Value) (s:Shared):Prop:=vs.length≤sizeLine∧Q (.ref s.heap.objs.size) { s with heap:=s.heap.push { cls:=.type "list",data:=.seq vs.toArray } }
noncomputable def TupMk (Q:Value→Shared→Prop) (vs:List Value) (s:Shared):Prop:=vs.length≤sizeLine∧Q (.ref s.heap.objs.size) { s with heap:=s.heap.push { cls:=.type "tuple",data:=.seq vs.toArray } }
section
variable {prog:Program} {w:World} {A:Around} {E:Value→Shared→Prop} {hE:Heap} {s₀ s:Shared} {mods:List Addr} {R₀ c R:List Ch} {env:Env} {vs:List Value} {Q:Value→Shared→Prop}
theorem ev_list {elts:List Expr} {pos:Pos} (h:wpAny (model prog w) A (spliced (backTo pos (starEach elts env))) (fun vs s₁=>LstMk Q vs s₁) E s):wpAny (model prog w) A (eval (.List elts pos) env) Q E s:=wpAny_List_spliced h
theorem ev_tup {elts:List Expr} {x1} {pos:Pos} (h:wpAny (model prog w) A (spliced (backTo pos (starEach elts env))) (fun vs s₁=>TupMk Q vs s₁) E s):wpAny (model prog w) A (eval (.Tuple elts x1 pos) env) Q E s:=wpAny_Tuple_spliced h
theorem lst_mk (S:St w hE s₀ mods R₀ c R s) (hz:vs.length≤1000) (h:∀ s' a,St w hE s₀ mods R₀ (.lst a vs::c) R s'→Q (.ref a) s'):LstMk Q vs s:=lst_dsp S hz h
theorem tup_mk (S:St w hE s₀ mods R₀ c R s) (hz:vs.length≤1000) (h:∀ s' a,St w hE s₀ mods R₀ (.tup a vs::c) R s'→Q (.ref a) s'):TupMk Q vs s:=tup_dsp S hz h
end
end Nt
open PySem.MeetsSeq PySem.MeetsSeq2 PySem.MeetsSeq3 PySem.SeqRoads2 PySem.SeqAt
open AutoSeq1 (wpAny_loadPart')
namespace Nt
noncomputable def fstNo (e r:Nat→Bool) (d:Bool) (l:List Nat):Bool:=l.foldr (fun j q=>if e j then q else r j) d
theorem zip_z {a b:Array Value} (hsz:a.size=b.size):(a.toList.zip b.toList).length=a.size:=by simp [hsz]
theorem zip_hd {a b:Array Value} {y x:Value} {rest:List (Value×Value)} {i:Nat} (hsz:a.size=b.size) (hz:(y,x)::rest=(a.toList.zip b.toList).drop i) :
  ∃ (h1:i<a.size) (h2:i<b.size),y=a[i]∧x=b[i]∧rest=(a.toList.zip b.toList).drop (i+1)∧(List.range a.size).drop i=i::(List.range a.size).drop (i+1):=by
 have hlt:i<(a.toList.zip b.toList).length:=by
  rcases Nat.lt_or_ge i (a.toList.zip b.toList).length with h' | h'
  ·exact h'
  ·rw [List.drop_of_length_le h'] at hz;cases hz
 have h1:i<a.size:=zip_z hsz▸hlt
 have h2:i<b.size:=hsz▸h1
 rw [List.drop_eq_getElem_cons hlt] at hz
 injection hz with hyx hrest
 exact ⟨h1,h2,by have:=congrArg Prod.fst hyx;simpa using this,by have:=congrArg Prod.snd hyx;simpa using this,hrest,by simp [List.drop_eq_getElem_cons,h1]⟩
theorem zip_end {a b:Array Value} {i:Nat} (hsz:a.size=b.size) (hz:[]=(a.toList.zip b.toList).drop i):a.size≤i:=by
 rcases Nat.lt_or_ge i (a.toList.zip b.toList).length with h' | h'
 ·rw [List.drop_eq_getElem_cons h'] at hz;cases hz
 ·exact zip_z hsz▸h'
theorem tuple_ltAt (l b:Addr) (items items2:Array Value) (n n2:Nat) (hsz:items.size=items2.size) (e r:Nat→Bool) :
  Meets (Builtin.«tuple.__lt__» ⟨[.ref l,.ref b],[]⟩)
   (fun A R s=>s.heap.get? l=some { cls:=.type "tuple",dict:=none,data:=.seq items n,slots:=#[] }∧s.heap.get? b=some { cls:=.type "tuple",dict:=none,data:=.seq items2 n2,slots:=#[] } ∧
    (∀ j (h1:j<items.size) (h2:j<items2.size),EqAt A.in1 s items[j] items2[j] (e j)) ∧
    (∀ j (h1:j<items.size) (h2:j<items2.size),e j=false→∀ (prog:Program) (w:World) (E:Value→Shared→Prop) (Q:Value→Shared→Prop),Q (.bool (r j)) s→wpAny (model prog w) A.in1 (richCompare .Lt items[j] items2[j]) Q E s) ∧
    R (.ok (.ret (.bool (fstNo e r false (List.range items.size))))) s) :=
 .of_wp fun prog w A R s h=>by
  obtain ⟨hp,g,d,tk,os⟩:=s;obtain ⟨hl,hb,he,hc,h⟩:=h
  have f2:=AutoSeq1.sub_tuple_tuple
  wp_walk using wpAny_loadPart' hl,wpAny_loadPart' hb,wpAny_forIn_list _ (fun rest b s'=>b.1=none∧s'=⟨hp,g,d,tk,os⟩∧∃ i,rest=(items.toList.zip items2.toList).drop i ∧
   R (.ok (.ret (.bool (fstNo e r false ((List.range items.size).drop i))))) ⟨hp,g,d,tk,os⟩) _
  case turn =>
   rintro ⟨y,x⟩ rest b s' ⟨hb',rfl,i,hz,hR⟩
   obtain ⟨h1,h2,rfl,rfl,hrest,hd⟩:=zip_hd hsz hz
   rw [hd] at hR
   replace hR:R (.ok (.ret (.bool (if e i then fstNo e r false ((List.range items.size).drop (i+1)) else r i)))) _:=hR
   refine wpAny_bind (he i h1 h2 prog w _ _ ?_)
   cases hy:e i with
   | true =>
    rw [hy] at hR
    wp_walk
    exact ⟨rfl,rfl,i+1,hrest,by simpa using hR⟩
   | false =>
    rw [hy] at hR
    refine wpAny_bind (wpAny_rule (wpAny_bind (hc i h1 h2 hy prog w _ _ ?_)))
    exact wpAny_bind (wpAny_pure (wpAny_pure (wpAny_pure ⟨_,rfl,hR⟩)))
  case fin =>
   rintro ⟨b1,b2⟩ s' ⟨hb',rfl,i,hz,hR⟩
   simp only at hb'
   subst hb'
   have hge:=zip_end hsz hz
   rw [List.drop_of_length_le (by simpa using hge)] at hR
   wp_walk
   exact ⟨_,rfl,by simpa [Builtin.Tuple.tupleCompareSizes,fstNo,hsz] using hR⟩
  case h =>
   exact ⟨rfl,rfl,0,rfl,by simpa using h⟩
theorem tuple_gtAt (l b:Addr) (items items2:Array Value) (n n2:Nat) (hsz:items.size=items2.size) (e r:Nat→Bool) :
  Meets (Builtin.«tuple.__gt__» ⟨[.ref l,.ref b],[]⟩)
   (fun A R s=>s.heap.get? l=some { cls:=.type "tuple",dict:=none,data:=.seq items n,slots:=#[] }∧s.heap.get? b=some { cls:=.type "tuple",dict:=none,data:=.seq items2 n2,slots:=#[] } ∧
    (∀ j (h1:j<items.size) (h2:j<items2.size),EqAt A.in1 s items[j] items2[j] (e j)) ∧
    (∀ j (h1:j<items.size) (h2:j<items2.size),e j=false→∀ (prog:Program) (w:World) (E:Value→Shared→Prop) (Q:Value→Shared→Prop),Q (.bool (r j)) s→wpAny (model prog w) A.in1 (richCompare .Gt items[j] items2[j]) Q E s) ∧
    R (.ok (.ret (.bool (fstNo e r false (List.range items.size))))) s) :=
 .of_wp fun prog w A R s h=>by
  obtain ⟨hp,g,d,tk,os⟩:=s;obtain ⟨hl,hb,he,hc,h⟩:=h
  have f2:=AutoSeq1.sub_tuple_tuple
  wp_walk using wpAny_loadPart' hl,wpAny_loadPart' hb,wpAny_forIn_list _ (fun rest b s'=>b.1=none∧s'=⟨hp,g,d,tk,os⟩∧∃ i,rest=(items.toList.zip items2.toList).drop i ∧
   R (.ok (.ret (.bool (fstNo e r false ((List.range items.size).drop i))))) ⟨hp,g,d,tk,os⟩) _
  case turn =>
   rintro ⟨y,x⟩ rest b s' ⟨hb',rfl,i,hz,hR⟩
   obtain ⟨h1,h2,rfl,rfl,hrest,hd⟩:=zip_hd hsz hz
   rw [hd] at hR
   replace hR:R (.ok (.ret (.bool (if e i then fstNo e r false ((List.range items.size).drop (i+1)) else r i)))) _:=hR
   refine wpAny_bind (he i h1 h2 prog w _ _ ?_)
   cases hy:e i with
   | true =>
    rw [hy] at hR
    wp_walk
    exact ⟨rfl,rfl,i+1,hrest,by simpa using hR⟩
   | false =>
    rw [hy] at hR
    refine wpAny_bind (wpAny_rule (wpAny_bind (hc i h1 h2 hy prog w _ _ ?_)))
    exact wpAny_bind (wpAny_pure (wpAny_pure (wpAny_pure ⟨_,rfl,hR⟩)))
  case fin =>
   rintro ⟨b1,b2⟩ s' ⟨hb',rfl,i,hz,hR⟩
   simp only at hb'
   subst hb'
   have hge:=zip_end hsz hz
   rw [List.drop_of_length_le (by simpa using hge)] at hR
   wp_walk
   exact ⟨_,rfl,by simpa [Builtin.Tuple.tupleCompareSizes,fstNo,hsz] using hR⟩
  case h =>
   exact ⟨rfl,rfl,0,rfl,by simpa using h⟩
section
variable {prog:Program} {w:World} {A:Around} {E:Value→Shared→Prop} {s:Shared}
theorem lt_tups {l b:Addr} {vs ws:List Value} {e r:Nat→Bool} {Q:Value→Shared→Prop} (hl:(Ch.tup l vs).At w s.heap) (hb:(Ch.tup b ws).At w s.heap) (hsz:vs.length=ws.length) (hu:A.units<cLine)
  (he:∀ j (h1:j<vs.length) (h2:j<ws.length),EqAt A.in1 s vs[j] ws[j] (e j))
  (hc:∀ j (h1:j<vs.length) (h2:j<ws.length),e j=false→∀ (prog:Program) (w:World) (E:Value→Shared→Prop) (Q:Value→Shared→Prop),Q (.bool (r j)) s→wpAny (model prog w) A.in1 (richCompare .Lt vs[j] ws[j]) Q E s)
  (h:Q (.bool (fstNo e r false (List.range vs.length))) s):wpAny (model prog w) A (compareOp .Lt (.ref l) (.ref b)) Q E s:=by
 obtain ⟨n,ho⟩:=hl
 obtain ⟨n2,ho2⟩:=hb
 refine richCompare_meets_room (op:=.Lt) ⟨_,ho,rfl⟩ ⟨_,ho2,rfl⟩ F.slot_tuple_lt F.entry_tuple_lt (F.args_tuple_lt_2 _ _) (tuple_ltAt l b vs.toArray ws.toArray n n2 (by simpa using hsz) e r) ⟨ho,ho2,?_,?_,?_⟩ hu
 ·intro j h1 h2;exact he j (by simpa using h1) (by simpa using h2)
 ·intro j h1 h2;exact hc j (by simpa using h1) (by simpa using h2)
 ·rw [List.size_toArray];exact ⟨(fun x=>nomatch x),h⟩
theorem gt_tups {l b:Addr} {vs ws:List Value} {e r:Nat→Bool} {Q:Value→Shared→Prop} (hl:(Ch.tup l vs).At w s.heap) (hb:(Ch.tup b ws).At w s.heap) (hsz:vs.length=ws.length) (hu:A.units<cLine)
  (he:∀ j (h1:j<vs.length) (h2:j<ws.length),EqAt A.in1 s vs[j] ws[j] (e j))
  (hc:∀ j (h1:j<vs.length) (h2:j<ws.length),e j=false→∀ (prog:Program) (w:World) (E:Value→Shared→Prop) (Q:Value→Shared→Prop),Q (.bool (r j)) s→wpAny (model prog w) A.in1 (richCompare .Gt vs[j] ws[j]) Q E s)
  (h:Q (.bool (fstNo e r false (List.range vs.length))) s):wpAny (model prog w) A (compareOp .Gt (.ref l) (.ref b)) Q E s:=by
 obtain ⟨n,ho⟩:=hl
 obtain ⟨n2,ho2⟩:=hb
 refine richCompare_meets_room (op:=.Gt) ⟨_,ho,rfl⟩ ⟨_,ho2,rfl⟩ F.slot_tuple_gt F.entry_tuple_gt (F.args_tuple_gt_2 _ _) (tuple_gtAt l b vs.toArray ws.toArray n n2 (by simpa using hsz) e r) ⟨ho,ho2,?_,?_,?_⟩ hu
 ·intro j h1 h2;exact he j (by simpa using h1) (by simpa using h2)
 ·intro j h1 h2;exact hc j (by simpa using h1) (by simpa using h2)
 ·rw [List.size_toArray];exact ⟨(fun x=>nomatch x),h⟩
theorem eq_tups {l b:Addr} {vs ws:List Value} {e:Nat→Bool} {Q:Value→Shared→Prop} (hl:(Ch.tup l vs).At w s.heap) (hb:(Ch.tup b ws).At w s.heap) (hsz:vs.length=ws.length) (hu:A.units<cLine)
  (he:∀ j (h1:j<vs.length) (h2:j<ws.length),EqAt A.in1 s vs[j] ws[j] (e j)) (h:Q (.bool ((List.range vs.length).all e)) s):wpAny (model prog w) A (compareOp .Eq (.ref l) (.ref b)) Q E s:=by
 refine eq_tupleAt (e:=e) (tup_ist hl) (tup_ist hb) hu (fun j h1 h2=>he j (by simpa using h1) (by simpa using h2)) ?_
 have e1:min vs.toArray.size ws.toArray.size=vs.length:=by simp -iota [hsz]
 have e2:(vs.toArray.size==ws.toArray.size)=true:=by simp -iota [hsz]
 rw [e1,e2,Bool.and_true]
 exact h
inductive Cmp1:Value→Value→Bool→Bool→Bool→Prop
 | int (a b:Int) (t u:Tok):Cmp1 (.int a t) (.int b u) (a==b) (decide (a<b)) (decide (b<a))
 | str (x y:Str) (t u:Tok):Cmp1 (.str x t) (.str y u) (x==y) (decide (x.cps.toList<y.cps.toList)) (decide (y.cps.toList<x.cps.toList))
theorem Cmp1.eqAt {v u:Value} {e l g:Bool} (h:Cmp1 v u e l g) (A:Around) (s:Shared):EqAt A s v u e:=by
 cases h with
 | int a b t u=>exact (EqGives.int a b t u).at _ _
 | str x y t u=>exact (eqGives_str x y t u).at _ _
theorem Cmp1.lt {v u:Value} {e l g:Bool} (h:Cmp1 v u e l g) {A:Around} {s:Shared} {prog:Program} {w:World} {E:Value→Shared→Prop} {Q:Value→Shared→Prop} (hq:Q (.bool l) s):wpAny (model prog w) A (richCompare .Lt v u) Q E s:=by
 cases h with
 | int a b t u=>exact PyProof.Rows.lt_int (A:=A) hq
 | str x y t u=>exact PyProof.Rows.lt_str (A:=A) (by simpa using hq)
theorem Cmp1.gt {v u:Value} {e l g:Bool} (h:Cmp1 v u e l g) {A:Around} {s:Shared} {prog:Program} {w:World} {E:Value→Shared→Prop} {Q:Value→Shared→Prop} (hq:Q (.bool g) s):wpAny (model prog w) A (richCompare .Gt v u) Q E s:=by
 cases h with
 | int a b t u=>exact PyProof.Rows.gt_int (A:=A) hq
 | str x y t u=>exact PySem.P.gt_str (A:=A) (by simpa using hq)
noncomputable def of3 (a b c:Bool):Nat→Bool
 | 0=>a
 | 1=>b
 | _=>c
theorem cmp3 {v0 v1 v2 u0 u1 u2:Value} {e0 e1 e2 l0 l1 l2 g0 g1 g2:Bool} (h0:Cmp1 v0 u0 e0 l0 g0) (h1:Cmp1 v1 u1 e1 l1 g1) (h2:Cmp1 v2 u2 e2 l2 g2) :
  ∀ j (k1:j<[v0,v1,v2].length) (k2:j<[u0,u1,u2].length),Cmp1 [v0,v1,v2][j] [u0,u1,u2][j] (of3 e0 e1 e2 j) (of3 l0 l1 l2 j) (of3 g0 g1 g2 j)
 | 0,_,_=>h0
 | 1,_,_=>h1
 | 2,_,_=>h2
 | n+3,h,_=>absurd h (by simp)
end
section
variable {prog:Program} {w:World} {A:Around} {E:Value→Shared→Prop} {hE:Heap} {s₀ s:Shared} {mods:List Addr} {R₀ c c' R R':List Ch} {K:Frag} {env:Env} {Q:Value→Shared→Prop}
theorem isi_is {i:Int} {u:Tok} (S:St w hE s₀ mods R₀ c R s) (h:∀ s',St w hE s₀ mods R₀ c R s'→Q (.bool false) s'):wpAny (model prog w) A (call (.builtin "isinstance") [.int i u,.type "str"]) Q E s:=IsiPair.int_str (h _ (S.tok _))
theorem isi_ss {x:Str} {u:Tok} (S:St w hE s₀ mods R₀ c R s) (h:∀ s',St w hE s₀ mods R₀ c R s'→Q (.bool true) s'):wpAny (model prog w) A (call (.builtin "isinstance") [.str x u,.type "str"]) Q E s:=IsiPair.str_str (h _ S)
theorem isi_ii {i:Int} {u:Tok} (S:St w hE s₀ mods R₀ c R s) (h:∀ s',St w hE s₀ mods R₀ c R s'→Q (.bool true) s'):wpAny (model prog w) A (call (.builtin "isinstance") [.int i u,.type "int"]) Q E s:=IsiPair.int_int (h _ S)
theorem isi_si {x:Str} {u:Tok} (S:St w hE s₀ mods R₀ c R s) (h:∀ s',St w hE s₀ mods R₀ c R s'→Q (.bool false) s'):wpAny (model prog w) A (call (.builtin "isinstance") [.str x u,.type "int"]) Q E s:=IsiPair.str_int (h _ (S.tok _))
theorem in_strs {a:Addr} {vs:List Value} {ys:List Str} {k:Str} {t:Tok} (S:St w hE s₀ mods R₀ c R s) (I:Has w s₀ mods c R (.lst a vs)) (hi:StrsAre vs ys) (h:Q (.bool (ys.any (·==k))) s):wpAny (model prog w) A (compareOp .In (.str k t) (.ref a)) Q E s :=
 in_list_strs (lst_isl (I.at_ S)) hi h
theorem in_ints {a:Addr} {vs:List Value} {ns:List Int} {k:Int} {t:Tok} (S:St w hE s₀ mods R₀ c R s) (I:Has w s₀ mods c R (.lst a vs)) (hi:IntsAre vs ns) (h:Q (.bool (ns.any (·==k))) s):wpAny (model prog w) A (compareOp .In (.int k t) (.ref a)) Q E s :=
 in_list_ints (lst_isl (I.at_ S)) hi h
theorem notin_ints {a:Addr} {vs:List Value} {ns:List Int} {k:Int} {t:Tok} (S:St w hE s₀ mods R₀ c R s) (I:Has w s₀ mods c R (.lst a vs)) (hi:IntsAre vs ns) (h:Q (.bool (!(ns.any (·==k)))) s):wpAny (model prog w) A (compareOp .NotIn (.int k t) (.ref a)) Q E s :=
 notin_list_ints (lst_isl (I.at_ S)) hi h
end
theorem any_range (bs:List Bool):(List.range bs.length).any (fun i=>bs.getD i false)=bs.any id:=by
 rw [Bool.eq_iff_iff,List.any_eq_true,List.any_eq_true]
 constructor
 ·rintro ⟨i,hi,h⟩
  rw [List.mem_range] at hi
  refine ⟨bs[i],List.getElem_mem hi,?_⟩
  simpa [List.getD,List.getElem?_eq_getElem hi] using h
 ·rintro ⟨b,hb,h⟩
  obtain ⟨i,hi,rfl⟩:=List.mem_iff_getElem.mp hb
  exact ⟨i,List.mem_range.mpr hi,by simpa [List.getD,List.getElem?_eq_getElem hi] using h⟩
theorem all_range (bs:List Bool):(List.range bs.length).all (fun i=>bs.getD i false)=bs.all id:=by
 rw [Bool.eq_iff_iff,List.all_eq_true,List.all_eq_true]
 constructor
 ·intro h b hb
  obtain ⟨i,hi,rfl⟩:=List.mem_iff_getElem.mp hb
  have:=h i (List.mem_range.mpr hi)
  simpa [List.getD,List.getElem?_eq_getElem hi] using this
 ·intro h i hi
  rw [List.mem_range] at hi
  have:=h bs[i] (List.getElem_mem hi)
  simpa [List.getD,List.getElem?_eq_getElem hi] using this
section
variable {prog:Program} {w:World} {A:Around} {E:Value→Shared→Prop} {hE:Heap} {s₀ s:Shared} {mods:List Addr} {R₀ c c' R R':List Ch} {Q:Value→Shared→Prop}
theorem truth_bools (bs:List Bool):TruthOf prog w A (fun i v=>(bs.map Value.bool).toArray[i]?=some v) (fun i=>bs.getD i false):=by
 intro i v s Q E hv hq
 have:∃ b,bs[i]?=some b∧v=.bool b:=by
  simp -iota only [List.getElem?_toArray,List.getElem?_map,Option.map_eq_some_iff] at hv
  obtain ⟨b,h1,h2⟩:=hv
  exact ⟨b,h1,h2.symm⟩
 obtain ⟨b,h1,rfl⟩:=this
 refine wpAny_truthy_bool ?_
 have e:bs.getD i false=b:=by simp -iota [List.getD,h1]
 rw [← e];exact hq
theorem l_any {a:Addr} {bs:List Bool} {vs:List Value} (hh:A.handled=none) (S:St w hE s₀ mods R₀ c R s) (I:Has w s₀ mods c R (.lst a vs)) (hv:vs=bs.map .bool) (h:∀ s',St w hE s₀ mods R₀ c R s'→Q (.bool (bs.any id)) s') :
  wpAny (model prog w) A (call (.builtin "any") [.ref a]) Q E s:=by
 subst hv
 have hl:=lst_isl (I.at_ S)
 have hlt:a<s.heap.objs.size:=by obtain ⟨o,ho,_⟩:=hl;exact Heap.lt_size ho
 refine call_any_walk (wpAny_pyIter_list hl ⟨s.heap.objs.size,_,_,_,_,_,_,rfl,Walks.list (prog:=prog) (w:=w) (A:=A.in1) hh s.heap.objs.size a (Nat.ne_of_lt hlt) (bs.map Value.bool).toArray,⟨⟨_,Heap.get?_push_size _ rfl,rfl,rfl⟩,hl.push _⟩,truth_bools bs,fun h' tk hk=>?_⟩)
 have e:(bs.map Value.bool).toArray.size=bs.length:=by simp
 rw [e,any_range]
 refine h _ (S.more (fun b o q=>hk b o (fun hm=>?_) (Heap.get?_push_of_some _ q)) rfl rfl rfl)
 simp -iota only [List.mem_singleton] at hm
 exact absurd (Heap.lt_size q) (by rw [hm];exact Nat.lt_irrefl _)
theorem l_all {a:Addr} {bs:List Bool} {vs:List Value} (hh:A.handled=none) (S:St w hE s₀ mods R₀ c R s) (I:Has w s₀ mods c R (.lst a vs)) (hv:vs=bs.map .bool) (h:∀ s',St w hE s₀ mods R₀ c R s'→Q (.bool (bs.all id)) s') :
  wpAny (model prog w) A (call (.builtin "all") [.ref a]) Q E s:=by
 subst hv
 have hl:=lst_isl (I.at_ S)
 have hlt:a<s.heap.objs.size:=by obtain ⟨o,ho,_⟩:=hl;exact Heap.lt_size ho
 refine call_all_walk (wpAny_pyIter_list hl ⟨s.heap.objs.size,_,_,_,_,_,_,rfl,Walks.list (prog:=prog) (w:=w) (A:=A.in1) hh s.heap.objs.size a (Nat.ne_of_lt hlt) (bs.map Value.bool).toArray,⟨⟨_,Heap.get?_push_size _ rfl,rfl,rfl⟩,hl.push _⟩,truth_bools bs,fun h' tk hk=>?_⟩)
 have e:(bs.map Value.bool).toArray.size=bs.length:=by simp
 rw [e,all_range]
 refine h _ (S.more (fun b o q=>hk b o (fun hm=>?_) (Heap.get?_push_of_some _ q)) rfl rfl rfl)
 simp -iota only [List.mem_singleton] at hm
 exact absurd (Heap.lt_size q) (by rw [hm];exact Nat.lt_irrefl _)
end
theorem s_add {prog:Program} {w:World} {A:Around} {E:Value→Shared→Prop} {hE:Heap} {s₀ s:Shared} {mods:List Addr} {R₀ c R:List Ch} {Q:Value→Shared→Prop} {x y:Str} {t u:Tok}
  (S:St w hE s₀ mods R₀ c R s) (hz:x.length+y.length≤1000) (h:∀ s' t',St w hE s₀ mods R₀ c R s'→Q (.str (x++y) t') s'):wpAny (model prog w) A (binaryOp .Add (.str x t) (.str y u)) Q E s :=
 PyProof.Rows.add_str (fun _ tk=>h _ _ (S.tok tk)) (by rw [sizeLine_eq];lia)
section
variable {prog:Program} {w:World} {A:Around} {E:Value→Shared→Prop} {hE:Heap} {s₀ s:Shared} {mods:List Addr} {R₀ c c' R:List Ch}
theorem ints_get {vs:List Value} {ns:List Int} (h:IntsAre vs ns):∀ {i:Nat} {k:Int},ns[i]?=some k→∃ t,vs[i]?=some (.int k t):=by
 induction h with
 | nil=>intro i k h;simp at h
 | cons a t h ih =>
  intro i k hk
  cases i with
  | zero=>simp at hk;subst hk;exact ⟨t,rfl⟩
  | succ i=>simp at hk;simpa using ih hk
end
section
variable {prog:Program} {w:World} {A:Around} {E:Value→Shared→Prop} {s:Shared} {env:Env}
theorem as_attr {o:Expr} {x:Str} {pos:Pos} {v:Value} {Q:Unit→Shared→Prop} (h:wpAny (model prog w) A (eval o env) (fun ov s₂=>wpAny (model prog w) A (setAttr ov x v) Q E s₂) E s) :
  wpAny (model prog w) A (assign (.Attribute o x pos) env v) Q E s:=fun Γ p hΓ=>by
 simp -iota only [assign_Attribute,Sem.wp_bind',Sem.wp_holding,Sem.wp_cmd_standAt,Sem.wp_release,Sem.wp_pure']
 exact Sem.wp_mono _ Γ _ (fun ov _ s₂ h₂=>h₂ Γ _ hΓ) (fun _ _ _ h'=>h') _ _ (h Γ p hΓ)
end
theorem ex_expr {prog:Program} {w:World} {A:Around} {E:Value→Shared→Prop} {s:Shared} {env:Env} {L:Addr} {kinds:Kinds} {cells:List (Str×Addr)} {e:Expr} {pos:Pos} {Q:Flow→Shared→Prop} (V:EnvOk env L kinds cells) (h:wpAny (model prog w) A (eval e env) (fun _=>Q .next) E s)
  (hs:swapsWith e none pos.line env=pure false):wpAny (model prog w) A (exec (.Expr e pos) env) Q E s :=
 wpAny_Expr_any h (by unfold interactive;rw [V.kind];rfl) hs
noncomputable abbrev dic (d:Addr) (kvs:List (Int×Value)):Ch:=.gen d fun o=>(d==sysModules)=false∧∀ (prog:Program) (w:World),o.IsDictOf (intKind prog w) kvs
theorem dic_of {w:World} {h:Heap} {d:Addr} {kvs:List (Int×Value)} (I:(dic d kvs).At w h):(d==sysModules)=false∧∀ (prog:Program) (w:World),h.DictOf (intKind prog w) d kvs:=by
 obtain ⟨o,ho,h1,h2⟩:=I
 exact ⟨h1,fun prog w=>Heap.dictOf_iff.mpr ⟨o,ho,h2 prog w⟩⟩
theorem pairs_any {prog prog':Program} {w w':World} {es:List DictEntry} {kvs:List (Int×Value)} (h:Pairs (intKind prog w) es kvs):Pairs (intKind prog' w') es kvs:=by
 induction h with
 | nil=>exact .nil
 | cons h1 h2 _ ih=>exact .cons h1 h2 ih
theorem of_dic {prog:Program} {w w':World} {h:Heap} {d:Addr} {kvs:List (Int×Value)} (h1:(d==sysModules)=false) (hd:h.DictOf (intKind prog w) d kvs):(dic d kvs).At w' h:=by
 obtain ⟨o,ho,h2⟩:=Heap.dictOf_iff.mp hd
 obtain ⟨es,ep,e1,e2,e3,e4,e5⟩:=h2
 exact ⟨o,ho,h1,fun _ _=>⟨es,ep,e1,e2,e3,pairs_any e4,e5⟩⟩
section
variable {prog:Program} {w:World} {A:Around} {E:Value→Shared→Prop} {hE:Heap} {s₀ s:Shared} {mods:List Addr} {R₀ c c' R:List Ch} {K:Frag} {gs bs:Loc} {env:Env} {Q:Value→Shared→Prop}
theorem far {d:Addr} (G:Gl K hE gs bs) (S:St w hE s₀ mods R₀ c R s) (hd:s.heap.objs.size≤d):(d==sysModules)=false:=by
 obtain ⟨mc,⟨o,es,ep,ho,_⟩,_⟩:=G.nodigits
 have:=Heap.lt_size (S.base _ _ ho)
 have h3:(2:Nat)<d:=Nat.lt_of_lt_of_le this hd
 have h4:(1:Nat)≠d:=Nat.ne_of_lt (Nat.lt_of_succ_lt h3)
 exact beq_eq_false_iff_ne.mpr fun e=>h4 e.symm
theorem d_new {pos:Pos} (G:Gl K hE gs bs) (S:St w hE s₀ mods R₀ c R s) (h:∀ s' d,St w hE s₀ mods R₀ (dic d []::c) R s'→Q (.ref d) s'):wpAny (model prog w) A (eval (.Dict [] [] pos) env) Q E s :=
 wpAny_Dict_empty (h _ _ (S.alloc (fun b o e=>Heap.get?_push_of_some _ e) (of_dic (prog:=prog) (w:=w) (far G S (Nat.le_refl _)) (Heap.DictOf.new _)) (fun a ha=>by simp only [Ch.fp,List.mem_singleton] at ha;subst ha;exact none_at) (by simp [Ch.fp]) rfl rfl rfl))
theorem d_set {d:Addr} {kvs:List (Int×Value)} {k:Int} {t:Tok} {v:Value} {Q:Unit→Shared→Prop} (S:St w hE s₀ mods R₀ c R s) (U:Upd1 (dic d kvs) (dic d (stored kvs k v)) c c') (hz:kvs.length≤1000) (h:∀ s',St w hE s₀ mods R₀ c' R s'→Q () s') :
  wpAny (model prog w) A (setItem (.ref d) (.int k t) v) Q E s:=by
 obtain ⟨h1,h2⟩:=dic_of (S.own _ U.mem)
 refine wpAny_setItem_pairs (knd:=intKind prog w) (intKind_is prog w k t) (h2 prog w) (fun h' hd' hs=>h _ ?_) (by rw [sizeLine_eq];lia)
 exact S.upd U rfl (fun b o hb e=>(hs.2 b fun q=>hb (by rw [q];simp [Ch.fp])).trans e) (of_dic h1 hd') rfl rfl rfl
theorem d_in {d:Addr} {kvs:List (Int×Value)} {k:Int} {t:Tok} (S:St w hE s₀ mods R₀ c R s) (I:Has w s₀ mods c R (dic d kvs)) (h:∀ s',St w hE s₀ mods R₀ c R s'→Q (.bool (valueAt kvs k).isSome) s') :
  wpAny (model prog w) A (compareOp .In (.int k t) (.ref d)) Q E s:=by
 obtain ⟨h1,h2⟩:=dic_of (I.at_ S)
 exact wpAny_in_of (knd:=intKind prog w) (intKind_is prog w k t) h1 (h2 prog w).mapOf (h _ (S.tok _))
theorem d_get {d:Addr} {kvs:List (Int×Value)} {k:Int} {t:Tok} {v:Value} {value slice:Expr} (S:St w hE s₀ mods R₀ c R s) (I:Has w s₀ mods c R (dic d kvs)) (hv:valueAt kvs k=some v) (h:∀ s',St w hE s₀ mods R₀ c R s'→Q v s')
  (hs:subscripted slice false (.ref d) (.int k t)=operate [.ref d,.int k t] (getItem (.ref d) (.int k t))) :
  wpAny (model prog w) A (subscriptTail value slice (.ref d) (.int k t)) Q E s:=by
 obtain ⟨h1,h2⟩:=dic_of (I.at_ S)
 exact tail_any (h2 prog w).typeIs slot_dict_getitem.lookup (wpAny_getItem_of (knd:=intKind prog w) (intKind_is prog w k t) (h2 prog w).mapOf hv (h _ (S.tok _))) hs
theorem d_meth {d:Addr} {kvs:List (Int×Value)} {pl:Sem Bool} {Q:Value×List Value→Shared→Prop} (S:St w hE s₀ mods R₀ c R s) (I:Has w s₀ mods c R (dic d kvs)) (h:Q (.builtin "dict.get",[.ref d]) s):wpAny (model prog w) A (getMethod (.ref d) "get" pl) Q E s:=by
 obtain ⟨h1,h2⟩:=dic_of (I.at_ S)
 exact getMethod_builtin (h2 prog w).typeIs PySem.F.plainAttrs_dict PySem.F.slot_dict_get PySem.F.type_dict_get (h2 prog w).mapOf.noDict h
theorem d_getd {d:Addr} {kvs:List (Int×Value)} {k:Int} {t:Tok} {dflt:Value} (S:St w hE s₀ mods R₀ c R s) (I:Has w s₀ mods c R (dic d kvs)) (h:∀ s',St w hE s₀ mods R₀ c R s'→Q ((valueAt kvs k).getD dflt) s') :
  wpAny (model prog w) A (call (.builtin "dict.get") [.ref d,.int k t,dflt]) Q E s:=by
 obtain ⟨h1,h2⟩:=dic_of (I.at_ S)
 exact call_meetsIn PySem.F.slot_dict_get (h2 prog w).typeIs PySem.F.entry_dict_get (PySem.F.args_dict_get_3 _ _ _) (meets_dict_get_default (intKind prog w) d (intKind_is prog w k t) h1 dflt) ⟨_,(h2 prog w).mapOf,h _ (S.tok _)⟩
theorem t_in {d:Addr} {kvs:List (Str×Value)} {k:Str} {t:Tok} (S:St w hE s₀ mods R₀ c R s) (h1:(d==sysModules)=false) (hd:s.heap.DictOf (strKind prog w) d kvs) (h:∀ s',St w hE s₀ mods R₀ c R s'→Q (.bool (valueAt kvs k).isSome) s') :
  wpAny (model prog w) A (compareOp .In (.str k t) (.ref d)) Q E s :=
 wpAny_in_of (knd:=strKind prog w) (strKind_is prog w k t) h1 hd.mapOf (h _ (S.tok _))
theorem t_notin {d:Addr} {kvs:List (Str×Value)} {k:Str} {t:Tok} (S:St w hE s₀ mods R₀ c R s) (h1:(d==sysModules)=false) (hd:s.heap.DictOf (strKind prog w) d kvs) (h:∀ s',St w hE s₀ mods R₀ c R s'→Q (.bool (!(valueAt kvs k).isSome)) s') :
  wpAny (model prog w) A (compareOp .NotIn (.str k t) (.ref d)) Q E s :=
 wpAny_notIn_of (knd:=strKind prog w) (strKind_is prog w k t) h1 hd.mapOf (h _ (S.tok _))
theorem t_geti {d:Addr} {kvs:List (Str×Value)} {k:Str} {t:Tok} {v:Value} {value slice:Expr} (S:St w hE s₀ mods R₀ c R s) (hd:s.heap.DictOf (strKind prog w) d kvs) (hv:valueAt kvs k=some v) (h:∀ s',St w hE s₀ mods R₀ c R s'→Q v s')
  (hs:subscripted slice false (.ref d) (.str k t)=operate [.ref d,.str k t] (getItem (.ref d) (.str k t))) :
  wpAny (model prog w) A (subscriptTail value slice (.ref d) (.str k t)) Q E s :=
 tail_any hd.typeIs slot_dict_getitem.lookup (wpAny_getItem_of (knd:=strKind prog w) (strKind_is prog w k t) hd.mapOf hv (h _ (S.tok _))) hs
theorem x_sorted {T:String} {r d:Addr} {n:Nat} {P:Nat→Value→Prop} {OK:Heap→Prop} {ns:List Int} (KS:KdlSrc prog w T r d n P OK) (hh:A.handled=none) (S:St w hE s₀ mods R₀ c R s) (hok:OK s.heap) (hn:n<64)
  (hi:∀ vs:List Value,vs.length=n→(∀ (j:Nat) (v:Value),vs[j]?=some v→P j v)→∃ ns',IntsAre vs ns'∧ns'.Perm ns)
  (h:∀ s' d vs' ns',IntsAre vs' ns'→ns'.Perm ns→ns'.Pairwise (·≤·)→St w hE s₀ mods R₀ (.lst d vs'::c) R s'→Q (.ref d) s'):wpAny (model prog w) A (call (.builtin "sorted") [.ref r]) Q E s:=by
 refine call_function_entry kind_sorted plain_sorted entry_sorted (args_sorted1 _) ?_
 unfold Builtin.«sorted»
 refine wpAny_bind (m:=checkCount "sorted" 1 1 _) (wpAny_pure ?_)
 refine wpAny_bind (kdu_collect (A:=A.in1) KS hh hok (by rw [sizeLine_eq];lia) fun h' tk acc hk hacc=>?_)
 have hl:acc.toList.length=n:=by rw [Array.length_toList];exact hacc.1
 refine wpAny_bind (wpAny_newList ?_ (by rw [hl,sizeLine_eq];lia))
 obtain ⟨ns',i1,i2⟩:=hi acc.toList hl (fun j v e=>hacc.2 j v (by rw [← Array.getElem?_toList];exact e))
 have S1:St w hE s₀ mods R₀ c R { s with heap:=h',toks:=tk }:=S.more hk rfl rfl rfl
 have hoL:(h'.push (seqObj "list" acc.toList.toArray 0)).get? h'.objs.size=some (seqObj "list" acc.toList.toArray 0):=Heap.get?_push_size _ rfl
 refine wpAny_bind (wpAny_holding (wpAny_call_entry slot_list_sort ⟨_,hoL,rfl⟩ entry_list_sort (list_sort_tree hoL i1 (by rw [hl];exact hn) fun out ns'' a1 a2 a3=>⟨_,rfl,?_⟩) (args_list_sort _)))
 refine wpAny_pure ⟨_,rfl,?_⟩
 obtain ⟨e,he⟩:=sortedHeap_at (out:=out) hoL
 refine h _ _ out.toList ns'' a1 (a2.trans i2) a3 (S1.alloc (fun b o q=>?_) ⟨e,he⟩ (fun a ha=>?_) (by simp [Ch.fp]) rfl rfl rfl)
 ·have hb:=Heap.lt_size q
  rw [sortedHeap_old (Nat.ne_of_lt hb) (by rw [size_push'];exact Nat.lt_succ_of_lt hb)]
  exact Heap.get?_push_of_some _ q
 ·simp only [Ch.fp,List.mem_singleton] at ha;subst ha;exact none_at
theorem d_sorted {d:Addr} {kvs:List (Int×Value)} (hh:A.handled=none) (S:St w hE s₀ mods R₀ c R s) (I:Has w s₀ mods c R (dic d kvs)) (hn:kvs.length<64)
  (h:∀ s' d vs' ns',IntsAre vs' ns'→ns'.Perm (kvs.map (·.1))→ns'.Pairwise (·≤·)→St w hE s₀ mods R₀ (.lst d vs'::c) R s'→Q (.ref d) s'):wpAny (model prog w) A (call (.builtin "sorted") [.ref d]) Q E s:=by
 obtain ⟨h1,h2⟩:=dic_of (I.at_ S)
 obtain ⟨ep,hat⟩:=(h2 prog w).dictAt
 refine x_sorted (ns:=kvs.map (·.1)) (kdl_dict (knd:=intKind prog w) (kvs:=kvs) (ep:=ep) h1) hh S hat hn (fun vs hl hv=>⟨kvs.map (·.1),?_,.refl _⟩) h
 clear h I hat h2 hn
 induction kvs generalizing vs with
 | nil=>cases vs with
  | nil=>exact .nil
  | cons _ _=>simp at hl
 | cons kv kvs ih =>
  cases vs with
  | nil=>simp at hl
  | cons v vs =>
   obtain ⟨k,x,e1,e2⟩:=hv 0 v rfl
   simp at e1
   obtain ⟨t,rfl⟩:=Value.isInt_shape (k:=k) e2
   subst e1
   exact .cons k t (ih vs (by simpa using hl) fun j u hu=>by obtain ⟨k,x,e1,e2⟩:=hv (j+1) u (by simpa using hu);exact ⟨k,x,by simpa using e1,e2⟩)
end
noncomputable def byText (w:World):Bool:=w.params.followText "set-order"
noncomputable def setT (w:World) (ns:List Int):SetTable:={ mask:=7,place:=(ns.map Int.toNat).toArray,dummies:=#[],finger:=0,led:=!(byText w),moves:=0,plain:=true }
inductive ElX:List (Int×Value)→List Int→Prop
 | nil:ElX [] []
 | cons {es ns} (k:Int) (t:Tok):ElX es ns→ElX ((k,.int k t)::es) (k::ns)
noncomputable abbrev setx (w:World) (a:Addr) (ns:List Int):Ch:=.gen a fun o=>∃ es ep,o={ cls:=.type "set",dict:=none,data:=.set es ep (setT w ns),slots:=#[] }∧ElX es.toList ns
noncomputable def okAdd (ns:List Int) (k:Int):Bool:=[(([]:List Int),(0:Int)),([],1),([],2),([0],1),([0],2),([1],2),([0,1],2)].contains (ns,k)
theorem okAdd_cases {ns:List Int} {k:Int} (h:okAdd ns k=true):(ns=[]∧k=0)∨(ns=[]∧k=1)∨(ns=[]∧k=2)∨(ns=[0]∧k=1)∨(ns=[0]∧k=2)∨(ns=[1]∧k=2)∨(ns=[0,1]∧k=2):=by
 simpa [okAdd] using h
theorem slot_of {w:World} {ns:List Int} {k:Int} (h:okAdd ns k=true):(setT w ns).freeSlot (hashInt k)=some (k.toNat,false):=by
 rcases okAdd_cases h with ⟨rfl,rfl⟩ | ⟨rfl,rfl⟩ | ⟨rfl,rfl⟩ | ⟨rfl,rfl⟩ | ⟨rfl,rfl⟩ | ⟨rfl,rfl⟩ | ⟨rfl,rfl⟩<;>with_unfolding_all rfl
theorem hash_of {ns:List Int} {k:Int} (h:okAdd ns k=true):hashInt k=k:=by
 rcases okAdd_cases h with ⟨rfl,rfl⟩ | ⟨rfl,rfl⟩ | ⟨rfl,rfl⟩ | ⟨rfl,rfl⟩ | ⟨rfl,rfl⟩ | ⟨rfl,rfl⟩ | ⟨rfl,rfl⟩<;>decide +kernel
theorem put_of {w:World} {ns:List Int} {k:Int} (h:okAdd ns k=true):(setT w ns).put k.toNat=(setT w (ns++[k]),ns.length):=by
 rcases okAdd_cases h with ⟨rfl,rfl⟩ | ⟨rfl,rfl⟩ | ⟨rfl,rfl⟩ | ⟨rfl,rfl⟩ | ⟨rfl,rfl⟩ | ⟨rfl,rfl⟩ | ⟨rfl,rfl⟩<;>with_unfolding_all rfl
theorem ins_of (es:List (Int×Value)) (x:Int×Value):SetTable.insertAt es.toArray es.length x=(es++[x]).toArray:=by simp -iota [SetTable.insertAt]
theorem setT_fits {w:World} {ns:List Int} (hz:ns.length≤3):(setT w ns).fits ns.length=true:=by
 simp -iota only [SetTable.fits,setT,SetTable.fill,List.size_toArray,List.length_map,beq_self_eq_true,Bool.true_and,decide_eq_true_eq]
 simp
 lia
theorem ElX.length {es:List (Int×Value)} {ns:List Int} (h:ElX es ns):es.length=ns.length:=by induction h<;>simp_all
theorem lay_of {w:World} {es:List (Int×Value)} {ns:List Int} {k:Int} {t:Tok} (h:okAdd ns k=true) (hz:ns.length≤2) (hx:ElX es ns):layNew (setT w ns) es.toArray (hashInt k) (.int k t)=((es++[(k,Value.int k t)]).toArray,setT w (ns++[k]),false,false):=by
 unfold layNew
 rw [slot_of h]
 dsimp only
 rw [put_of h,hash_of h]
 dsimp only
 rw [← hx.length,ins_of]
 have hs:(es++[(k,Value.int k t)]).toArray.size=(ns++[k]).length:=by simp -iota [hx.length]
 have hf:(setT w (ns++[k])).fits (es++[(k,Value.int k t)]).toArray.size=true:=by rw [hs];exact setT_fits (by simp;lia)
 unfold SetTable.orStandIn
 rw [hf]
 rfl
theorem full_of {w:World} {ns:List Int} {k:Int} (h:okAdd ns k=true):(setT w (ns++[k])).tooFull=false:=by
 rcases okAdd_cases h with ⟨rfl,rfl⟩ | ⟨rfl,rfl⟩ | ⟨rfl,rfl⟩ | ⟨rfl,rfl⟩ | ⟨rfl,rfl⟩ | ⟨rfl,rfl⟩ | ⟨rfl,rfl⟩<;>rfl
theorem ElX.elems {prog:Program} {w:World} {es:List (Int×Value)} {ns:List Int} (h:ElX es ns) (hz:∀ k∈ns,0≤k∧k<3):ElemsOf (intKind prog w) es:=by
 induction h with
 | nil=>intro e he;cases he
 | cons k t h ih =>
  intro e he
  rcases List.mem_cons.mp he with rfl | he
  ·have hk:=hz k (.head _)
   refine ⟨⟨k,intKind_is prog w k t,?_⟩,rfl⟩
   have:k=0∨k=1∨k=2:=by lia
   rcases this with rfl | rfl | rfl<;>rfl
  ·exact ih (fun k hk=>hz k (.tail _ hk)) e he
theorem ElX.snoc {es:List (Int×Value)} {ns:List Int} {k:Int} {t:Tok} (h:ElX es ns):ElX (es++[(k,.int k t)]) (ns++[k]):=by
 induction h with
 | nil=>exact .cons k t .nil
 | cons k' t' h ih=>exact .cons k' t' ih
theorem ElX.find {prog:Program} {w:World} {es:List (Int×Value)} {ns:List Int} {k:Int} (h:ElX es ns) (hk:k∉ns):es.findIdx? (fun e=>(intKind prog w).is k e.2)=none:=by
 rw [List.findIdx?_eq_none_iff]
 intro e he
 induction h with
 | nil=>cases he
 | cons k' t' h ih =>
  rcases List.mem_cons.mp he with rfl | he
  ·have:k≠k':=fun e=>hk (e▸.head _)
   show Value.isInt k (.int k' t')=false
   simp [Value.isInt];exact fun e=>this e.symm
  ·exact ih (fun h=>hk (.tail _ h)) he
theorem okAdd_z {ns:List Int} {k:Int} (h:okAdd ns k=true):(∀ x∈ns,0≤x∧x<3)∧k∉ns∧ns.length≤2∧(0≤k∧k<3):=by
 rcases okAdd_cases h with ⟨rfl,rfl⟩ | ⟨rfl,rfl⟩ | ⟨rfl,rfl⟩ | ⟨rfl,rfl⟩ | ⟨rfl,rfl⟩ | ⟨rfl,rfl⟩ | ⟨rfl,rfl⟩<;>decide
section
variable {prog:Program} {w:World} {A:Around} {E:Value→Shared→Prop} {hE:Heap} {s₀ s:Shared} {mods:List Addr} {R₀ c c' R:List Ch} {K:Frag} {gs bs:Loc} {env:Env} {Q:Value→Shared→Prop}
theorem setx_add {a:Addr} {ns:List Int} {k:Int} {t:Tok} {Q:Bool→Shared→Prop} (hS:(setx w a ns).At w s.heap) (hk:okAdd ns k=true) (h:∀ h',Heap.SameBut a s.heap h'→(setx w a (ns++[k])).At w h'→Q true { s with heap:=h' }) :
  wpAny (model prog w) A (setAddHashed a (.int k t) (hashInt k)) Q E s:=by
 obtain ⟨o,ho,es,ep,rfl,hx⟩:=hS
 obtain ⟨z1,z2,z3,z4⟩:=okAdd_z hk
 have hl:es.size=ns.length:=by rw [← hx.length,Array.length_toList]
 have hf:(setT w ns).fits es.size=true:=by rw [hl];exact setT_fits (by lia)
 have hel:ElemsOf (intKind prog w) es.toList:=hx.elems z1
 have hes:es=es.toList.toArray:=by simp
 unfold setAddHashed setAddHashedIn
 refine wpAny_holding (wpAny_bind (wpAny_setState_of ho rfl hf ?_))
 dsimp only
 rw [byScan_of rfl (by rw [hl];unfold scanBound;lia) hel]
 simp -iota only [↓reduceIte]
 unfold setAddByScan
 refine wpAny_bind ?_
 refine wpAny_bind (wpAny_rule ?_)
 refine wpAny_bind (wpAny_setScan_of (knd:=intKind prog w) (k:=k) (intKind_is prog w k t) ho rfl hf hel ?_)
 rw [hx.find z2]
 dsimp only
 rw [hes,lay_of hk z3 hx]
 dsimp only
 refine wpAny_bind (wpAny_pure ?_)
 refine wpAny_bind (wpAny_pure ?_)
 have hp:(setT w (ns++[k])).plain=true:=rfl
 have ho2:(s.heap.update a (Obj.putSet (es.toList++[(k,Value.int k t)]).toArray (setT w (ns++[k])))).get? a=some { cls:=.type "set",dict:=none,data:=.set (es.toList++[(k,Value.int k t)]).toArray (ep+1) (setT w (ns++[k])),slots:=#[] }:=by
  exact Heap.get?_update_self _ ho rfl
 rw [if_pos rfl,full_of hk]
 refine wpAny_bind (wpAny_storeSet_of ho rfl ?_ (by rw [sizeLine_eq,List.size_toArray,List.length_append,Array.length_toList];simp;lia))
 simp -iota only [Bool.and_false,Bool.false_eq_true,if_false]
 exact wpAny_pure (wpAny_pure (h _ (Heap.SameBut.update ..) ⟨_,ho2,_,_,rfl,by simpa using hx.snoc⟩))
end
end Nt
set_option maxHeartbeats 4000000
namespace Nt
noncomputable def okSet (ns:List Int):Bool:=[([]:List Int),[0],[1],[2],[0,1],[0,2],[1,2],[0,1,2]].contains ns
theorem okSet_add {ns:List Int} (h:okSet ns=true):∀ i,i<ns.length→okAdd (ns.take i) (ns.getD i 0)=true:=by
 have:ns=[]∨ns=[0]∨ns=[1]∨ns=[2]∨ns=[0,1]∨ns=[0,2]∨ns=[1,2]∨ns=[0,1,2]:=by simpa [okSet] using h
 rcases this with rfl | rfl | rfl | rfl | rfl | rfl | rfl | rfl<;>decide
section
variable {prog:Program} {w:World} {A:Around} {E:Value→Shared→Prop} {s:Shared} {Q:Value→Shared→Prop}
theorem setx_loop {R:Result→Shared→Prop} {S I l:Addr} {vs:List Value} {ns:List Int} (hh:A.handled=none) (hi:IntsAre vs ns) (ok:okSet ns=true) (hSI:S≠I) (hlI:l≠I) (hlS:l≠S):∀ (k i:Nat) (s:Shared),k+i=ns.length→s.heap.IsListIter I l i→s.heap.IsList l vs.toArray→(setx w S (ns.take i)).At w s.heap →
  (∀ h' tk,(setx w S ns).At w h'→(∀ b o,b≠S→b≠I→s.heap.get? b=some o→h'.get? b=some o)→R (.ok (.ret .none)) { s with heap:=h',toks:=tk }) →
  codeAny (model prog w) A (.builtin "set.update.loop" ⟨[.ref S,.ref I],[]⟩) R s:=by
 intro k
 induction k with
 | zero =>
  intro i s hk hit hl hS hR
  obtain rfl:i=ns.length:=(Nat.zero_add i).symm.trans hk
  refine codeAny_builtin PyProof.Rows.F.entry_set_update_loop ?_
  rw [Around.under_plainId PyProof.Rows.F.plain_set_update_loop _]
  show wpAny _ A.in1 (pyNext (.ref I) >>= _) _ _ s
  refine wpAny_bind (wpAny_pyNext_list_end hh hit hl (by simp [IntsAre.length hi]) fun h' he=>?_)
  show wpAny _ A.in1 (ret Value.none) _ _ _
  rw [List.take_length] at hS
  refine wpAny_pure (hR h' s.toks (hS.same fun a ha o e=>he a o ?_ e) fun b o _ hb e=>he b o hb e)
  simp only [Ch.fp,List.mem_singleton] at ha;subst ha;exact hSI
 | succ k ih =>
  intro i s hk hit hl hS hR
  have hlt:i<ns.length:=hk▸Nat.lt_add_of_pos_left (Nat.succ_pos k)
  obtain ⟨n,hn⟩:∃ n,ns[i]?=some n:=⟨_,List.getElem?_eq_getElem hlt⟩
  obtain ⟨t,hv⟩:=ints_get hi hn
  have hadd:=okSet_add ok i hlt
  have hd:ns.getD i 0=n:=by simp [List.getD,hn]
  rw [hd] at hadd
  refine codeAny_builtin PyProof.Rows.F.entry_set_update_loop ?_
  rw [Around.under_plainId PyProof.Rows.F.plain_set_update_loop _]
  show wpAny _ A.in1 (pyNext (.ref I) >>= _) _ _ s
  refine wpAny_bind (wpAny_pyNext_list_item hit hl (x:=.int n t) (by simpa using hv) fun h' hit' hs'=>?_)
  have hS':(setx w S (ns.take i)).At w h':=hS.same fun a ha o e=>(hs'.2 a (by simp only [Ch.fp,List.mem_singleton] at ha;subst ha;exact hSI)).trans e
  show wpAny _ A.in1 (holding [Value.int n t] (setAdd S (.int n t)) >>= _) _ _ _
  refine wpAny_bind (wpAny_holding ?_)
  unfold setAdd
  refine wpAny_holding ?_
  refine wpAny_bind ((intKind prog w).pyHash (k:=n) (intKind_is _ _ _ _) ?_)
  refine setx_add (s:={ s with heap:=h',toks:=s.toks+1 }) hS' hadd fun h2 hsb hS2=>?_
  have e1:ns.take i++[n]=ns.take (i+1):=by rw [List.take_add_one,hn];rfl
  rw [e1] at hS2
  refine wpAny_pure ⟨plainId_quiet PyProof.Rows.F.plain_set_update_loop _,ih (i+1) _ ((Nat.succ_add_eq_add_succ k i).symm.trans hk) ?_ ?_ hS2 fun h3 tk hS3 keep=>hR h3 tk hS3 fun b o hb1 hb2 e=>keep b o hb1 hb2 ((hsb.2 b hb1).trans ((hs'.2 b hb2).trans e))⟩
  ·obtain ⟨o,ho,r⟩:=hit'
   exact ⟨o,(hsb.2 I (Ne.symm hSI)).trans ho,r⟩
  ·obtain ⟨o,ho,r⟩:=hl
   exact ⟨o,(hsb.2 l hlS).trans ((hs'.2 l hlI).trans ho),r⟩
theorem code_new {Q₁:Value→Shared→Prop} {v:Value} (h:∀ s',s'={ s with heap:=s.heap.push { cls:=.type "set",dict:=none,data:=.set #[] 0 (setT w []),slots:=#[] } }→Q₁ (.ref s.heap.objs.size) s') :
  codeAny (model prog w) A (.call (.builtin "set.__new__") ⟨[.type "set",v],[]⟩) (wants Q₁ E) s:=by
 refine codeAny_of_tree ?_
 show wpAny _ A.in1 (do checkBuiltinCall "set.__new__" ⟨[.type "set",v],[]⟩;again (.builtin "set.__new__" ⟨[.type "set",v],[]⟩)) _ _ s
 refine wpAny_bind (wpAny_of_eq (PySem.F.newCall_set_1 v) (wpAny_pure ⟨plainId_quiet PySem.F.plain_set_new _,codeAny_builtin PySem.F.entry_set_new ?_⟩))
 rw [Around.under_plainId PySem.F.plain_set_new _]
 unfold Builtin.«set.__new__» Builtin.Frozenset.newClass
 have hsub:=sub_set_self
 obtain ⟨hp,g,d,tk,os⟩:=s
 dsimp only at h ⊢
 wp_walk
 refine wpAny_askSetting (wpAny_pure ?_)
 dsimp only
 simp -iota only [newObj]
 refine wpAny_bind (wpAny_alloc (wpAny_pure ?_))
 exact wpAny_pure (h _ rfl)
end
end Nt
set_option maxHeartbeats 4000000
namespace Nt
section
variable {prog:Program} {w:World} {A:Around} {E:Value→Shared→Prop} {s:Shared} {Q:Value→Shared→Prop}
theorem setx_init {S l:Addr} {vs:List Value} {ns:List Int} (hh:A.handled=none) (hl:s.heap.IsList l vs.toArray) (hi:IntsAre vs ns) (ok:okSet ns=true) (hS:(setx w S []).At w s.heap) (hz:S<s.heap.objs.size) (hlz:l<s.heap.objs.size) (hlS:l≠S) :
  codeAny (model prog w) A (.call (.builtin "set.__init__") ⟨[.ref S,.ref l],[]⟩) (wants (fun r s₂=>r=.none∧∃ h' tk,s₂={ s with heap:=h',toks:=tk }∧(setx w S ns).At w h'∧∀ b o,b≠S→s.heap.get? b=some o→h'.get? b=some o) E) s:=by
 obtain ⟨o,ho,es,ep,rfl,hx⟩:=hS
 obtain rfl:es=#[]:=Array.toList_eq_nil_iff.mp (by generalize es.toList=l at hx;cases hx;rfl)
 refine codeAny_call_builtin PySem.F.called_set.init.plain PySem.F.entry_set_init (check_set_init_1 ⟨_,ho,rfl⟩ ?_)
 obtain ⟨ol,hol,hcl,nl,hdl⟩:=id hl
 obtain ⟨ocls,odict,odata,oslots⟩:=ol
 cases hcl;cases hdl
 have hsls:=PySem.F.sub_list_set
 have hslf:=PySem.F.sub_list_frozenset
 have hne:(Value.type "list"==Value.type "dict")=false:=by decide
 unfold Builtin.«set.__init__» noKeywords Builtin.Frozenset.updateFrom
 generalize hPI:pyIter=PI
 wp_walk
 subst hPI
 refine wpAny_pyIter_list hl ?_
 refine wpAny_bind (wpAny_runValue ?_)
 refine setx_loop (by simp -iota [hh]) hi ok (Nat.ne_of_lt hz) (Nat.ne_of_lt hlz) hlS _ 0 _ rfl ⟨_,Heap.get?_push_size _ rfl,rfl,rfl⟩ (hl.push _) ⟨_,Heap.get?_push_of_some _ ho,#[],ep,rfl,.nil⟩ fun h' tk hS' keep=>?_
 refine wpAny_pure ?_
 show wpAny _ _ (ret Value.none) _ _ _
 exact wpAny_pure ⟨rfl,h',tk,rfl,hS',fun b o hb e=>keep b o hb (Nat.ne_of_lt (Heap.lt_size e)) (Heap.get?_push_of_some _ e)⟩
theorem call_setx {l:Addr} {vs:List Value} {ns:List Int} (hh:A.handled=none) (hl:s.heap.IsList l vs.toArray) (hi:IntsAre vs ns) (ok:okSet ns=true)
  (h:∀ h' tk,(setx w s.heap.objs.size ns).At w h'→(∀ b o,s.heap.get? b=some o→h'.get? b=some o)→Q (.ref s.heap.objs.size) { s with heap:=h',toks:=tk }) :
  wpAny (model prog w) A (call (.type "set") [.ref l]) Q E s:=by
 have hlz:l<s.heap.objs.size:=by obtain ⟨_,ho,_⟩:=hl;exact Heap.lt_size ho
 obtain ⟨c,tl,hmro⟩:=PySem.F.called_set.mro
 have hmade:=PySem.F.called_set.made
 have hsub:=PySem.F.called_set.sub
 refine wpAny_call (codeAny_of_tree ?_)
 show wpAny _ _ (callAny (.type "set") _) _ _ _
 refine wpAny_pure ⟨Code.quiet_builtin _ (by decide +kernel),codeAny_builtin PySem.F.entry_type_call ?_⟩
 rw [Around.under_plain (weight_type_call_type "set" [.ref l] []) rfl]
 have h1:=PySem.F.called_set.notType
 have h2:=PySem.F.called_set.canCreate
 have hct:=PySem.F.typeCall_set_1 (.ref l)
 repeat (any_goals (first | assumption | wp_step))
 refine codeAny_mono (code_new (E:=E) (Q₁:=fun obj s₁=>obj=.ref s.heap.objs.size∧s₁={ s with heap:=s.heap.push { cls:=.type "set",dict:=none,data:=.set #[] 0 (setT w []),slots:=#[] } }) fun s' e=>⟨rfl,e⟩) fun r s₁ hr=>?_
 cases r with
 | error e=>exact hr
 | ok fl =>
  cases fl with
  | ret obj =>
   obtain ⟨rfl,rfl⟩:=hr
   have hS:(s.heap.push { cls:=.type "set",dict:=none,data:=.set #[] 0 (setT w []),slots:=#[] }).get? s.heap.objs.size=some { cls:=.type "set",dict:=none,data:=.set #[] 0 (setT w []),slots:=#[] }:=Heap.get?_push_size _ rfl
   have hT:Shared.TypeIs { s with heap:=s.heap.push { cls:=.type "set",dict:=none,data:=.set #[] 0 (setT w []),slots:=#[] } } (.ref s.heap.objs.size) "set":=⟨_,hS,rfl⟩
   have hli:=PySem.F.called_set.init.lookup
   have hbi:=PySem.F.called_set.init.bind (.ref s.heap.objs.size)
   repeat (any_goals (first | assumption | wp_step))
   refine codeAny_mono (setx_init (E:=E) (S:=s.heap.objs.size) (l:=l) (s:={ s with heap:=s.heap.push { cls:=.type "set",dict:=none,data:=.set #[] 0 (setT w []),slots:=#[] } }) (by simp -iota [hh]) (hl.push _) hi ok ⟨_,hS,#[],0,rfl,.nil⟩ (by rw [Heap.size_push];exact Nat.lt_succ_self _) (by rw [Heap.size_push];exact Nat.lt_succ_of_lt hlz) (Nat.ne_of_lt hlz)) fun r₂ s₂ hr₂=>?_
   cases r₂ with
   | error e=>exact hr₂
   | ok fl₂ =>
    cases fl₂ with
    | ret r =>
     obtain ⟨rfl,h',tk,rfl,hS',hk'⟩:=hr₂
     repeat (any_goals (first | assumption | wp_step))
     exact h _ _ hS' fun b o e=>hk' b o (Nat.ne_of_lt (Heap.lt_size e)) (Heap.get?_push_of_some _ e)
    | _=>exact hr₂.elim
  | _=>exact hr.elim
theorem owner_set_iterator:Manifest.owners.lookup (String.ofList ['r','o','t','a','r','e','t','i','_','t','e','s'].reverse)=some Manifest.sig_set_iterator:=by kernel_rfl
theorem slot_sit:Slot "set_iterator" "__next__" "set_iterator.__next__" :=
 .of (owner:="set_iterator") (n:="__next__") (by rw [typeLookup_type,builtinLookup_eq_fast];kernel_rfl) (by decide +kernel) (by decide +kernel) (by decide +kernel)
  (by first | exact .inl (by decide +kernel) | exact .inr (by decide +kernel)) (by rw [isSubtype_type];kernel_rfl)
theorem entry_sit:entryFor table "set_iterator.__next__"=some Builtin.«set_iterator.__next__»:=entryFor_of_tree (by kernel_rfl)
theorem args_sit (a:Value):argsOk "set_iterator.__next__" ⟨[a],[]⟩:=by
 unfold argsOk;rw [signature?_of (id:="set_iterator.__next__") (n:=['_','_','t','x','e','n','_','_']) (o:=['r','o','t','a','r','e','t','i','_','t','e','s']) (by kernel_rfl) owner_set_iterator];kernel_rfl
theorem entry_siter:entryFor table "set.__iter__"=some Builtin.«frozenset.__iter__» :=
 entryFor_alias (id':="frozenset.__iter__") (by kernel_rfl) rfl (by decide +kernel) (by kernel_rfl)
end
end Nt
set_option maxHeartbeats 4000000
namespace Nt
section
variable {prog:Program} {w:World} {A:Around} {E:Value→Shared→Prop} {s:Shared} {Q:Value→Shared→Prop}
theorem pyIter_set {a:Addr} {ns:List Int} {es:Array (Int×Value)} {ep:Nat} (ho:s.heap.get? a=some { cls:=.type "set",dict:=none,data:=.set es ep (setT w ns),slots:=#[] }) (hx:ElX es.toList ns) (hz:ns.length≤3)
  (h:Q (.ref s.heap.objs.size) { s with heap:=s.heap.push { cls:=.type "set_iterator",data:=.fields #[rawInt 0,rawInt 0,.ref a,rawInt es.size,rawInt ep] } }):wpAny (model prog w) A (pyIter (.ref a)) Q E s:=by
 have hT:s.TypeIs (.ref a) "set":=⟨_,ho,rfl⟩
 have hl:es.size=ns.length:=by rw [← hx.length,Array.length_toList]
 have hf:(setT w ns).fits es.size=true:=by rw [hl];exact setT_fits hz
 refine wpAny_pyIter_slot hT PySem.F.slot_set_iter (wpAny_call_entry PySem.F.slot_set_iter hT entry_siter ?_ (PySem.F.args_set_iter_1 _))
 unfold Builtin.«frozenset.__iter__» Builtin.Frozenset.slot0 slotArgs
 simp -iota only [List.isEmpty_nil,Bool.not_true,Bool.false_eq_true,↓reduceIte,bind_assoc,List.length_nil,bne_self_eq_false]
 unfold Builtin.Frozenset.addrOf Builtin.Frozenset.sizeOf
 refine wpAny_bind (wpAny_pure ?_)
 try dsimp only
 refine wpAny_bind (wpAny_pure ?_)
 refine wpAny_bind (wpAny_bind (wpAny_setEntries_of ho rfl hf (wpAny_pure ?_)))
 unfold setDrawn setsByText
 refine wpAny_bind (wpAny_bind (wpAny_setState_of ho rfl hf ?_))
 dsimp only
 refine wpAny_bind (wpAny_bind (wpAny_askSetting (wpAny_pure (wpAny_pure ?_))))
 refine wpAny_ite_split (fun hab=>absurd hab ?_) (fun _=>?_)
 ·change ¬ ((!(byText w)&&_)=true)
  cases byText w
  ·exact Bool.false_ne_true
  ·exact Bool.false_ne_true
 refine wpAny_bind (wpAny_pure ?_)
 refine wpAny_bind (wpAny_setEpoch_of ho rfl hf ?_)
 refine wpAny_bind (wpAny_newObj_type (wpAny_pure ⟨_,rfl,"set_iterator",_,⟨_,Heap.get?_push_size _ rfl,rfl⟩,slot_sit.lookup,?_⟩))
 exact h
noncomputable def isSit (h:Heap) (it a:Addr) (slot i n ep:Nat):Prop:=∃ o,h.get? it=some o∧o.cls=.type "set_iterator"∧o.data=.fields #[.int slot 0,.int i 0,.ref a,.int n 0,.int ep 0]
noncomputable def ordX (w:World) (a:Addr) (ep:Nat) (es:Array (Int×Value)):Array (Int×Value):=if byText w=true then pickOrder (w.params.setOrder a ep) es else es
noncomputable def slotX (w:World) (ns:List Int) (i:Nat):Nat:=if byText w=true then 0 else if i=0 then 0 else (ns.getD (i - 1) 0).toNat+1
theorem below_of {ns:List Int} (h:okSet ns=true):∀ i,i≤ns.length→SetTable.below ((ns.map Int.toNat).toArray) (if i=0 then 0 else (ns.getD (i - 1) 0).toNat+1)=i:=by
 have:ns=[]∨ns=[0]∨ns=[1]∨ns=[2]∨ns=[0,1]∨ns=[0,2]∨ns=[1,2]∨ns=[0,1,2]:=by simpa [okSet] using h
 rcases this with rfl | rfl | rfl | rfl | rfl | rfl | rfl | rfl<;>decide +kernel
theorem okSet_z {ns:List Int} (h:okSet ns=true):ns.length≤3:=by
 have:ns=[]∨ns=[0]∨ns=[1]∨ns=[2]∨ns=[0,1]∨ns=[0,2]∨ns=[1,2]∨ns=[0,1,2]:=by simpa [okSet] using h
 rcases this with rfl | rfl | rfl | rfl | rfl | rfl | rfl | rfl<;>decide
theorem setNext_of {a:Addr} {ns:List Int} {es:Array (Int×Value)} {ep i:Nat} {Q:Option (Value×Nat)→Shared→Prop} (ok:okSet ns=true) (hi:i≤ns.length) (ho:s.heap.get? a=some { cls:=.type "set",dict:=none,data:=.set es ep (setT w ns),slots:=#[] }) (hx:ElX es.toList ns)
  (h:Q (((ordX w a ep es)[i]?).map fun e=>(e.2,slotX w ns (i+1))) s):wpAny (model prog w) A (setNext a (slotX w ns i) i ep) Q E s:=by
 have hl:es.size=ns.length:=by rw [← hx.length,Array.length_toList]
 have hf:(setT w ns).fits es.size=true:=by rw [hl];exact setT_fits (okSet_z ok)
 unfold setNext setsByText
 refine wpAny_bind (wpAny_setState_of ho rfl hf ?_)
 dsimp only
 refine wpAny_bind (wpAny_bind (wpAny_askSetting (wpAny_pure ?_)))
 change wpAny _ _ (if byText w=true then _ else _) _ _ _
 by_cases hb:byText w=true
 ·rw [if_pos hb,if_neg (by simp)]
  unfold setWalk setsByText
  refine wpAny_bind (wpAny_bind (wpAny_setState_of ho rfl hf ?_))
  dsimp only
  refine wpAny_bind (wpAny_bind (wpAny_askSetting (wpAny_pure ?_)))
  change wpAny _ _ (if byText w=true then _ else _) _ _ _
  rw [if_pos hb]
  refine wpAny_bind (wpAny_askSetting (wpAny_pure (wpAny_pure ?_)))
  simp -iota only [ordX,slotX,if_pos hb] at h ⊢
  exact h
 ·rw [if_neg hb]
  refine wpAny_ite_split (fun hab=>absurd hab ?_) (fun _=>?_)
  ·exact Bool.false_ne_true
  have hb':byText w=false:=by simpa using hb
  change wpAny _ _ ((if (!(setT w ns).led&&!es.isEmpty)=true then unsupported "set:maker-not-led" else pure ()) >>= _) _ _ _
  have hled:(setT w ns).led=true:=by simp -iota [setT,hb']
  rw [hled,if_neg (by simp)]
  refine wpAny_bind (wpAny_pure (wpAny_pure ?_))
  have hbel:SetTable.below (setT w ns).place (slotX w ns i)=i:=by
   simp -iota only [slotX,if_neg hb];exact below_of ok i hi
  rw [hbel]
  simp -iota only [ordX,if_neg hb,slotX] at h
  have hpl:(setT w ns).place[i]?=(ns[i]?).map Int.toNat:=by simp -iota [setT]
  rw [hpl]
  by_cases hlt:i<ns.length
  ·obtain ⟨e,he⟩:∃ e,es[i]?=some e:=⟨_,Array.getElem?_eq_getElem (by rw [hl];exact hlt)⟩
   have hn:ns[i]?=some (ns.getD i 0):=by simp -iota [List.getD,List.getElem?_eq_getElem hlt]
   rw [he,hn]
   rw [he] at h
   simpa using h
  ·rw [Array.getElem?_eq_none (by lia)] at h ⊢
   exact h
theorem sit_item {it a:Addr} {ns:List Int} {es:Array (Int×Value)} {ep i:Nat} {x:Int×Value} {Q:Option Value→Shared→Prop} (ok:okSet ns=true) (hi:i<ns.length) (hit:isSit s.heap it a (slotX w ns i) i es.size ep) (ho:s.heap.get? a=some { cls:=.type "set",dict:=none,data:=.set es ep (setT w ns),slots:=#[] }) (hx:ElX es.toList ns) (hne:a≠it)
  (hv:(ordX w a ep es)[i]?=some x) (h:∀ h',isSit h' it a (slotX w ns (i+1)) (i+1) es.size ep→Heap.SameBut it s.heap h'→Q (some x.2) { s with heap:=h' }):wpAny (model prog w) A (pyNext (.ref it)) Q E s:=by
 obtain ⟨o,hoi,hc,hd⟩:=id hit
 have hT:s.TypeIs (.ref it) "set_iterator":=⟨o,hoi,hc⟩
 have hl:es.size=ns.length:=by rw [← hx.length,Array.length_toList]
 have hf:(setT w ns).fits es.size=true:=by rw [hl];exact setT_fits (okSet_z ok)
 unfold pyNext
 refine wpAny_bind (wpAny_attempt (wpAny_callSpecial?_slot (name:=Str.ofString "__next__") hT slot_sit (wpAny_call_entry slot_sit hT entry_sit ?_ (args_sit _))))
 unfold Builtin.«set_iterator.__next__» slotArgs
 simp -iota only [List.isEmpty_nil,Bool.not_true,Bool.false_eq_true,↓reduceIte,bind_assoc,List.length_nil,bne_self_eq_false]
 refine wpAny_bind (wpAny_pure ?_)
 refine wpAny_bind (wpAny_fieldsOf hoi hd ?_)
 dsimp only
 refine wpAny_bind (wpAny_setEntries_of ho rfl hf ?_)
 rw [if_neg (by simp)]
 simp -iota only [Int.toNat_natCast]
 refine wpAny_bind (setNext_of ok (Nat.le_of_lt hi) ho hx ?_)
 rw [hv]
 show wpAny _ _ (setField (.ref it) 0 (rawInt (slotX w ns (i+1))) >>= _) _ _ _
 refine wpAny_bind (wpAny_setField hoi hd (by simp) ?_)
 have hd1:=Obj.data_mapFields hd (·.setIfInBounds 0 (rawInt (slotX w ns (i+1))))
 have ho1:(s.heap.update it (Obj.mapFields (·.setIfInBounds 0 (rawInt (slotX w ns (i+1)))))).get? it=some (o.mapFields (·.setIfInBounds 0 (rawInt (slotX w ns (i+1))))):=Heap.get?_update_self _ hoi (Obj.isFreed_of_fields hd1)
 refine wpAny_bind (wpAny_setField (s:={ s with heap:=s.heap.update it (Obj.mapFields (·.setIfInBounds 0 (rawInt (slotX w ns (i+1))))) }) ho1 hd1 (by simp) ?_)
 have hd2:=Obj.data_mapFields hd1 (·.setIfInBounds 1 (rawInt ((i:Int)+1)))
 refine wpAny_pure ⟨_,rfl,wpAny_pure (h _ ⟨_,Heap.get?_update_self _ ho1 (Obj.isFreed_of_fields hd2),?_,?_⟩ ((Heap.SameBut.update ..).trans (Heap.SameBut.update ..)))⟩
 ·exact (Obj.cls_mapFields ..).trans ((Obj.cls_mapFields ..).trans hc)
 ·rw [hd2];simp -iota [rawInt]
theorem cons_erase {α:Type} {l:List α} {i:Nat} (h:i<l.length):(l[i]::l.eraseIdx i).Perm l:=by
 induction l generalizing i with
 | nil=>exact absurd h (Nat.not_lt_zero i)
 | cons x l ih=>cases i with
  | zero=>exact .refl _
  | succ i=>exact (List.Perm.swap _ _ _).trans (.cons _ (ih (Nat.lt_of_succ_lt_succ h)))
theorem pick_go {next:Nat→Nat} {α:Type} {n:Nat} {left:List α} {k:Nat} {out:Array α} (e:n=left.length):(pickOrder.go next n k left out).toList.Perm (out.toList++left):=by
 induction n generalizing left k out with
 | zero=>cases List.eq_nil_of_length_eq_zero e.symm;rw [List.append_nil];exact .refl _
 | succ n ih =>
  have hlt:next k % left.length<left.length:=Nat.mod_lt _ (e▸Nat.succ_pos n)
  show ((match left[next k % left.length]? with | some x=>pickOrder.go next n (k+1) (left.eraseIdx (next k % left.length)) (out.push x) | none=>out):Array α).toList.Perm _
  rw [List.getElem?_eq_getElem hlt]
  refine (ih (by rw [List.length_eraseIdx_of_lt hlt,← e];rfl)).trans ?_
  rw [Array.toList_push,List.append_assoc]
  exact List.Perm.append_left _ (cons_erase hlt)
theorem ordX_size {a:Addr} {ns:List Int} {es:Array (Int×Value)} {ep:Nat}:(ordX w a ep es).toList.Perm es.toList:=by
 unfold ordX
 split
 ·exact pick_go (out:=#[]) Array.length_toList.symm
 ·exact .refl _
theorem sit_end {it a:Addr} {ns:List Int} {es:Array (Int×Value)} {ep:Nat} {Q:Option Value→Shared→Prop} (hh:A.handled=none) (ok:okSet ns=true) (hit:isSit s.heap it a (slotX w ns ns.length) ns.length es.size ep) (ho:s.heap.get? a=some { cls:=.type "set",dict:=none,data:=.set es ep (setT w ns),slots:=#[] }) (hx:ElX es.toList ns)
  (hv:(ordX w a ep es)[ns.length]?=none) (h:∀ h',Heap.ExtBut it s.heap h'→Q none { s with heap:=h' }):wpAny (model prog w) A (pyNext (.ref it)) Q E s:=by
 obtain ⟨o,hoi,hc,hd⟩:=id hit
 have hT:s.TypeIs (.ref it) "set_iterator":=⟨o,hoi,hc⟩
 have hl:es.size=ns.length:=by rw [← hx.length,Array.length_toList]
 have hf:(setT w ns).fits es.size=true:=by rw [hl];exact setT_fits (okSet_z ok)
 unfold pyNext
 refine wpAny_bind (wpAny_attempt (wpAny_callSpecial?_slot (name:=Str.ofString "__next__") hT slot_sit (wpAny_call_entry slot_sit hT entry_sit ?_ (args_sit _))))
 unfold Builtin.«set_iterator.__next__» slotArgs
 simp -iota only [List.isEmpty_nil,Bool.not_true,Bool.false_eq_true,↓reduceIte,bind_assoc,List.length_nil,bne_self_eq_false]
 refine wpAny_bind (wpAny_pure ?_)
 refine wpAny_bind (wpAny_fieldsOf hoi hd ?_)
 dsimp only
 refine wpAny_bind (wpAny_setEntries_of ho rfl hf ?_)
 rw [if_neg (by simp)]
 simp -iota only [Int.toNat_natCast]
 refine wpAny_bind (setNext_of ok (Nat.le_refl _) ho hx ?_)
 rw [hv]
 show wpAny _ _ (setField (.ref it) 2 .none >>= _) _ _ _
 refine wpAny_bind (wpAny_setField hoi hd (by simp) ?_)
 show wpAny _ _ (newExc (.type "StopIteration") [] >>= _) _ _ _
 refine wpAny_bind ?_
 simp -iota only [newExc,newTuple]
 refine wpAny_bind (wpAny_newObj_type ?_ (by size_fits))
 refine wpAny_bind (m:=firstArgMember _ _) (wpAny_of_eq (a:=Value.none) (by first | rfl | (simp -iota only [firstArgMember];rfl)) ?_)
 refine wpAny_newObj_type ?_ (by size_fits)
 simp -iota only [raiseNew]
 refine wpAny_bind (wpAny_handled ?_)
 rw [show A.in1.handled=none from hh]
 refine wpAny_bind (wpAny_pure (wpAny_throw ?_))
 refine wpAny_bind (wpAny_isInstance (T:="StopIteration") (b:=true) ⟨_,Heap.get?_push_size _ rfl,rfl⟩ isSubtype_stop ?_)
 exact wpAny_pure (h _ (((Heap.SameBut.update ..).extBut.push _).push _))
theorem slot_siti:Slot "set_iterator" "__iter__" "set_iterator.__iter__" :=
 .of (owner:="set_iterator") (n:="__iter__") (by rw [typeLookup_type,builtinLookup_eq_fast];kernel_rfl) (by decide +kernel) (by decide +kernel) (by decide +kernel)
  (by first | exact .inl (by decide +kernel) | exact .inr (by decide +kernel)) (by rw [isSubtype_type];kernel_rfl)
theorem entry_siti:entryFor table "set_iterator.__iter__"=some Builtin.«dict_keyiterator.__iter__» :=
 entryFor_alias (id':="dict_keyiterator.__iter__") (by kernel_rfl) rfl (by decide +kernel) (by kernel_rfl)
theorem args_siti (a:Value):argsOk "set_iterator.__iter__" ⟨[a],[]⟩:=by
 unfold argsOk;rw [signature?_of (id:="set_iterator.__iter__") (n:=['_','_','r','e','t','i','_','_']) (o:=['r','o','t','a','r','e','t','i','_','t','e','s']) (by kernel_rfl) owner_set_iterator];kernel_rfl
theorem sit_self {it a:Addr} {i n ep sl:Nat} (hit:isSit s.heap it a sl i n ep) (h:Q (.ref it) s):wpAny (model prog w) A (pyIter (.ref it)) Q E s:=by
 obtain ⟨o,ho,hc,hd⟩:=hit
 have hT:s.TypeIs (.ref it) "set_iterator":=⟨o,ho,hc⟩
 refine wpAny_pyIter_slot hT slot_siti (wpAny_call_entry slot_siti hT entry_siti ?_ (args_siti _))
 show wpAny _ _ (ret (.ref it)) _ _ s
 exact wpAny_pure ⟨_,rfl,"set_iterator",_,hT,slot_sit.lookup,h⟩
theorem hint_set {r:Addr} {Q:Bool→Shared→Prop} (hT:s.TypeIs (.ref r) "set") (h:Q false s):wpAny (model prog w) A (Builtin.List.listLengthHint (.ref r)) Q E s:=by
 unfold Builtin.List.listLengthHint
 refine wpAny_bind (wpAny_specialOf hT PySem.F.slot_set_len.lookup ?_)
 generalize hid:("set.__len__":String)=id0
 wp_delta
 rw [show splitId id0=some ("set","__len__") from by subst hid;decide +kernel]
 subst hid
 refine wpAny_bind (wpAny_isInstance (T:="set") (b:=true) hT (by rw [isSubtype_type];kernel_rfl) ?_)
 refine wpAny_ite_split (fun hab=>absurd hab (by decide)) (fun _=>?_)
 refine wpAny_ite_split (fun _=>?_) (fun hab=>absurd (by decide +kernel) hab)
 refine wpAny_bind (wpAny_typeOf hT ?_)
 exact wpAny_pure h
theorem set_src {a:Addr} {ns:List Int} {es:Array (Int×Value)} {ep:Nat} (ok:okSet ns=true) (hx:ElX es.toList ns) :
  KdlSrc prog w "set" a a ns.length (fun i v=>((ordX w a ep es)[i]?).map (·.2)=some v) (fun h=>h.get? a=some { cls:=.type "set",dict:=none,data:=.set es ep (setT w ns),slots:=#[] }) where
 type:=fun _ hm=>⟨_,hm,rfl⟩
 there:=fun _ hm=>⟨Heap.lt_size hm,Heap.lt_size hm⟩
 keep:=fun _ _ hm hk=>hk a (.inl rfl) _ hm
 notList:=by decide
 notTuple:=by decide
 hint:=fun _ _ _ _ hm hq=>hint_set ⟨_,hm,rfl⟩ hq
 iter:=fun A s hh hm=>by
  have hne:a≠s.heap.objs.size:=Nat.ne_of_lt (Heap.lt_size hm)
  have hsz:(ordX w a ep es).size=ns.length:=by
   have:=(ordX_size (w:=w) (a:=a) (ns:=ns) (es:=es) (ep:=ep)).length_eq
   rw [Array.length_toList,hx.length] at this;exact this
  refine ⟨_,fun i h=>isSit h s.heap.objs.size a (slotX w ns i) i es.size ep∧h.get? a=some { cls:=.type "set",dict:=none,data:=.set es ep (setT w ns),slots:=#[] },fun E Q hq=>pyIter_set hm hx (okSet_z ok) hq,?_,⟨⟨_,Heap.get?_push_size _ rfl,rfl,?_⟩,Heap.get?_push_of_some _ hm⟩⟩
  ·refine ⟨fun b hb=>by simp at hb;simp -iota [hb],fun i h h' st hk=>⟨?_,hk a (by simp) _ st.2⟩,fun i s' Q E hi st hQ=>?_,fun s' Q E st hQ=>?_,fun i s' Q E st hQ=>?_⟩
   ·obtain ⟨⟨o,ho,r⟩,_⟩:=st
    exact ⟨o,hk _ (by simp) _ ho,r⟩
   ·obtain ⟨x,hv⟩:∃ x,(ordX w a ep es)[i]?=some x:=⟨_,Array.getElem?_eq_getElem (by lia)⟩
    refine sit_item ok hi st.1 st.2 hx hne hv fun h' hit' hs'=>hQ x.2 h' s'.toks (by rw [hv];rfl) ⟨hit',(hs'.2 a hne).trans st.2⟩ fun b o hb e=>(hs'.2 b fun q=>hb (by simp -iota [q])).trans e
   ·refine sit_end hh ok st.1 st.2 hx (Array.getElem?_eq_none (by lia)) fun h' he'=>hQ h' s'.toks fun b o hb e=>he' b o (fun q=>hb (by simp -iota [q])) e
   ·exact sit_self st.1 hQ
  ·show Data.fields _=Data.fields _
   have:slotX w ns 0=0:=by unfold slotX;split<;>rfl
   rw [this];rfl
end
section
variable {prog:Program} {w:World} {A:Around} {E:Value→Shared→Prop} {hE:Heap} {s₀ s:Shared} {mods:List Addr} {R₀ c c' R:List Ch} {K:Frag} {gs bs:Loc} {env:Env} {Q:Value→Shared→Prop}
theorem IntsAre.perm_map {es es':List (Int×Value)} {ns:List Int} (h:ElX es ns) (p:es'.Perm es):∃ ns',IntsAre (es'.map (·.2)) ns'∧ns'.Perm ns:=by
 have all:∀ e∈es,∃ t,e.2=Value.int e.1 t:=by
  clear p
  induction h with
  | nil=>intro e he;cases he
  | cons k t h ih=>intro e he;rcases List.mem_cons.mp he with rfl | he;exact ⟨t,rfl⟩;exact ih e he
 have keys:es.map (·.1)=ns:=by
  clear p all
  induction h with
  | nil=>rfl
  | cons k t h ih=>simp -iota [ih]
 refine ⟨es'.map (·.1),?_,keys▸p.map _⟩
 have all':∀ e∈es',∃ t,e.2=Value.int e.1 t:=fun e he=>all e (p.mem_iff.mp he)
 clear all p keys h
 induction es' with
 | nil=>exact .nil
 | cons e l ih =>
  obtain ⟨t,ht⟩:=all' e (.head _)
  simp -iota only [List.map_cons,ht]
  exact .cons _ t (ih fun e he=>all' e (.tail _ he))
theorem x_set {l:Addr} {vs:List Value} {ns:List Int} (hh:A.handled=none) (S:St w hE s₀ mods R₀ c R s) (I:Has w s₀ mods c R (.lst l vs)) (hi:IntsAre vs ns) (ok:okSet ns=true) (h:∀ s' a,St w hE s₀ mods R₀ (setx w a ns::c) R s'→Q (.ref a) s'):wpAny (model prog w) A (call (.type "set") [.ref l]) Q E s :=
 call_setx hh (lst_isl (I.at_ S)) hi ok fun h' tk hx hk=>h _ _ (S.alloc hk hx (fun a ha=>by simp only [Ch.fp,List.mem_singleton] at ha;subst ha;exact none_at) (by simp [Ch.fp]) rfl rfl rfl)
theorem x_sortset {a:Addr} {ns:List Int} (hh:A.handled=none) (S:St w hE s₀ mods R₀ c R s) (I:Has w s₀ mods c R (setx w a ns)) (ok:okSet ns=true)
  (h:∀ s' d vs' ns',IntsAre vs' ns'→ns'.Perm ns→St w hE s₀ mods R₀ (.lst d vs'::c) R s'→Q (.ref d) s'):wpAny (model prog w) A (call (.builtin "sorted") [.ref a]) Q E s:=by
 obtain ⟨o,ho,es,ep,rfl,hx⟩:=I.at_ S
 refine x_sorted (ns:=ns) (set_src (ep:=ep) ok hx) hh S ho (by first | exact Nat.le_trans (okSet_z ok) (by decide) | exact Nat.lt_of_le_of_lt (okSet_z ok) (by decide)) (fun vs hl hv=>?_) fun s' d vs' ns' a b _=>h s' d vs' ns' a b
 have p:=ordX_size (w:=w) (a:=a) (ns:=ns) (es:=es) (ep:=ep)
 have e:vs=(ordX w a ep es).toList.map (·.2):=by
  apply List.ext_getElem?
  intro j
  have e0:(ordX w a ep es).toList[j]?=(ordX w a ep es)[j]?:=by simp
  have h1:(ordX w a ep es).size=ns.length:=by have:=p.length_eq;rw [Array.length_toList,hx.length] at this;exact this
  rw [List.getElem?_map,e0]
  by_cases hj:j<vs.length
  ·exact ((hv j _ (List.getElem?_eq_getElem hj)).trans (List.getElem?_eq_getElem hj).symm).symm
  ·have h2:(ordX w a ep es)[j]?=none:=Array.getElem?_eq_none (by rw [h1,← hl];exact Nat.not_lt.mp hj)
   have h3:vs[j]?=none:=List.getElem?_eq_none (Nat.not_lt.mp hj)
   rw [h2,h3];rfl
 rw [e]
 exact IntsAre.perm_map hx p
theorem setx_of {h:Heap} {a:Addr} {ns:List Int} (I:(setx w a ns).At w h) (ok:okSet ns=true):h.SetOf (intKind prog w) a (fun k=>ns.contains k) ns.length:=by
 obtain ⟨o,ho,es,ep,rfl,hx⟩:=I
 have hl:es.size=ns.length:=by rw [← hx.length,Array.length_toList]
 have hz:=okSet_z ok
 have z:∀ k∈ns,0≤k∧k<3:=by
  have:ns=[]∨ns=[0]∨ns=[1]∨ns=[2]∨ns=[0,1]∨ns=[0,2]∨ns=[1,2]∨ns=[0,1,2]:=by simpa [okSet] using ok
  rcases this with rfl | rfl | rfl | rfl | rfl | rfl | rfl | rfl<;>decide
 refine ⟨_,es,ep,_,ho,⟨rfl,rfl,rfl⟩,rfl,hx.elems z,fun k=>?_,by rw [hl];unfold scanBound;lia,by rw [hl];exact setT_fits hz,hl⟩
 clear ho hl
 generalize es.toList=l at hx
 clear z hz ok
 induction hx with
 | nil=>simp
 | cons k' t h ih =>
  simp only [List.contains_cons,Bool.or_eq_true] at ih ⊢
  rw [ih]
  constructor
  ·rintro (e | ⟨e,he,r⟩)
   ·exact ⟨_,.head _,by rw [eq_of_beq e];exact intKind_is prog w k' t⟩
   ·exact ⟨e,.tail _ he,r⟩
  ·rintro ⟨e,he,r⟩
   rcases List.mem_cons.mp he with rfl | he
   ·left
    have r':Value.isInt k (.int k' t)=true:=r
    simp only [Value.isInt,beq_iff_eq] at r'
    simp [r']
   ·exact .inr ⟨e,he,r⟩
theorem x_notin {a:Addr} {ns:List Int} {k:Int} {t:Tok} (S:St w hE s₀ mods R₀ c R s) (I:Has w s₀ mods c R (setx w a ns)) (ok:okSet ns=true) (h:∀ s',St w hE s₀ mods R₀ c R s'→Q (.bool (!ns.contains k)) s'):wpAny (model prog w) A (compareOp .NotIn (.int k t) (.ref a)) Q E s :=
 wpAny_notInSet_of (knd:=intKind prog w) (intKind_is prog w k t) rfl (setx_of (I.at_ S) ok) (h _ (S.tok _))
theorem x_len {a:Addr} {ns:List Int} (S:St w hE s₀ mods R₀ c R s) (I:Has w s₀ mods c R (setx w a ns)) (ok:okSet ns=true) (h:∀ s' t,St w hE s₀ mods R₀ c R s'→Q (.int ns.length t) s'):wpAny (model prog w) A (call (.builtin "len") [.ref a]) Q E s:=by
 obtain ⟨o,ho,es,ep,rfl,hx⟩:=I.at_ S
 have hl:es.size=ns.length:=by rw [← hx.length,Array.length_toList]
 have hz:=okSet_z ok
 refine call_len_set ho ⟨rfl,rfl,rfl⟩ rfl (by rw [hl];exact setT_fits hz) (by lia) ?_
 rw [hl]
 exact h _ _ ((S.tok _).tok _)
end
end Nt
open PySem.SeqAt PySem.MeetsSeq
set_option maxHeartbeats 4000000
namespace Nt
section
variable {prog:Program} {w:World} {A:Around} {E:Value→Shared→Prop} {hE:Heap} {s₀ s:Shared} {mods:List Addr} {R₀ c c' R:List Ch}
theorem t_of {a:Addr} {vs:List Value} {Q:Value→Shared→Prop} (S:St w hE s₀ mods R₀ c R s) (Ha:Has w s₀ mods c R (.lst a vs)) (hz:vs.length≤1000)
  (h:∀ s' d,St w hE s₀ mods R₀ (.tup d vs::c) R s'→Q (.ref d) s'):wpAny (model prog w) A (call (.type "tuple") [.ref a]) Q E s:=by
 refine call_tuple_list (lst_isl (Ha.at_ S)) (fun h' hk=>?_) (by rw [List.size_toArray,sizeLine_eq];lia)
 have S':St w hE s₀ mods R₀ c R { s with heap:=h' }:=S.more hk rfl rfl rfl
 exact h _ _ (S'.alloc (fun b o e=>Heap.get?_push_of_some _ e) ⟨0,Heap.get?_push_size _ rfl⟩ (fun a ha=>by simp only [Ch.fp,List.mem_singleton] at ha;subst ha;exact none_at) (by simp [Ch.fp]) rfl rfl rfl)
theorem t_add {a b:Addr} {vs ws:List Value} {Q:Value→Shared→Prop} (S:St w hE s₀ mods R₀ c R s) (Ha:Has w s₀ mods c R (.tup a vs)) (Hb:Has w s₀ mods c R (.tup b ws)) (h1:vs≠[]) (h2:ws≠[]) (hz:vs.length+ws.length≤1000)
  (h:∀ s' d,St w hE s₀ mods R₀ (.tup d (vs++ws)::c) R s'→Q (.ref d) s'):wpAny (model prog w) A (binaryOp .Add (.ref a) (.ref b)) Q E s:=by
 obtain ⟨n,ho⟩:=Ha.at_ S
 obtain ⟨n2,ho2⟩:=Hb.at_ S
 refine PySem.P.add_tuple (items:=vs.toArray) (items2:=ws.toArray) ho ho2 (by simpa using h1) (by simpa using h2) ?_ (by rw [List.size_toArray,List.size_toArray,sizeLine_eq];lia)
 have e:vs.toArray++ws.toArray=(vs++ws).toArray:=by simp
 rw [e]
 exact h _ _ (S.alloc (fun b o e=>Heap.get?_push_of_some _ e) ⟨0,Heap.get?_push_size _ rfl⟩ (fun a ha=>by simp only [Ch.fp,List.mem_singleton] at ha;subst ha;exact none_at) (by simp [Ch.fp]) rfl rfl rfl)
theorem l_neg {l:Addr} {vs:List Value} {k:Int} {u:Tok} {v:Value} {value slice:Expr} {Q:Value→Shared→Prop} (S:St w hE s₀ mods R₀ c R s) (I:Has w s₀ mods c R (.lst l vs)) (h0:k<0) (hk:-(2 ^ 63)≤k) (hlo:0≤k+vs.length) (hx:vs[(k+vs.length).toNat]?=some v) (h:Q v s)
  (hs:subscripted slice false (.ref l) (.int k u)=operate [.ref l,.int k u] (getItem (.ref l) (.int k u))) :
  wpAny (model prog w) A (subscriptTail value slice (.ref l) (.int k u)) Q E s:=by
 refine kde_neg (j:=(k+vs.length).toNat) (lst_isl (I.at_ S)) h0 hk ?_ hx h hs
 unfold seqIndex?
 rw [if_pos h0,if_pos (by simp -iota only [Bool.and_eq_true,decide_eq_true_eq];lia)]
noncomputable def Pl (v u:Value):Prop:=(v=.none∧u=.none)∨(∃ i t t',v=.int i t∧u=.int i t')∨(∃ x t t',v=.str x t∧u=.str x t')∨(∃ b,v=.bool b∧u=.bool b)
noncomputable def Tw (R:List Ch):Nat→Value→Value→Prop
 | 0,v,u=>Pl v u
 | n+1,v,u=>Pl v u∨∃ a b vs ws,v=.ref a∧u=.ref b∧Ch.tup a vs∈R∧Ch.tup b ws∈R∧vs.length=ws.length∧∀ (j:Nat) (x y:Value),vs[j]?=some x→ws[j]?=some y→Tw R n x y
theorem Pl.eqAt {v u:Value} (h:Pl v u) (A:Around) (s:Shared):EqAt A s v u true:=by
 rcases h with ⟨rfl,rfl⟩ | ⟨i,t,t',rfl,rfl⟩ | ⟨x,t,t',rfl,rfl⟩ | ⟨b,rfl,rfl⟩
 ·exact EqAt.same _
 ·have:=(EqGives.int i i t t').at A s;simpa using this
 ·have:=(eqGives_str x x t t').at A s;simpa using this
 ·exact EqAt.same _
theorem Tw.eqAt {R:List Ch} (hf:∀ p∈R,p.At w s.heap) {n:Nat} {A:Around} {v u:Value} (h:Tw R n v u) (hu:A.units+n<cLine):EqAt A s v u true:=by
 induction n generalizing A v u with
 | zero=>exact Pl.eqAt h A s
 | succ n ih =>
  rcases h with h | ⟨a,b,vs,ws,rfl,rfl,h3,h4,h5,h6⟩
  ·exact Pl.eqAt h A s
  ·by_cases e:a=b
   ·cases e;exact EqAt.same _
   ·have e1:((List.range (min vs.toArray.size ws.toArray.size)).all (fun _=>true)&&vs.toArray.size==ws.toArray.size)=true:=by simp -iota [h5]
    refine .of_refs e (e1▸RcAt.tuples (tup_ist (hf _ h3)) (tup_ist (hf _ h4)) (Nat.lt_of_le_of_lt (Nat.le_add_right _ _) hu) fun j k1 k2=>ih (h6 j _ _ (List.getElem?_eq_getElem k1) (List.getElem?_eq_getElem k2)) ?_)
    show A.units+1+n<cLine
    rw [Nat.add_assoc,Nat.add_comm 1];exact hu
theorem ne_same {l b:Addr} {vs ws:List Value} {n:Nat} {Q:Value→Shared→Prop} (hl:(Ch.lst l vs).At w s.heap) (hb:(Ch.lst b ws).At w s.heap) (hf:∀ p∈R,p.At w s.heap) (hz:vs.length=ws.length) (ht:∀ (j:Nat) (x y:Value),vs[j]?=some x→ws[j]?=some y→Tw R n x y) (hu:A.units+1+n<cLine)
  (h:Q (.bool false) s):wpAny (model prog w) A (compareOp .NotEq (.ref l) (.ref b)) Q E s:=by
 have e1:(!(List.range vs.toArray.size).all (fun _=>true))=false:=by simp
 refine RcNeAt.lists (e:=fun _=>true) (lst_isl hl) (lst_isl hb) (by simpa using hz) (Nat.lt_of_le_of_lt (Nat.le_trans (Nat.le_add_right _ 1) (Nat.le_add_right _ n)) hu) (fun j k1 k2=>?_) prog w E Q (by rw [e1];exact h)
 rw [List.size_toArray] at k1 k2
 refine Tw.eqAt hf (ht j _ _ (List.getElem?_eq_getElem k1) (List.getElem?_eq_getElem k2)) ?_
 exact hu
end
end Nt
set_option backward.match.sparseCases false
namespace Ev
open Nt
set_option genCtorIdx false in
inductive TV where
 | none | bool (b:Bool) | int (i:Int) | str (x:Str) | val (v:Value)
 | tup (l:List TV) | lst (l:List TV) | obj (C:Nat) (xs:List Nat) (vs:List TV) | dic (ks:List Int) (vs:List TV) | set (l:List Int)
set_option genCtorIdx false in
inductive AV where
 | t (v:TV) | ref (n:Nat)
set_option genCtorIdx false in
inductive MO where
 | lst (l:List AV) | tup (l:List AV) | fl (l:List AV) | inst (C:Nat) (xs:List Nat) (vs:List AV) | dic (ks:List Int) (vs:List AV) | set (l:List Int) | pool | fz (v:TV) | dead
noncomputable abbrev Fr:=List (Nat×AV)
noncomputable abbrev Mem:=List MO
set_option genCtorIdx false in
inductive O1 where
 | isN | isNN | neg | len | any | all | bool | int | list | tuple | sorted | set | str | nnil | enil | isInt | isStr | zz (n:Nat)
set_option genCtorIdx false in
inductive O2 where
 | eqZ | eqI | neI | ltI | leI | gtI | geI | eqN | eqS | neS | eqB | neB | inS | inI | niI | inD | inQ | niQ | inG | niG | niX | eqR | ltR | gtR | neL
 | add | addS | addL | addT | sub | mul | fdiv | mod | pow | mulL | max | min | upto | chr | isi | zz (n:Nat)
set_option genCtorIdx false in
inductive CE where
 | nm (x:Nat) | nc (x:Nat) | k (v:TV) | att (e:CE) (x:Nat) | sub (e i:CE) | turn (e:CE)
 | o1 (o:O1) (a:CE) | o2 (o:O2) (a b:CE) | and (a b:CE) | or (a b:CE) | ife (t a b:CE)
 | tand (a b:CE) | tor (a b:CE) | tnot (a:CE) | tt | ff | te (a:CE)
 | nil | cons (a b:CE)
 | list (l:CE) | lstF (l:CE) | tup (l:CE) | tupM (l:CE) | dict
 | comp (elt:CE) (tg:List Nat) (one rg:Bool) (it cd:CE) | compH (elt:CE) (tg:List Nat) (one:Bool) (it cd:CE)
 | call (f:Nat) (as:CE) | fcall (p:Bool) (f:Nat) (as:CE) | meth (e:CE) (x:Nat) (as:CE) | fmeth (e:CE) (x:Nat) (as:CE)
 | app (o e:CE) | pop (o:CE) | dget (o i:CE) | fz (e:CE) | mkp (e:CE) | stop
set_option genCtorIdx false in
inductive CS where
 | nil | cons (a b:CS)
 | as (t e:CE) | un (ts e:CE) | unt (rev:Bool) (ts es:CE) | ex (e:CE) | ifs (t:CE) (a b:CS)
 | for_ (gc:Nat) (tg:List Nat) (one rg:Bool) (e:CE) (b:CS) | wh (t:CE) (b:CS) | ret (e:CE) | ret0 | brk | cont
 | kp (xs:List Nat) | kc (xs:List Nat) | fzv (x:Nat) | fzn (n:Nat) | shf (x:Nat) | lab (b:CS) | stop
structure Lab (p:Prop):Prop where
 run:p
set_option genCtorIdx false in
inductive Fl where
 | next | brk | cont | ret (v:AV)
noncomputable def atT:List (Nat×List Nat):=[(90,[17]),(116,[22,37,43,21,55,56,44]),(168,[16,9,10]),(194,[17,28,29,78]),(220,[17,19,78]),(581,[21,16,17,56,44]),(624,[11,92,16,93,10]),(712,[58,38,33,97,28,29,98,99,100,101,42,102,31,32,35]),(825,[9]),(867,[43,27,53,107,60]),(893,[54,108,109,35]),(929,[60,53]),(976,[15,57,22,41,79,58,59,60,112]),(1018,[7,6,56,44,113,114]),(1051,[7,22,115,41,116,117,118]),(1091,[7,115,41,119,120,121,118,122])]
noncomputable def atL:List (Nat×List Nat)→Nat→List Nat
 | [],_=>[]
 | (D,l)::r,C=>match Nat.beq D C with | true=>l | false=>atL r C
noncomputable def atI (C:Nat):List Nat:=atL atT C
noncomputable def mtab:List (Nat×Nat×Nat):=[(90,71,87),(116,71,113),(168,71,165),(194,71,191),(220,71,217),(624,133,604),(624,147,611),(624,149,616),(624,145,621),
 (712,143,695),(712,138,702),(929,140,916),(929,109,921),(929,110,926),(1051,72,1048)]
noncomputable abbrev brN (b:Bool) (p q:Prop):Prop:=match b with | true=>p | false=>q
noncomputable def methK (C x:Nat) (k:Nat→Prop):List (Nat×Nat×Nat)→Prop
 | []=>False
 | (D,y,f)::l=>brN (Nat.beq D C) (brN (Nat.beq y x) (k f) (methK C x k l)) (methK C x k l)
noncomputable def mnames (C:Nat):List Nat:=(mtab.filter fun q=>Nat.beq q.1 C).map (·.2.1)
noncomputable def numT:List Str:=["integer","numeric"]
noncomputable def turnT:List (Str×Str):=[("=","="),("<",">"),("<=",">="),(">","<"),(">=","<=")]
noncomputable def lookK {α:Type}:List (Nat×α)→Nat→(α→Prop)→Prop
 | [],_,_=>False
 | (y,v)::m,x,k=>brN (Nat.beq y x) (k v) (lookK m x k)
noncomputable def nthK {α:Type}:List α→Nat→(α→Prop)→Prop
 | [],_,_=>False
 | a::_,0,k=>k a
 | _::l,n+1,k=>nthK l n k
noncomputable def setK {α:Type}:List α→Nat→α→(List α→Prop)→Prop
 | [],_,_,_=>False
 | _::l,0,b,k=>k (b::l)
 | a::l,n+1,b,k=>setK l n b fun l'=>k (a::l')
noncomputable def putK {α:Type}:List (Nat×α)→Nat→α→(List (Nat×α)→Prop)→Prop
 | [],x,v,k=>k [(x,v)]
 | (y,u)::m,x,v,k=>brN (Nat.beq y x) (k ((y,v)::m)) (putK m x v fun m'=>k ((y,u)::m'))
noncomputable def snocK {α:Type}:List α→α→(Nat→List α→Prop)→Prop
 | [],b,k=>k 0 [b]
 | a::l,b,k=>snocK l b fun n l'=>k (Nat.succ n) (a::l')
noncomputable def brK:Bool→Prop→Prop→Prop
 | true,p,_=>p
 | false,_,q=>q
noncomputable def fldK {α:Type}:List Nat→List α→Nat→(α→Prop)→Prop
 | y::xs,v::vs,x,k=>brN (Nat.beq y x) (k v) (fldK xs vs x k)
 | y::xs,[],_,_=>False
 | [],_,_,_=>False
noncomputable def putF {α:Type}:List Nat→List α→Nat→α→(List Nat→List α→Prop)→Prop
 | y::xs,u::us,x,v,k=>brN (Nat.beq y x) (k (y::xs) (v::us)) (putF xs us x v fun xs us'=>k (y::xs) (u::us'))
 | [],[],x,v,k=>k [x] [v]
 | [],_::_,_,_,_=>False
 | _::_,[],_,_,_=>False
noncomputable def memN:List Nat→Nat→Bool
 | [],_=>false
 | y::l,x=>match Nat.beq y x with | true=>true | false=>memN l x
noncomputable def shortK {α:Type}:Nat→List α→Bool
 | _,[]=>true
 | 0,_::_=>false
 | n+1,_::l=>shortK n l
noncomputable def treesK:List AV→(List TV→Prop)→Prop
 | [],k=>k []
 | v::l,k=>match v with | .t v=>treesK l fun vs=>k (v::vs) | _=>False
noncomputable def obT (v:TV) (k:MO→Prop):Prop:=match v with
 | .lst l=>k (.lst (l.map .t)) | .tup l=>k (.tup (l.map .t)) | .obj C xs vs=>k (.inst C xs (vs.map .t)) | .dic ks vs=>k (.dic ks (vs.map .t)) | .set l=>k (.set l)
 | _=>False
noncomputable def obK (mem:Mem) (v:AV) (k:MO→Prop):Prop:=match v with
 | .t v=>obT v k
 | .ref n=>nthK mem n fun o=>match o with
  | .fz v=>obT v k
  | .fl l=>k (.lst l)
  | o=>k o
noncomputable def attK (mem:Mem) (v:AV) (x:Nat) (k:AV→Prop):Prop:=obK mem v fun o=>match o with | .inst _ xs vs=>fldK xs vs x k | _=>False
noncomputable def lstT (mem:Mem) (v:AV) (k:List TV→Prop):Prop:=match v with
 | .t v=>(match v with | .lst l=>k l | _=>False)
 | v=>obK mem v fun o=>match o with | .lst l=>treesK l k | _=>False
noncomputable def tupT (v:AV) (k:List TV→Prop):Prop:=match v with
 | .t v=>(match v with | .tup l=>k l | _=>False)
 | _=>False
noncomputable def seqT (mem:Mem) (v:AV) (k:List TV→Prop):Prop:=match v with
 | .t v=>(match v with | .tup l=>k l | .lst l=>k l | _=>False)
 | v=>obK mem v fun o=>match o with | .lst l=>treesK l k | _=>False
noncomputable def tupK (mem:Mem) (v:AV) (k:List AV→Prop):Prop:=obK mem v fun o=>match o with | .tup l=>k l | _=>False
noncomputable def intK (v:AV) (k:Int→Prop):Prop:=match v with | .t v=>(match v with | .int i=>k i | _=>False) | _=>False
noncomputable def strK (v:AV) (k:Str→Prop):Prop:=match v with | .t v=>(match v with | .str i=>k i | _=>False) | _=>False
noncomputable def boolK (v:AV) (k:Bool→Prop):Prop:=match v with | .t v=>(match v with | .bool i=>k i | _=>False) | _=>False
noncomputable def valK (v:AV) (k:Nat→Prop):Prop:=match v with | .t v=>(match v with | .val u=>(match u with | .ref a=>k a | _=>False) | _=>False) | _=>False
noncomputable def intT:List TV→(List Int→Prop)→Prop
 | [],k=>k []
 | v::l,k=>match v with | .int i=>intT l fun is=>k (i::is) | _=>False
noncomputable def strT:List TV→(List Str→Prop)→Prop
 | [],k=>k []
 | v::l,k=>match v with | .str i=>strT l fun is=>k (i::is) | _=>False
noncomputable def boolT:List TV→(List Bool→Prop)→Prop
 | [],k=>k []
 | v::l,k=>match v with | .bool i=>boolT l fun is=>k (i::is) | _=>False
noncomputable def nvB:TV→Bool
 | .val _=>false
 | _=>true
noncomputable def isNB:TV→Bool
 | .none=>true
 | _=>false
noncomputable def isNone (v:AV) (k:Bool→Prop):Prop:=match v with
 | .ref _=>k false
 | .t v=>brK (nvB v) (k (isNB v)) False
noncomputable def truK (v:AV) (k:Bool→Prop):Prop:=match v with
 | .t v=>(match v with | .bool b=>k b | .none=>k false | .str x=>k ((x.length:Int) != 0) | _=>False)
 | _=>False
noncomputable def oneK (vs:List AV) (k:AV→Prop):Prop:=match vs with | [v]=>k v | _=>False
noncomputable def bitK (vs:List AV) (k:Bool→Prop):Prop:=match vs with | [v]=>boolK v k | _=>False
noncomputable def turnK (x:Str):List (Str×Str)→(Str→Prop)→Prop
 | [],_=>False
 | (y,z)::l,k=>brK (y==x) (k z) (turnK x l k)
noncomputable def dictT (v:AV) (k:List Int→List TV→Prop):Prop:=match v with
 | .t v=>(match v with | .dic ks l=>k ks l | _=>False)
 | _=>False
noncomputable def c1 {α:Type} (l:List α) (f:α→List α→Prop):Prop:=match l with | []=>False | a::l=>f a l
noncomputable def n1 {α:Type} (l:List α) (f:Prop):Prop:=match l with | []=>f | _::_=>False
noncomputable def two {α:Type} (l:List α) (k:α→α→Prop):Prop:=c1 l fun a l=>c1 l fun b l=>n1 l (k a b)
noncomputable def tri3 (l:List TV) (k:Int→Int→Str→Prop):Prop:=c1 l fun a l=>c1 l fun b l=>c1 l fun x l=>n1 l (intK (.t a) fun a=>intK (.t b) fun b=>strK (.t x) fun x=>k a b x)
noncomputable def rkK (u v:AV) (k:Bool→Bool→Bool→Prop):Prop:=tupT u fun l=>tri3 l fun a b x=>tupT v fun l'=>tri3 l' fun c d y =>
 (x=y∨a≠c)∧k (a==c&&b==d&&x==y) (decide (a<c)||(a==c&&decide (b<d))) (decide (c<a)||(a==c&&decide (d<b)))
noncomputable def nthN (l:List AV) (n:Nat) (k:AV→Prop):Prop:=brK (Nat.ble n 1000) (nthK l n k) False
noncomputable def nthI (l:List AV) (i:Int) (k:AV→Prop):Prop:=brK (decide (0≤i)) (nthN l i.toNat k) (nthN l.reverse (Nat.pred (-i).toNat) k)
noncomputable def dgetK {α:Type}:List Int→List α→Int→(Option α→Prop)→Prop
 | y::ks,v::vs,i,k=>brK (decide (y=i)) (k (some v)) (dgetK ks vs i k)
 | [],[],_,k=>k none
 | _,_,_,_=>False
noncomputable abbrev poolI (i:Int) (p q:Prop):Prop:=brK (decide (i=0)) p (brK (decide (i=1)) q False)
noncomputable def subK (mem:Mem) (v j:AV) (k:AV→Prop):Prop:=intK j fun i=>match v with
 | .t v=>(match v with | .lst l=>nthI (l.map .t) i k | .tup l=>brK (decide (0≤i)) (nthN (l.map .t) i.toNat k) False | .dic ks vs=>dgetK ks vs i fun u=>(match u with | some u=>k (.t u) | none=>False) | _=>False)
 | .ref n=>nthK mem n fun o=>match o with
  | .lst l=>nthI l i k
  | .dic ks vs=>dgetK ks vs i fun u=>(match u with | some u=>k u | none=>False)
  | .pool=>poolI i (∀ a:Int,k (.t (.int a))) (∀ a:Int,0≤a→a<2147483647→k (.t (.int a)))
  | _=>False
noncomputable def dstoreK {α:Type}:List Int→List α→Int→α→(List Int→List α→Prop)→Prop
 | y::ks,u::us,i,v,k=>brK (decide (y=i)) (brK (ks.any fun z=>decide (z=i)) False (k (y::ks) (v::us))) (dstoreK ks us i v fun ks us'=>k (y::ks) (u::us'))
 | [],[],i,v,k=>k [i] [v]
 | _,_,_,_,_=>False
noncomputable def lenO (o:MO) (k:Nat→Prop):Prop:=match o with | .lst l=>k l.length | .tup l=>k l.length | .set l=>k l.length | _=>False
noncomputable def isTK (v:AV) (int:Bool) (k:TV→Prop):Prop:=match v with
 | .t v=>(match v with | .int _=>k (.bool int) | .str _=>k (.bool (!int)) | _=>False)
 | _=>False
noncomputable def op1 (o:O1) (mem:Mem) (u:AV) (k:TV→Prop):Prop:=match o with
 | .isN=>isNone u fun b=>k (.bool b)
 | .isNN=>isNone u fun b=>k (.bool (!b))
 | .neg=>intK u fun i=>k (.int (-i))
 | .len=>(match u with | .t v=>(match v with | .lst l=>k (.int l.length) | .tup l=>k (.int l.length) | .set l=>k (.int l.length) | _=>False) | u=>obK mem u fun o=>lenO o fun n=>k (.int n))
 | .any=>lstT mem u fun l=>boolT l fun bs=>k (.bool (bs.any id))
 | .all=>lstT mem u fun l=>boolT l fun bs=>k (.bool (bs.all id))
 | .bool=>(match u with | .t v=>(match v with | .bool b=>k (.bool b) | .none=>k (.bool false) | _=>False) | _=>False)
 | .int=>(match u with | .t v=>(match v with | .int i=>k (.int i) | .bool b=>k (.int (if b then 1 else 0)) | _=>False) | _=>False)
 | .list=>lstT mem u fun l=>k (.lst l)
 | .tuple=>lstT mem u fun l=>k (.tup l)
 | .sorted=>obK mem u fun o=>(match o with
  | .dic ks _=>shortK 60 ks=true∧∀ ns:List Int,ns.Perm ks→ns.Pairwise (·≤·)→k (.lst (ns.map .int))
  | .set ks=>∀ ns:List Int,ns.Perm ks→k (.lst (ns.map .int))
  | _=>False)
 | .set=>lstT mem u fun l=>intT l fun ns=>okSet ns=true∧k (.set ns)
 | .str=>intK u fun i=>(0≤i∧i<3)∧k (.str ⟨#[48+i.toNat]⟩)
 | .isInt=>isTK u true k
 | .isStr=>isTK u false k
 | .nnil=>lstT mem u fun l=>k (.bool (!l.isEmpty))
 | .enil=>lstT mem u fun l=>k (.bool l.isEmpty)
 | .zz _=>False
noncomputable def ngK (b d:Bool) (k:TV→Prop):Prop:=match b with | true=>k (.bool (!d)) | false=>k (.bool d)
noncomputable def inGK (n:Bool) (u v:AV) (k:TV→Prop):Prop:=valK v fun a=>brN (Nat.beq a 455) (match u with | .t u=>(match u with | .none=>ngK n false k | .str x=>ngK n (numT.any (·==x)) k | _=>False) | _=>False) False
noncomputable def isl:List Nat:=[90,116,168,194,220]
noncomputable def clsT:List TV→(List Nat→Prop)→Prop
 | [],k=>k []
 | v::l,k=>match v with | .val w=>(match w with | .ref D=>brK (memN Nt.exCls D) (clsT l fun Ds=>k (D::Ds)) False | _=>False) | _=>False
noncomputable def plainB (t:TV):Bool:=match t with | .none=>true | .bool _=>true | .int _=>true | .str _=>true | _=>false
noncomputable def rowB:Nat→TV→Bool
 | 0,t=>plainB t
 | n+1,t=>match t with | .tup l=>l.all (rowB n) | t=>plainB t
noncomputable def op2 (o:O2) (mem:Mem) (u v:AV) (k:TV→Prop):Prop:=match o with
 | .eqZ=>strK v fun b=>(match u with | .t u=>(match u with | .none=>k (.bool false) | .str a=>k (.bool (a==b)) | _=>False) | _=>False)
 | .eqI=>intK u fun a=>intK v fun b=>k (.bool (a==b))
 | .neI=>intK u fun a=>intK v fun b=>k (.bool (a != b))
 | .ltI=>intK u fun a=>intK v fun b=>k (.bool (decide (a<b)))
 | .leI=>intK u fun a=>intK v fun b=>k (.bool (decide (a≤b)))
 | .gtI=>intK u fun a=>intK v fun b=>k (.bool (decide (b<a)))
 | .geI=>intK u fun a=>intK v fun b=>k (.bool (decide (b≤a)))
 | .eqN=>intK u fun _=>isNone v fun b=>brK b (k (.bool false)) False
 | .eqS=>strK u fun a=>strK v fun b=>k (.bool (a==b))
 | .neS=>strK u fun a=>strK v fun b=>k (.bool (a != b))
 | .eqB=>boolK u fun a=>boolK v fun b=>k (.bool (a==b))
 | .neB=>boolK u fun a=>boolK v fun b=>k (.bool (a != b))
 | .inS=>strK u fun x=>seqT mem v fun l=>strT l fun ys=>k (.bool (ys.any (·==x)))
 | .inI=>intK u fun x=>lstT mem v fun l=>intT l fun ys=>k (.bool (ys.any (·==x)))
 | .niI=>intK u fun x=>lstT mem v fun l=>intT l fun ys=>k (.bool (!(ys.any (·==x))))
 | .inD=>intK u fun x=>obK mem v fun o=>(match o with | .dic ks _=>k (.bool (ks.any (·==x))) | _=>False)
 | .inQ=>strK u fun x=>valK v fun a=>brN (Nat.beq a 540) (k (.bool (turnT.any (·.1==x)))) False
 | .niQ=>strK u fun x=>valK v fun a=>brN (Nat.beq a 540) (k (.bool (!(turnT.any (·.1==x))))) False
 | .inG=>inGK false u v k
 | .niG=>inGK true u v k
 | .niX=>intK u fun x=>obK mem v fun o=>(match o with | .set ks=>k (.bool (!(ks.contains x))) | _=>False)
 | .eqR=>rkK u v fun e _ _=>k (.bool e)
 | .ltR=>rkK u v fun _ l _=>k (.bool l)
 | .gtR=>rkK u v fun _ _ g=>k (.bool g)
 | .neL=>lstT mem u fun l=>lstT mem v fun l'=>(l=l'∧∀ t∈l,rowB 4 t=true)∧k (.bool false)
 | .add=>intK u fun a=>intK v fun b=>k (.int (a+b))
 | .addS=>strK u fun a=>strK v fun b=>a.length+b.length≤1000∧k (.str (a++b))
 | .addL=>lstT mem u fun l=>lstT mem v fun l'=>l.length+l'.length≤1000∧k (.lst (l++l'))
 | .addT=>tupT u fun l=>tupT v fun l'=>(l≠[]∧l'≠[]∧l.length+l'.length≤1000)∧k (.tup (l++l'))
 | .sub=>intK u fun a=>intK v fun b=>k (.int (a - b))
 | .mul=>intK u fun a=>intK v fun b=>IntMulOk a b∧k (.int (a * b))
 | .fdiv=>intK u fun a=>intK v fun b=>(b≠0∧Builtin.divisionGoesByPylong a b=false)∧k (.int (a.fdiv b))
 | .mod=>intK u fun a=>intK v fun b=>b≠0∧k (.int (a.fmod b))
 | .pow=>intK u fun a=>intK v fun b=>(0≤b∧(Builtin.Int.intBits a:Int) * b≤2 ^ 27)∧k (.int (a ^ b.toNat))
 | .mulL=>lstT mem u fun l=>intK v fun i=>(0≤i∧i≤100∧l.length≤10)∧k (.lst (List.replicate i.toNat l).flatten)
 | .max=>intK u fun a=>intK v fun b=>k (.int (if b > a then b else a))
 | .min=>intK u fun a=>intK v fun b=>k (.int (if b<a then b else a))
 | .upto=>lstT mem u fun l=>intK v fun i=>(0≤i∧i≤l.length)∧k (.lst (l.take i.toNat))
 | .isi=>obK mem u fun o=>(match o with
  | .inst C _ _=>brK (memN isl C) (match v with
   | .t v=>(match v with
    | .val w=>(match w with | .ref D=>brK (memN Nt.exCls D) (k (.bool (Nat.beq C D))) False | _=>False)
    | .tup l=>clsT l fun Ds=>k (.bool (memN Ds C))
    | _=>False)
   | _=>False) False
  | _=>False)
 | .chr=>strK u fun a=>intK v fun i=>(a="xyz"∧0≤i∧i<3)∧k (.str ⟨#[120+i.toNat]⟩)
 | .zz _=>False
noncomputable def resA (mem:Mem) (v:AV) (k:TV→Prop):Prop:=match v with
 | .t v=>k v
 | .ref m=>nthK mem m fun o=>match o with | .fz v=>k v | _=>False
noncomputable def resL (mem:Mem):List AV→(List TV→Prop)→Prop
 | [],k=>k []
 | v::l,k=>resA mem v fun u=>resL mem l fun us=>k (u::us)
noncomputable def resO (mem:Mem) (o:MO) (k:TV→Prop):Prop:=match o with
 | .fz v=>k v
 | .lst l=>resL mem l fun us=>k (.lst us)
 | .fl l=>resL mem l fun us=>k (.lst us)
 | .tup l=>resL mem l fun us=>k (.tup us)
 | .inst C xs l=>resL mem l fun us=>k (.obj C xs us)
 | .dic ks l=>resL mem l fun us=>k (.dic ks us)
 | _=>False
noncomputable def kids:MO→List AV
 | .lst l=>l | .fl l=>l | .tup l=>l | .inst _ _ l=>l | .dic _ l=>l | _=>[]
noncomputable def fzc (f:Mem→AV→(TV→Mem→Prop)→Prop):List AV→Mem→(Mem→Prop)→Prop
 | [],mem,k=>k mem
 | v::l,mem,k=>f mem v fun _ mem=>fzc f l mem k
noncomputable def fzK:Nat→Mem→AV→(TV→Mem→Prop)→Prop
 | 0,_,_,_=>False
 | d+1,mem,v,k=>match v with
  | .t v=>k v mem
  | .ref n=>nthK mem n fun o=>fzc (fzK d) (kids o) mem fun mem=>nthK mem n fun o=>resO mem o fun t=>setK mem n (.fz t) fun mem=>k t mem
noncomputable def mem0 (p:Bool):Mem:=match p with | true=>[.pool] | false=>[]
noncomputable def arg0 (p:Bool) (ts:List TV):List AV:=match p with | true=>.ref 0::ts.map .t | false=>ts.map .t
noncomputable def objK (ss:List TV) (k:Nat→List Nat→List TV→Prop):Prop:=match ss with | [.obj C xs l]=>k C xs l | _=>False
noncomputable def okP (p:Bool) (mem:Mem) (q:Prop):Prop:=match p with | false=>q | true=>(match mem with | .pool::_=>q | _=>False)
noncomputable def lendK (p:Bool) (mem:Mem) (vs:List AV) (k:List TV→Prop):Prop:=match p with
 | false=>treesK vs k
 | true=>(match vs,mem with | .ref 0::vs,.pool::_=>treesK vs k | _,_=>False)
noncomputable def srcK (rg:Bool) (mem:Mem) (v:AV) (k:List AV→Prop):Prop:=match rg with
 | true=>intK v fun i=>(0≤i∧i≤1000)∧k ((List.range i.toNat).map fun (n:Nat)=>AV.t (.int n))
 | false=>match v with
  | .t v=>(match v with | .lst l=>k (l.map .t) | .tup l=>k (l.map .t) | _=>False)
  | .ref n=>nthK mem n fun o=>match o with | .fl l=>k l | _=>False
noncomputable def srcL (rg:Bool) (v:AV) (k:List AV→Prop):Prop:=match rg with
 | true=>intK v fun i=>(0≤i∧i≤1000)∧k ((List.range i.toNat).map fun (n:Nat)=>AV.t (.int n))
 | false=>match v with
  | .t v=>(match v with | .lst l=>k (l.map .t) | _=>False)
  | _=>False
noncomputable def bindK:List Nat→List AV→Fr→(Fr→Prop)→Prop
 | [],[],fr,k=>k fr
 | x::xs,v::vs,fr,k=>putK fr x v fun fr=>bindK xs vs fr k
 | _,_,_,_=>False
noncomputable def tgK (mem:Mem) (tg:List Nat) (one:Bool) (v:AV) (fr:Fr) (k:Fr→Prop):Prop:=match one with
 | true=>bindK tg [v] fr k
 | false=>tupK mem v fun l=>bindK tg l fr k
noncomputable def compL (turn:AV→Mem→(List TV→Mem→Prop)→Prop):List AV→List TV→Mem→(List TV→Mem→Prop)→Prop
 | [],acc,mem,k=>k acc mem
 | v::l,acc,mem,k=>turn v mem fun us mem=>compL turn l (acc++us) mem k
noncomputable def nrmK (n:Nat) (mem:Mem) (v:AV) (k:AV→Prop):Prop:=match v with
 | .t v=>k (.t v)
 | .ref i=>nthK mem i fun o=>match o with | .fz v=>k (.t v) | _=>brK (Nat.blt i n) (k (.ref i)) False
noncomputable def nrmL (n:Nat) (mem:Mem):List AV→(List AV→Prop)→Prop
 | [],k=>k []
 | v::l,k=>nrmK n mem v fun v=>nrmL n mem l fun l=>k (v::l)
noncomputable def nrmF (n:Nat) (mem:Mem):Fr→(Fr→Prop)→Prop
 | [],k=>k []
 | (x,v)::l,k=>nrmK n mem v fun v=>nrmF n mem l fun l=>k ((x,v)::l)
noncomputable def nrmM (n:Nat) (mem:Mem) (o:MO) (k:MO→Prop):Prop:=match o with
 | .lst l=>nrmL n mem l fun l=>k (.lst l)
 | .inst C xs vs=>nrmL n mem vs fun vs=>k (.inst C xs vs)
 | .dic ks vs=>nrmL n mem vs fun vs=>k (.dic ks vs)
 | .pool=>k .pool
 | .fz v=>k (.fz v)
 | .dead=>k .dead
 | _=>False
noncomputable def cutK (n:Nat) (mem:Mem):Nat→Mem→(Mem→Prop)→Prop
 | 0,_,k=>k []
 | i+1,o::l,k=>nrmM n mem o fun o=>cutK n mem i l fun l=>k (o::l)
 | _+1,[],_=>False
noncomputable def gcK (n:Nat) (fr cl:Fr) (mem:Mem) (k:Fr→Fr→Mem→Prop):Prop:=match n with
 | 0=>k fr cl mem
 | i+1=>nrmF (i+1) mem fr fun fr=>nrmF (i+1) mem cl fun cl=>cutK (i+1) mem (i+1) mem fun mem=>k fr cl mem
noncomputable def gcOk (n:Nat) (mem:Mem) (p:Prop):Prop:=match n with
 | 0=>p
 | i+1=>brK (Nat.beq mem.length (i+1)) p False
noncomputable def loopK (gc:Nat) (W:Fr→Fr→Mem→Prop) (k:Fl→Fr→Fr→Mem→Prop):Fl→Fr→Fr→Mem→Prop
 | .next,fr,cl,mem=>gcK gc fr cl mem W
 | .cont,fr,cl,mem=>gcK gc fr cl mem W
 | .brk,fr,cl,mem=>k .next fr cl mem
 | .ret v,fr,cl,mem=>k (.ret v) fr cl mem
noncomputable def seqK (g:Fr→Fr→Mem→(Fl→Fr→Fr→Mem→Prop)→Prop) (k:Fl→Fr→Fr→Mem→Prop):Fl→Fr→Fr→Mem→Prop
 | .next,fr,cl,mem=>g fr cl mem k
 | .brk,fr,cl,mem=>k .brk fr cl mem
 | .cont,fr,cl,mem=>k .cont fr cl mem
 | .ret v,fr,cl,mem=>k (.ret v) fr cl mem
noncomputable def forL (gc:Nat) (turn:AV→Fr→Fr→Mem→(Fl→Fr→Fr→Mem→Prop)→Prop):List AV→Fr→Fr→Mem→(Fl→Fr→Fr→Mem→Prop)→Prop
 | [],fr,cl,mem,k=>k .next fr cl mem
 | v::l,fr,cl,mem,k=>turn v fr cl mem (loopK gc (fun fr cl mem=>forL gc turn l fr cl mem k) k)
noncomputable def whL (tst:Fr→Fr→Mem→(Bool→Mem→Prop)→Prop) (turn:Fr→Fr→Mem→(Fl→Fr→Fr→Mem→Prop)→Prop):Nat→Fr→Fr→Mem→(Fl→Fr→Fr→Mem→Prop)→Prop
 | 0,_,_,_,_=>False
 | n+1,fr,cl,mem,k=>tst fr cl mem fun d mem=>brK d (turn fr cl mem (loopK 0 (fun fr cl mem=>whL tst turn n fr cl mem k) k)) (k .next fr cl mem)
noncomputable def atStK (mem:Mem) (x:Nat) (u v:AV) (k:Mem→Prop):Prop:=match u with
 | .ref n=>nthK mem n fun y=>match y with | .inst C xs vs=>brK (memN (atI C) x) (brK (shortK 800 xs) (putF xs vs x v fun xs vs=>setK mem n (.inst C xs vs) k) False) False | _=>False
 | _=>False
noncomputable def subStK (mem:Mem) (u j v:AV) (k:Mem→Prop):Prop:=intK j fun i=>match u with
 | .ref n=>nthK mem n fun y=>match y with
  | .dic ks vs=>brK (shortK 900 ks) (dstoreK ks vs i v fun ks vs=>setK mem n (.dic ks vs) k) False
  | .pool=>intK v fun a=>poolI i (k mem) ((0≤a∧a<2147483647)∧k mem)
  | _=>False
 | _=>False
noncomputable def isLstK (mem:Mem) (v:AV) (p:Prop):Prop:=match v with
 | .ref n=>nthK mem n fun x=>(match x with | .lst _=>p | _=>False)
 | _=>False
noncomputable def appK (mem:Mem) (v u:AV) (k:Mem→Prop):Prop:=match v with
 | .ref n=>nthK mem n fun x=>(match x with | .lst l=>brK (shortK 900 l) (setK mem n (.lst (l++[u])) k) False | _=>False)
 | _=>False
noncomputable def popK (mem:Mem) (v:AV) (k:AV→Mem→Prop):Prop:=match v with
 | .ref n=>nthK mem n fun x=>(match x with | .lst l=>∃ l' u,l=l'++[u]∧setK mem n (.lst l') fun mem=>k u mem | _=>False)
 | _=>False
noncomputable def mkpK (mem:Mem) (v:AV) (k:Mem→Prop):Prop:=match v with
 | .ref n=>nthK mem n fun o=>(match o with | .lst l=>two l fun x y=>intK x fun i=>intK y fun j=>((0:Int)≤j∧j<2147483647)∧setK mem n .pool k | _=>False)
 | _=>False
noncomputable def keepK:List Nat→Fr→(Fr→Prop)→Prop
 | [],_,k=>k []
 | x::xs,fr,k=>lookK fr x fun v=>keepK xs fr fun fr'=>k ((x,v)::fr')
noncomputable def rowF:Stmt→List Str×Kinds×List Stmt
 | .FunctionDef _ a b _ _ _ sc _ _ _=>(a.args.map (·.arg),sc.names,b)
 | _=>([],[],[])
noncomputable def rowAt (q:Nat×Nat×Option Nat):List Str×Kinds×List Stmt:=rowF (match q.2.2 with | none=>top q.2.1 | some j=>nth j (bodyF (top q.2.1)))
noncomputable def dtab:List (Nat×Nat×Option Nat):=[(28,2,none),(33,3,none),(469,25,none),(476,26,none),(488,29,none),(495,30,none),(502,31,none),(510,32,none),(517,33,none),(524,34,none),(532,35,none),(539,36,none),(550,42,none),(557,43,none),(564,44,none),(635,47,none),(640,48,none),(645,49,none),(652,50,none),(659,51,none),(666,52,none),(673,53,none),(723,62,none),(730,63,none),(737,64,none),(744,65,none),(751,66,none),(756,67,none),(763,68,none),(770,69,none),(777,70,none),(784,71,none),(843,78,none),(940,85,none),(945,86,none),(987,89,none),(993,90,none),(1000,91,none),(1102,97,none),(1109,98,none),(1116,99,none),(1121,100,none),(1128,101,none),(1135,102,none),(1140,103,none),(1147,104,none),(1154,105,none),(1161,106,none),(1166,107,none),(1173,108,none),(1178,109,none),(1185,110,none),(1190,111,none),(1195,112,none),(1200,113,none),(80,6,some 0),(87,6,some 1),(106,7,some 0),(113,7,some 1),(158,9,some 0),(165,9,some 1),(184,10,some 0),(191,10,some 1),(210,11,some 0),(217,11,some 1),(578,45,some 0),(597,46,some 0),(604,46,some 1),(611,46,some 2),(616,46,some 3),(621,46,some 4),(688,61,some 0),(695,61,some 1),(702,61,some 2),(815,76,some 0),(857,82,some 0),(885,83,some 0),(909,84,some 0),(916,84,some 1),(921,84,some 2),(926,84,some 3),(959,88,some 0),(1015,93,some 0),(1036,94,some 0),(1048,94,some 2),(1069,95,some 0),(1205,114,none)]
noncomputable def ctab:List (Nat×Nat):=[(90,80),(116,106),(168,158),(194,184),(220,210),(581,578),(624,597),(712,688),(825,815),(867,857),(893,885),(929,909),(976,959),(1018,1015),(1051,1036),(1091,1069)]
noncomputable def ddl:List Nat:=[510,532,993,688,1015]
noncomputable def gi:List (Str×Int):=[(("ROWS_OF_TABLE":Str),(1000:Int)),(("ROWS_OF_SELECT":Str),(200:Int)),(("ROW_BY_TABLE":Str),(2:Int)),(("ROW_BY_INDEX":Str),(2:Int)),(("ROW_BY_BOTH":Str),(3:Int)),(("DESCENT":Str),(4:Int)),(("ROWS_AT_MOST":Str),(1000000000000:Int)),(("SORTED_ROW":Str),(4:Int))]
noncomputable def rowOf (f:Nat):List Str×Kinds×List Stmt:=match dtab.find? (fun q=>Nat.beq q.1 f) with | some q=>rowAt q | none=>([],[],[])
noncomputable def dad:List Nat:=dtab.map (·.1)
noncomputable def tbl:List Str:=((["k","node","nodes","text","signs","sign","type_name","name","part","left","right","expr","found","child","sources","number","op","value","item","items","term","place","table","bounds","fits","ops","bound","path","low","high","per_row","is_single","rows","equals","many","cost","whole","column","index","is_covering","head","columns","covering","source","collation","paths","order_terms","walk","at","is_sorted","conditions","turns","order","terms","levels","depth","affinity","alias","kind","hint","on","script","cell","big","mixed","top","things","turn","known","one","other","row","places","plan","told","where","self","operand","negated","select","base","whens","pairs","arguments","distinct","star","word","pattern","escape","join","outer","numbers","needs","left_name","placed","kept","led","equal_affinities","low_affinity","high_affinity","in_list","in_affinity","descending","is_rowid","is_here","append","equal","is_left","order_done","before","by_level","here","using","not_null","default","root","unique","origin","sql","rowid_place","indexes","checks","primary","drawn","there","end","fit","some","due","level","when","then","pop","take_form","fixed","backwards","is_one","take_level","turned","either","ready_bounds","tested","strip","is_led","falls","is_ready","outputs","is_constant","get","is_known","n"]:List String)).map Str.ofString
noncomputable def nameOf (i:Nat):Str:=match tbl[i]? with | some x=>x | none=>⟨#[1114112+i]⟩
noncomputable def codeS (x:Str):Nat:=x.cps.toList.foldl (fun a c=>a * 2097152+c+1) 0
theorem tbl_nd:tbl.Nodup:=by
 have h:(tbl.map codeS).Nodup:=by decide +kernel
 exact List.Pairwise.of_map codeS (fun a b hab e=>hab (by rw [e])) h
theorem tbl_big:∀ x∈tbl,∀ i,x≠⟨#[1114112+i]⟩:=by
 have h:(tbl.all fun x=>x.cps.toList.all fun c=>decide (c<1114112))=true:=by decide +kernel
 intro x hx i e
 have h2:=List.all_eq_true.mp (List.all_eq_true.mp h x hx) (1114112+i) (by rw [e];simp)
 simp at h2
 lia
theorem nameOf_inj {i j:Nat} (h:nameOf i=nameOf j):i=j:=by
 delta nameOf at h
 cases hi:tbl[i]? with
 | none=>cases hj:tbl[j]? with
  | none=>rw [hi,hj] at h;simpa using h
  | some y=>rw [hi,hj] at h;exact absurd h.symm (tbl_big y (List.mem_of_getElem? hj) i)
 | some x=>cases hj:tbl[j]? with
  | none=>rw [hi,hj] at h;exact absurd h (tbl_big x (List.mem_of_getElem? hi) j)
  | some y =>
   rw [hi,hj] at h
   dsimp only at h
   subst h
   obtain ⟨h1,h2⟩:=List.getElem?_eq_some_iff.mp hi
   obtain ⟨h3,h4⟩:=List.getElem?_eq_some_iff.mp hj
   have hp:=List.pairwise_iff_getElem.mp tbl_nd
   rcases Nat.lt_trichotomy i j with hl | hl | hl
   ·exact absurd (h2.trans h4.symm) (hp i j h1 h3 hl)
   ·exact hl
   ·exact absurd (h4.trans h2.symm) (hp j i h3 h1 hl)
noncomputable abbrev mo (w:World):Model:=model PySem.Challenge.rw_nt0144_01.row.prog w
noncomputable def L2 {α β:Type} (P:α→β→Prop):List α→List β→Prop
 | [],m=>m=[]
 | a::l,m=>∃ b m',m=b::m'∧P a b∧L2 P l m'
noncomputable def Abs (C:Nat) (m:Nt.Loc):Prop:=∀ i∈mnames C,look m (nameOf i)=none
structure Fld (C:Nat) (xs:List Nat) (us:List Value) (m:Nt.Loc):Prop where
 ab:Abs C m
 has:∀ x∈xs,x∈atI C
 at_:L2 (fun x u=>look m (nameOf x)=some u) xs us
mutual
noncomputable def TR (w:World) (R:List Ch):TV→Value→Prop
 | .none,u=>u=.none
 | .bool b,u=>u=.bool b
 | .int i,u=>∃ t,u=.int i t
 | .str x,u=>x.length≤1000∧∃ t,u=.str x t
 | .val v,u=>handedIn v=true∧u=v
 | .tup l,u=>∃ a vs,u=.ref a∧Ch.tup a vs∈R∧vs.length≤1000∧TRs w R l vs
 | .lst l,u=>∃ a vs,u=.ref a∧Ch.lst a vs∈R∧vs.length≤1000∧TRs w R l vs
 | .obj C xs l,u=>∃ a dx m vs,u=.ref a∧Ch.inst a dx C m∈R∧Fld C xs vs m∧TRs w R l vs
 | .dic ks l,u=>∃ a vs,u=.ref a∧Nt.dic a (ks.zip vs)∈R∧vs.length=ks.length∧TRs w R l vs
 | .set ns,u=>∃ a,u=.ref a∧setx w a ns∈R∧okSet ns=true
noncomputable def TRs (w:World) (R:List Ch):List TV→List Value→Prop
 | [],us=>us=[]
 | v::l,us=>∃ u us',us=u::us'∧TR w R v u∧TRs w R l us'
end
structure GS (w:World) where
 chs:List Ch
 al:List Addr
 R:List Ch
structure Ext {w:World} (g g':GS w):Prop where
 R:∀ p∈g.R,p∈g'.R
 al:∃ l,g'.al=g.al++l
noncomputable def AR {w:World} (g:GS w):AV→Value→Prop
 | .t v,u=>TR w g.R v u
 | .ref n,u=>∃ a,g.al[n]?=some a∧u=.ref a
noncomputable def OR {w:World} (g:GS w) (a:Addr) (o:MO) (c:List Ch):Prop:=match o with
 | .lst l=>∃ vs,c=[.lst a vs]∧vs.length≤1000∧L2 (AR g) l vs
 | .tup l=>∃ vs,c=[.tup a vs]∧vs.length≤1000∧L2 (AR g) l vs
 | .inst C xs l=>∃ dx m vs,c=[.inst a dx C m]∧m.length≤xs.length∧xs.Nodup∧Fld C xs vs m∧L2 (AR g) l vs
 | .dic ks l=>∃ vs,c=[Nt.dic a (ks.zip vs)]∧vs.length=ks.length∧L2 (AR g) l vs
 | .set _=>False
 | .pool=>c=[.pool a]
 | .fl l=>c=[]∧∃ vs,Ch.lst a vs∈g.R∧vs.length≤1000∧L2 (AR g) l vs
 | .fz v=>c=[]∧TR w g.R v (.ref a)
 | .dead=>c=[]
noncomputable def MemL {w:World} (g:GS w):List Addr→Mem→List Ch→Prop
 | as,[],chs=>as=[]∧chs=[]
 | as,o::mem,chs=>∃ a as' c chs',as=a::as'∧chs=c++chs'∧OR g a o c∧MemL g as' mem chs'
structure Top where
 K:Frag
 hE:Heap
noncomputable def atN (C:Nat):List Str:=(atI C).map nameOf
structure Kn (T:Top) (w:World):Prop where
 G:Gl T.K T.hE gs bs
 GI:∃ mg,T.hE.Ns mainGlobals mg∧∀ p∈gi,∃ t,mg p.1=some (.int p.2 t)
 kp:∀ f∈dad,keepIn T.K (.ref f)=true
 kc:∀ q∈ctab,keepIn T.K (.ref q.1)=true
 d:∀ f∈dad,∀ us:List Value,us.length=(rowOf f).1.length→DefX T.hE f (rowOf f).1 (rowOf f).2.1 (rowOf f).2.2 us us
 dd:∀ f∈ddl,DefD T.hE f (rowOf f).1 (rowOf f).2.1 (rowOf f).2.2
 c:∀ q∈ctab,Klass T.K q.1 q.2 (atN q.1)
 m:∀ q∈mtab,Meth T.K q.1 (nameOf q.2.1) q.2.2
 i:∀ C∈isl,IsC T.K C
 num:∃ t1 t2 n,T.hE.get? 455=some { cls:=.type "tuple",data:=.seq #[.str "integer" t1,.str "numeric" t2] n }
 tur:∃ t1 t2 t3 t4 t5,∀ prog:Program,T.hE.DictOf (strKind prog w) 540 [("=",.str "=" t1),("<",.str ">" t2),("<=",.str ">=" t3),(">",.str "<" t4),(">=",.str "<=" t5)]
structure CALL (T:Top) (r:Nat) (f:Value) (as:List AV) (mem:Mem) (k:AV→Mem→Prop):Prop where
 run:∀ (w:World) (A:Around) (s₀:Shared) (R₀:List Ch) (E:Value→Shared→Prop) (Q:Value→Shared→Prop) (s:Shared) (g:GS w) (rest:List Ch) (vs:List Value),
  Rm A r→Kn T w→St w T.hE s₀ [] R₀ (g.chs++rest) g.R s→MemL g g.al mem g.chs→L2 (AR g) as vs →
  (∀ av mem' v s' (g':GS w),k av mem'→St w T.hE s₀ [] R₀ (g'.chs++rest) g'.R s'→MemL g' g'.al mem' g'.chs→Ext g g'→AR g' av v→Q v s') →
  wpAny (mo w) A (PySem.call f vs) Q E s
structure FN (T:Top) (r:Nat) (p:Bool) (f:Nat) (ts:List TV) (P:TV→Prop):Prop where
 run:CALL T r (.ref f) (arg0 p ts) (mem0 p) fun v mem'=>fzK 9 mem' v fun u mem''=>okP p mem'' (P u)
section
variable (T:Top) (r:Nat)
noncomputable def ev:CE→Fr→Fr→Mem→(List AV→Mem→Prop)→Prop
 | .nm x,fr,cl,mem,k=>lookK fr x fun v=>k [v] mem
 | .nc x,fr,cl,mem,k=>lookK cl x fun v=>k [v] mem
 | .k v,fr,cl,mem,k=>k [.t v] mem
 | .att e x,fr,cl,mem,k=>ev e fr cl mem fun vs mem=>oneK vs fun v=>attK mem v x fun u=>k [u] mem
 | .sub e i,fr,cl,mem,k=>ev e fr cl mem fun vs mem=>oneK vs fun v=>ev i fr cl mem fun us mem=>oneK us fun j=>subK mem v j fun u=>k [u] mem
 | .turn e,fr,cl,mem,k=>ev e fr cl mem fun vs mem=>oneK vs fun v=>strK v fun x=>turnK x turnT fun y=>k [.t (.str y)] mem
 | .o1 o a,fr,cl,mem,k=>ev a fr cl mem fun vs mem=>oneK vs fun v=>op1 o mem v fun t=>k [.t t] mem
 | .o2 o a b,fr,cl,mem,k=>ev a fr cl mem fun vs mem=>oneK vs fun v=>ev b fr cl mem fun us mem=>oneK us fun u=>op2 o mem v u fun t=>k [.t t] mem
 | .and a b,fr,cl,mem,k=>ev a fr cl mem fun vs mem=>oneK vs fun v=>truK v fun d=>brK d (ev b fr cl mem k) (k [v] mem)
 | .or a b,fr,cl,mem,k=>ev a fr cl mem fun vs mem=>oneK vs fun v=>truK v fun d=>brK d (k [v] mem) (ev b fr cl mem k)
 | .ife t a b,fr,cl,mem,k=>ev t fr cl mem fun vs mem=>bitK vs fun d=>brK d (ev a fr cl mem k) (ev b fr cl mem k)
 | .tand a b,fr,cl,mem,k=>ev a fr cl mem fun vs mem=>bitK vs fun d=>brK d (ev b fr cl mem k) (k [.t (.bool false)] mem)
 | .tor a b,fr,cl,mem,k=>ev a fr cl mem fun vs mem=>bitK vs fun d=>brK d (k [.t (.bool true)] mem) (ev b fr cl mem k)
 | .tnot a,fr,cl,mem,k=>ev a fr cl mem fun vs mem=>bitK vs fun d=>k [.t (.bool (!d))] mem
 | .tt,fr,cl,mem,k=>k [.t (.bool true)] mem
 | .ff,fr,cl,mem,k=>k [.t (.bool false)] mem
 | .te a,fr,cl,mem,k=>ev a fr cl mem fun vs mem=>oneK vs fun v=>truK v fun d=>k [.t (.bool d)] mem
 | .nil,fr,cl,mem,k=>k [] mem
 | .cons a b,fr,cl,mem,k=>ev a fr cl mem fun vs mem=>oneK vs fun v=>ev b fr cl mem fun us mem=>k (v::us) mem
 | .list l,fr,cl,mem,k=>ev l fr cl mem fun vs mem=>snocK mem (.lst vs) fun n mem=>k [.ref n] mem
 | .lstF l,fr,cl,mem,k=>ev l fr cl mem fun vs mem=>treesK vs fun ts=>k [.t (.lst ts)] mem
 | .tup l,fr,cl,mem,k=>ev l fr cl mem fun vs mem=>treesK vs fun ts=>k [.t (.tup ts)] mem
 | .tupM l,fr,cl,mem,k=>ev l fr cl mem fun vs mem=>snocK mem (.tup vs) fun n mem=>k [.ref n] mem
 | .dict,fr,cl,mem,k=>snocK mem (.dic [] []) fun n mem=>k [.ref n] mem
 | .comp elt tg one rg it cd,fr,cl,mem,k=>ev it fr cl mem fun vs mem=>oneK vs fun v=>srcL rg v fun l =>
   compL (fun v mem k=>tgK mem tg one v [] fun cf=>ev cd cf cl mem fun vs mem=>bitK vs fun d=>brK d (ev elt cf cl mem fun us mem=>treesK us fun ts=>k ts mem) (k [] mem)) l [] mem fun acc mem=>k [.t (.lst acc)] mem
 | .compH elt tg one it cd,fr,cl,mem,k=>ev it fr cl mem fun vs mem=>oneK vs fun v=>(match v with
   | .ref n=>nthK mem n fun o=>(match o with
    | .lst l=>setK mem n .dead fun mem=>compL (fun v mem k=>tgK mem tg one v [] fun cf=>ev cd cf cl mem fun vs mem=>bitK vs fun d=>brK d (ev elt cf cl mem fun us mem=>treesK us fun ts=>k ts mem) (k [] mem)) l [] mem fun acc mem=>setK mem n (.lst l) fun mem=>k [.t (.lst acc)] mem
    | _=>False)
   | _=>False)
 | .call f as,fr,cl,mem,k=>ev as fr cl mem fun vs mem=>CALL T r (.ref f) vs mem fun v mem=>k [v] mem
 | .fcall p f as,fr,cl,mem,k=>ev as fr cl mem fun vs mem=>lendK p mem vs fun ts=>FN T r p f ts fun t=>k [.t t] mem
 | .meth e x as,fr,cl,mem,k=>ev e fr cl mem fun vs mem=>oneK vs fun v=>obK mem v fun o=>(match o with
   | .inst C _ _=>methK C x (fun f=>ev as fr cl mem fun us mem=>CALL T r (.ref f) (v::us) mem fun v mem=>k [v] mem) mtab
   | _=>False)
 | .fmeth e x as,fr,cl,mem,k=>ev e fr cl mem fun vs mem=>treesK vs fun ss=>objK ss fun C xs l=>methK C x (fun f=>ev as fr cl mem fun us mem=>treesK us fun ts=>FN T r false f (.obj C xs l::ts) fun t=>k [.t t] mem) mtab
 | .app o e,fr,cl,mem,k=>ev o fr cl mem fun vs mem=>oneK vs fun v=>isLstK mem v (ev e fr cl mem fun us mem=>oneK us fun u=>appK mem v u fun mem=>k [.t .none] mem)
 | .pop o,fr,cl,mem,k=>ev o fr cl mem fun vs mem=>oneK vs fun v=>popK mem v fun u mem=>k [u] mem
 | .dget o i,fr,cl,mem,k=>ev o fr cl mem fun vs mem=>oneK vs fun v=>dictT v fun ks l=>ev i fr cl mem fun us mem=>oneK us fun j=>intK j fun i=>dgetK ks l i fun u=>(match u with | some u=>k [.t u] mem | none=>k [.t (.lst [])] mem)
 | .fz e,fr,cl,mem,k=>ev e fr cl mem fun vs mem=>oneK vs fun v=>fzK 9 mem v fun u mem=>k [.t u] mem
 | .mkp e,fr,cl,mem,k=>ev e fr cl mem fun vs mem=>oneK vs fun v=>mkpK mem v fun mem=>k [v] mem
 | .stop,_,_,_,_=>False
noncomputable def storeK (t:CE) (v:AV) (fr cl:Fr) (mem:Mem) (k:Fr→Fr→Mem→Prop):Prop:=match t with
 | .nm x=>putK fr x v fun fr=>k fr cl mem
 | .nc x=>putK cl x v fun cl=>k fr cl mem
 | .att o x=>ev T r o fr cl mem fun vs mem=>oneK vs fun u=>atStK mem x u v fun mem=>k fr cl mem
 | .sub o i=>ev T r o fr cl mem fun vs mem=>oneK vs fun u=>ev T r i fr cl mem fun us mem=>oneK us fun j=>subStK mem u j v fun mem=>k fr cl mem
 | _=>False
noncomputable def storesK:CE→List AV→Fr→Fr→Mem→(Fr→Fr→Mem→Prop)→Prop
 | .cons t ts,v::vs,fr,cl,mem,k=>storeK T r t v fr cl mem fun fr cl mem=>storesK ts vs fr cl mem k
 | .nil,[],fr,cl,mem,k=>k fr cl mem
 | _,_,_,_,_,_=>False
noncomputable def lenC:CE→Nat
 | .cons _ b=>lenC b+1
 | _=>0
noncomputable def sx:CS→Fr→Fr→Mem→(Fl→Fr→Fr→Mem→Prop)→Prop
 | .nil,fr,cl,mem,k=>k .next fr cl mem
 | .cons a b,fr,cl,mem,k=>sx a fr cl mem (seqK (sx b) k)
 | .as t e,fr,cl,mem,k=>ev T r e fr cl mem fun vs mem=>oneK vs fun v=>storeK T r t v fr cl mem fun fr cl mem=>k .next fr cl mem
 | .un ts e,fr,cl,mem,k=>ev T r e fr cl mem fun vs mem=>oneK vs fun v=>tupK mem v fun l=>brK (Nat.beq (lenC ts) l.length) (storesK T r ts l fr cl mem fun fr cl mem=>k .next fr cl mem) False
 | .unt rev ts es,fr,cl,mem,k=>ev T r es fr cl mem fun vs mem=>storesK T r ts (match rev with | true=>vs.reverse | false=>vs) fr cl mem fun fr cl mem=>k .next fr cl mem
 | .ex e,fr,cl,mem,k=>ev T r e fr cl mem fun _ mem=>k .next fr cl mem
 | .ifs t a b,fr,cl,mem,k=>ev T r t fr cl mem fun vs mem=>bitK vs fun d=>brK d (sx a fr cl mem k) (sx b fr cl mem k)
 | .for_ gc tg one rg e body,fr,cl,mem,k=>ev T r e fr cl mem fun vs mem=>oneK vs fun v=>srcK rg mem v fun l=>gcOk gc mem (forL gc (fun v fr cl mem k=>tgK mem tg one v fr fun fr=>sx body fr cl mem k) l fr cl mem k)
 | .wh t body,fr,cl,mem,k=>∃ n,whL (fun fr cl mem k=>ev T r t fr cl mem fun vs mem=>bitK vs fun d=>k d mem) (fun fr cl mem k=>sx body fr cl mem k) n fr cl mem k
 | .ret e,fr,cl,mem,k=>ev T r e fr cl mem fun vs mem=>oneK vs fun v=>k (.ret v) fr cl mem
 | .ret0,fr,cl,mem,k=>k (.ret (.t .none)) fr cl mem
 | .brk,fr,cl,mem,k=>k .brk fr cl mem
 | .cont,fr,cl,mem,k=>k .cont fr cl mem
 | .kp xs,fr,cl,mem,k=>keepK xs fr fun fr=>k .next fr cl mem
 | .kc xs,fr,cl,mem,k=>keepK xs cl fun cl=>k .next fr cl mem
 | .fzn n,fr,cl,mem,k=>fzK 9 mem (.ref n) fun _ mem=>k .next fr cl mem
 | .fzv x,fr,cl,mem,k=>lookK fr x fun v=>fzK 9 mem v fun u mem=>putK fr x (.t u) fun fr=>k .next fr cl mem
 | .shf x,fr,cl,mem,k=>lookK fr x fun v=>(match v with | .ref n=>nthK mem n fun o=>(match o with | .lst l=>setK mem n (.fl l) fun mem=>k .next fr cl mem | _=>False) | _=>False)
 | .lab b,fr,cl,mem,k=>Lab (sx b fr cl mem k)
 | .stop,_,_,_,_=>False
end
section
variable {α β:Type} {P P':α→β→Prop}
theorem L2.ind {C:List α→List β→Prop} (h0:C [] []) (h1:∀ {a l b m},P a b→L2 P l m→C l m→C (a::l) (b::m)):∀ {l m},L2 P l m→C l m:=fun {l}=>by
 induction l with
 | nil=>exact fun {m} h=>(show m=[] from h)▸h0
 | cons a l ih=>exact fun {m} ⟨b,m',e,p,h⟩=>e▸h1 p h (ih h)
theorem L2.cons {a:α} {b:β} {l:List α} {m:List β} (p:P a b) (h:L2 P l m):L2 P (a::l) (b::m):=⟨b,m,rfl,p,h⟩
theorem L2.len {l:List α} {m:List β} (h:L2 P l m):m.length=l.length:=L2.ind (P:=P) (C:=fun l m=>m.length=l.length) rfl (fun _ _=>congrArg Nat.succ) h
theorem L2.imp (hp:∀ a b,P a b→P' a b) {l:List α} {m:List β} (h:L2 P l m):L2 P' l m:=L2.ind (P:=P) (C:=L2 P') rfl (fun p _ ih=>L2.cons (hp _ _ p) ih) h
theorem L2.app {l':List α} {m':List β} (h':L2 P l' m') {l:List α} {m:List β} (h:L2 P l m):L2 P (l++l') (m++m'):=L2.ind (P:=P) (C:=fun l m=>L2 P (l++l') (m++m')) h' (fun p _ ih=>L2.cons p ih) h
theorem L2.rev {l:List α} {m:List β} (h:L2 P l m):L2 P l.reverse m.reverse:=L2.ind (P:=P) (C:=fun l m=>L2 P l.reverse m.reverse) rfl (fun {a l b m} p _ ih=>(List.reverse_cons (a:=a) (as:=l)).symm▸(List.reverse_cons (a:=b) (as:=m)).symm▸L2.app (l':=[a]) (m':=[b]) ⟨b,[],rfl,p,rfl⟩ ih) h
theorem L2.nth {a:α} {l:List α} {m:List β} {n:Nat} (h:L2 P l m):l[n]?=some a→∃ b,m[n]?=some b∧P a b:=L2.ind (P:=P) (C:=fun l m=>∀ n,l[n]?=some a→∃ b,m[n]?=some b∧P a b) (fun n e=>by cases e) (fun p _ ih n e=>by cases n with | zero=>exact Option.some.inj e▸⟨_,rfl,p⟩ | succ n=>exact ih n e) h n
theorem L2.take {l:List α} {m:List β} (n:Nat) (h:L2 P l m):L2 P (l.take n) (m.take n):=L2.ind (P:=P) (C:=fun l m=>∀ n,L2 P (l.take n) (m.take n)) (fun n=>by cases n<;>exact rfl) (fun p _ ih n=>by cases n with | zero=>exact rfl | succ n=>exact L2.cons p (ih n)) h n
theorem L2.map {γ:Type} (f:γ→α):∀ {l:List γ} {m:List β},L2 P (l.map f) m↔L2 (fun a b=>P (f a) b) l m:=fun {l}=>by
 induction l with
 | nil=>exact .rfl
 | cons c l ih=>exact exists_congr fun b=>exists_congr fun m=>and_congr_right fun _=>and_congr_right fun _=>ih
end
section
variable {w:World} {R R':List Ch} {g g' g₂:GS w} {a:Addr} {n:Nat}
theorem TRs_iff:∀ {l:List TV} {us:List Value},TRs w R l us↔L2 (TR w R) l us:=fun {l}=>by
 induction l with
 | nil=>exact .rfl
 | cons c l ih=>exact exists_congr fun b=>exists_congr fun m=>and_congr_right fun _=>and_congr_right fun _=>ih
theorem treesL {l:List TV} {us:List Value}:TRs w g.R l us↔L2 (AR g) (l.map .t) us:=TRs_iff.trans (L2.map (P:=AR g) AV.t).symm
mutual
theorem TR.mono (hs:∀ p∈R,p∈R'):∀ {v:TV} {u:Value},TR w R v u→TR w R' v u
 | .none,_,h=>h
 | .bool _,_,h=>h
 | .int _,_,h=>h
 | .str _,_,h=>h
 | .val _,_,h=>h
 | .tup _,_,h=>h.imp fun _ h=>h.imp fun _ h=>⟨h.1,hs _ h.2.1,h.2.2.1,TRs.mono hs h.2.2.2⟩
 | .lst _,_,h=>h.imp fun _ h=>h.imp fun _ h=>⟨h.1,hs _ h.2.1,h.2.2.1,TRs.mono hs h.2.2.2⟩
 | .obj _ _ _,_,h=>h.imp fun _ h=>h.imp fun _ h=>h.imp fun _ h=>h.imp fun _ h=>⟨h.1,hs _ h.2.1,h.2.2.1,TRs.mono hs h.2.2.2⟩
 | .dic _ _,_,h=>h.imp fun _ h=>h.imp fun _ h=>⟨h.1,hs _ h.2.1,h.2.2.1,TRs.mono hs h.2.2.2⟩
 | .set _,_,h=>h.imp fun _ h=>⟨h.1,hs _ h.2.1,h.2.2⟩
theorem TRs.mono (hs:∀ p∈R,p∈R'):∀ {v:List TV} {u:List Value},TRs w R v u→TRs w R' v u
 | [],_,h=>h
 | _::_,_,h=>h.imp fun _ h=>h.imp fun _ h=>⟨h.1,TR.mono hs h.2.1,TRs.mono hs h.2.2⟩
end
theorem Ext.rfl:Ext g g:=⟨fun _ h=>h,[],by simp⟩
theorem Ext.trans (h:Ext g g') (h':Ext g' g₂):Ext g g₂:=by
 obtain ⟨l,e⟩:=h.al;obtain ⟨l',e'⟩:=h'.al
 exact ⟨fun p hp=>h'.R p (h.R p hp),l++l',by rw [e',e,List.append_assoc]⟩
theorem al_get (x:Ext g g') (h:g.al[n]?=some a):g'.al[n]?=some a:=by
 obtain ⟨l,e⟩:=x.al
 rw [e,List.getElem?_append_left (List.getElem?_eq_some_iff.mp h).1];exact h
theorem AR.mono (x:Ext g g') {v:AV} {u:Value} (h:AR g v u):AR g' v u:=by
 cases v with
 | t _=>exact TR.mono x.R h
 | ref _=>exact h.imp fun _ h=>h.imp (al_get x) id
theorem ARs.mono (x:Ext g g') {v:List AV} {u:List Value} (h:L2 (AR g) v u):L2 (AR g') v u:=h.imp fun _ _=>AR.mono x
theorem OR.mono (x:Ext g g') {c:List Ch} {o:MO} (h:OR g a o c):OR g' a o c:=by
 cases o with
 | lst _=>exact h.imp fun _ h=>⟨h.1,h.2.1,ARs.mono x h.2.2⟩
 | tup _=>exact h.imp fun _ h=>⟨h.1,h.2.1,ARs.mono x h.2.2⟩
 | fl _=>exact ⟨h.1,h.2.imp fun _ h=>⟨x.R _ h.1,h.2.1,ARs.mono x h.2.2⟩⟩
 | inst _ _ _=>exact h.imp fun _ h=>h.imp fun _ h=>h.imp fun _ h=>⟨h.1,h.2.1,h.2.2.1,h.2.2.2.1,ARs.mono x h.2.2.2.2⟩
 | dic _ _=>exact h.imp fun _ h=>⟨h.1,h.2.1,ARs.mono x h.2.2⟩
 | fz _=>exact ⟨h.1,TR.mono x.R h.2⟩
 | _=>exact h
theorem MemL.mono (x:Ext g g'):∀ {mem:Mem} {as:List Addr} {chs:List Ch},MemL g as mem chs→MemL g' as mem chs:=fun {mem}=>by
 induction mem with
 | nil=>exact fun h=>h
 | cons o mem ih=>exact fun h=>h.imp fun _ h=>h.imp fun _ h=>h.imp fun _ h=>h.imp fun _ h=>⟨h.1,h.2.1,h.2.2.1.mono x,ih h.2.2.2⟩
theorem MemL.len:∀ {mem:Mem} {as:List Addr} {chs:List Ch},MemL g as mem chs→as.length=mem.length:=fun {mem}=>by
 induction mem with
 | nil=>exact fun h=>congrArg List.length h.1
 | cons o mem ih =>
  intro as chs h
  obtain ⟨a,as',c,chs',h1,_,_,h4⟩:=h
  exact (congrArg List.length h1).trans (congrArg Nat.succ (ih h4))
noncomputable def Foc (g:GS w) (mem:Mem) (as:List Addr) (chs:List Ch) (n:Nat) (o:MO) (a:Addr) (c pre post:List Ch):Prop:=as[n]?=some a∧OR g a o c∧chs=pre++(c++post)∧∀ g':GS w,Ext g g'→∀ o' c',OR g' a o' c'→MemL g' as (mem.set n o') (pre++(c'++post))
theorem MemL.focus {o:MO} {mem:Mem} {as:List Addr} {chs:List Ch} {n:Nat} (hm:MemL g as mem chs) (h:mem[n]?=some o):∃ a c pre post,Foc g mem as chs n o a c pre post:=by
 induction mem generalizing as chs n with
 | nil=>cases h
 | cons o1 mem ih =>
  obtain ⟨a,as,c,chs,rfl,rfl,h3,h4⟩:=hm
  cases n with
  | zero=>cases h;exact ⟨a,c,[],chs,rfl,h3,rfl,fun g' x o' c' h'=>⟨a,as,c',chs,rfl,rfl,h',h4.mono x⟩⟩
  | succ n =>
   obtain ⟨b,d,pre,post,q1,q2,q3,q4⟩:=ih h4 h
   exact ⟨b,d,c++pre,post,q1,q2,by rw [q3,List.append_assoc],fun g' x o' c' h'=>⟨a,as,c,_,rfl,List.append_assoc ..,h3.mono x,q4 g' x o' c' h'⟩⟩
theorem MemL.focusA {o:MO} {mem:Mem} {as:List Addr} {chs:List Ch} {n:Nat} {a:Addr} (h:MemL g as mem chs) (ho:mem[n]?=some o) (ha:as[n]?=some a) :
  ∃ c pre post,OR g a o c∧chs=pre++(c++post)∧∀ g':GS w,Ext g g'→∀ o' c',OR g' a o' c'→MemL g' as (mem.set n o') (pre++(c'++post)):=by
 obtain ⟨a',c,pre,post,h1,h2⟩:=h.focus ho
 exact Option.some.inj (h1.symm.trans ha)▸⟨c,pre,post,h2⟩
theorem MemL.focusL {l:List AV} {mem:Mem} {as:List Addr} {chs:List Ch} {n:Nat} {a:Addr} (h:MemL g as mem chs) (ho:mem[n]?=some (.lst l)) (ha:as[n]?=some a) :
  ∃ vs pre post,vs.length≤1000∧L2 (AR g) l vs∧chs=pre++([.lst a vs]++post)∧∀ g':GS w,Ext g g'→∀ o' c',OR g' a o' c'→MemL g' as (mem.set n o') (pre++(c'++post)):=by
 obtain ⟨c,pre,post,⟨vs,e,h1,h2⟩,h3⟩:=h.focusA ho ha
 exact ⟨vs,pre,post,h1,h2,e▸h3⟩
theorem MemL.join {m1:Mem} {as1:List Addr} {c1:List Ch} (h':MemL g as1 m1 c1) {mem:Mem} {as:List Addr} {chs:List Ch} (h:MemL g as mem chs):MemL g (as++as1) (mem++m1) (chs++c1):=by
 induction mem generalizing as chs with
 | nil=>obtain ⟨rfl,rfl⟩:=h;exact h'
 | cons _ _ ih =>
  obtain ⟨a,as,c,chs,rfl,rfl,h3,h4⟩:=h
  exact ⟨a,_,c,_,rfl,List.append_assoc ..,h3,ih h4⟩
theorem MemL.snoc {o:MO} {c:List Ch} {mem:Mem} {as:List Addr} {chs:List Ch} (h:MemL g as mem chs) (h':OR g a o c):MemL g (as++[a]) (mem++[o]) (chs++c) :=
 MemL.join (m1:=[o]) (as1:=[a]) (c1:=c) ⟨a,[],c,[],rfl,(List.append_nil _).symm,h',rfl,rfl⟩ h
end
theorem brN_of {b:Bool} {p q:Prop} (h:brN b p q):(b=true∧p)∨(b=false∧q):=by cases b;exact .inr ⟨rfl,h⟩;exact .inl ⟨rfl,h⟩
theorem beq_sw {x y:Nat}:(x==y)=Nat.beq y x:=by rw [Bool.eq_iff_iff,beq_iff_eq,Nat.beq_eq];exact eq_comm
theorem look_cons {α:Type} {x y:Nat} {v:α} {m:List (Nat×α)} {b:Bool} (q:Nat.beq y x=b):((y,v)::m).lookup x=bif b then some v else m.lookup x:=by rw [List.lookup_cons,beq_sw,q];cases b<;>rfl
theorem lookK_of {α:Type} {x:Nat} {k:α→Prop}:∀ {m:List (Nat×α)},lookK m x k→∃ v,m.lookup x=some v∧k v:=fun {m}=>by
 induction m with
 | nil=>exact fun h=>h.elim
 | cons q m ih=>obtain ⟨y,v⟩:=q;exact fun h=>(brN_of h).elim (fun h=>⟨_,look_cons h.1,h.2⟩) (fun h=>look_cons (v:=v) h.1▸ih h.2)
theorem nthK_of {α:Type} {k:α→Prop} {l:List α} {n:Nat} (h:nthK l n k):∃ a,l[n]?=some a∧k a:=by
 induction l generalizing n with
 | nil=>exact h.elim
 | cons a l ih=>cases n with
  | zero=>exact ⟨a,rfl,h⟩
  | succ n=>exact ih h
theorem setK_of {α:Type} {b:α} {k:List α→Prop} {l:List α} {n:Nat} (h:setK l n b k):k (l.set n b):=by
 induction l generalizing n k with
 | nil=>exact h.elim
 | cons a l ih=>cases n with
  | zero=>exact h
  | succ n=>exact ih h
theorem snocK_of {α:Type} {b:α} {k:Nat→List α→Prop} {l:List α} (h:snocK l b k):k l.length (l++[b]):=by
 induction l generalizing k with
 | nil=>exact h
 | cons a l ih=>exact ih h
theorem brK_of {b:Bool} {p q:Prop} (h:brK b p q):(b=true∧p)∨(b=false∧q):=by cases b;exact .inr ⟨rfl,h⟩;exact .inl ⟨rfl,h⟩
theorem brT {b:Bool} {p:Prop} (h:brK b p False):b=true∧p:=by cases b;exact h.elim;exact ⟨rfl,h⟩
theorem brN_lit {a b:Nat} {p:Prop} (h:brN (Nat.beq a b) p False):a=b∧p:=(brN_of h).elim (fun h=>⟨Nat.eq_of_beq_eq_true h.1,h.2⟩) fun h=>h.2.elim
theorem poolI_of {i:Int} {p q:Prop} (h:poolI i p q):(i=0∧p)∨(i=1∧q):=(brK_of h).imp (fun h=>⟨of_decide_eq_true h.1,h.2⟩) fun h=>(brT h.2).imp of_decide_eq_true id
noncomputable def put {α:Type}:List (Nat×α)→Nat→α→List (Nat×α)
 | [],x,v=>[(x,v)]
 | (y,u)::m,x,v=>bif Nat.beq y x then (y,v)::m else (y,u)::put m x v
theorem putK_of {α:Type} {x:Nat} {v:α}:∀ {m:List (Nat×α)} {k:List (Nat×α)→Prop},putK m x v k→k (put m x v):=fun {m}=>by
 induction m with
 | nil=>exact fun h=>h
 | cons q m ih =>
  intro k h
  obtain ⟨y,u⟩:=q
  show k (bif Nat.beq y x then (y,v)::m else (y,u)::put m x v)
  rcases brN_of h with ⟨e,h⟩ | ⟨e,h⟩
  ·rw [e];exact h
  ·rw [e];exact ih h
theorem lookup_put {α:Type} {x y:Nat} {v:α} {m:List (Nat×α)}:(put m x v).lookup y=if y=x then some v else m.lookup y:=by
 induction m with
 | nil =>
  show ((x,v)::[]).lookup y=_
  rw [List.lookup_cons]
  by_cases h:y=x
  ·rw [if_pos h,beq_iff_eq.mpr h]
  ·rw [if_neg h,beq_eq_false_iff_ne.mpr h]
 | cons q m ih =>
  show (bif Nat.beq q.1 x then (q.1,v)::m else q::put m x v).lookup y=if y=x then some v else List.lookup y ((q.1,q.2)::m)
  cases e:Nat.beq q.1 x with
  | true =>
   have hz:=Nat.eq_of_beq_eq_true e
   show ((q.1,v)::m).lookup y=_
   rw [List.lookup_cons,List.lookup_cons,hz]
   by_cases h:y=x
   ·rw [if_pos h,beq_iff_eq.mpr h]
   ·rw [if_neg h,beq_eq_false_iff_ne.mpr h]
  | false =>
   show ((q.1,q.2)::put m x v).lookup y=_
   rw [List.lookup_cons,List.lookup_cons,ih]
   cases e2:y==q.1 with
   | false=>rfl
   | true=>exact (if_neg fun h=>Nat.ne_of_beq_eq_false e ((beq_iff_eq.mp e2).symm.trans h)).symm
theorem treesK_of {k:List TV→Prop} {l:List AV} (h:treesK l k):∃ ts,l=ts.map .t∧k ts:=by
 induction l generalizing k with
 | nil=>exact ⟨[],rfl,h⟩
 | cons v l ih=>cases v with
  | ref _=>exact h.elim
  | t v=>obtain ⟨ts,e,h⟩:=ih h;exact ⟨v::ts,congrArg _ e,h⟩
theorem treesK_map {l:List TV} {k:List TV→Prop} (h:k l):treesK (l.map .t) k:=by
 induction l generalizing k with
 | nil=>exact h
 | cons v l ih=>exact ih (k:=fun vs=>k (v::vs)) h
theorem two_of {α:Type} {l:List α} {C:α→α→Prop} (h:two l C):∃ a b,l=[a,b]∧C a b:=by
 cases l with
 | nil=>exact h.elim
 | cons a l=>cases l with
  | nil=>exact h.elim
  | cons b l=>cases l with
   | nil=>exact ⟨a,b,rfl,h⟩
   | cons _ _=>exact h.elim
theorem in3 {a:Int} (h:0≤a∧a<3):a=0∨a=1∨a=2:=by lia
theorem oneK_of {vs:List AV} {k:AV→Prop} (h:oneK vs k):∃ v,vs=[v]∧k v:=by
 cases vs with
 | nil=>exact h.elim
 | cons v l=>cases l with
  | nil=>exact ⟨v,rfl,h⟩
  | cons _ _=>exact h.elim
theorem objK_of {ss:List TV} {k:Nat→List Nat→List TV→Prop} (h:objK ss k):∃ C xs l,ss=[.obj C xs l]∧k C xs l:=by
 cases ss with
 | nil=>exact h.elim
 | cons v r=>cases v with
  | obj C xs l=>cases r with
   | nil=>exact ⟨C,xs,l,rfl,h⟩
   | cons _ _=>exact h.elim
  | _=>exact h.elim
theorem okP_of {mem:Mem} {q:Prop} (h:okP true mem q):(∃ r,mem=.pool::r)∧q:=by
 cases mem with
 | nil=>exact h.elim
 | cons o r=>cases o with
  | pool=>exact ⟨⟨r,rfl⟩,h⟩
  | _=>exact h.elim
theorem lendK_of {mem:Mem} {vs:List AV} {k:List TV→Prop} (h:lendK true mem vs k):∃ l r,vs=.ref 0::l∧mem=.pool::r∧treesK l k:=by
 cases vs with
 | nil=>exact h.elim
 | cons v l=>cases v with
  | t _=>exact h.elim
  | ref n=>cases n with
   | succ _=>exact h.elim
   | zero=>cases mem with
    | nil=>exact h.elim
    | cons o r=>cases o with
     | pool=>exact ⟨l,r,rfl,rfl,h⟩
     | _=>exact h.elim
theorem memN_of {l:List Nat} {x:Nat} (h:memN l x=true):x∈l:=by
 induction l with
 | nil=>cases h
 | cons y l ih =>
  unfold memN at h
  cases q:Nat.beq y x with
  | true=>rw [Nat.eq_of_beq_eq_true q];exact .head _
  | false=>rw [q] at h;exact .tail _ (ih h)
theorem shortK_of {α:Type} {n:Nat} {l:List α} (h:shortK n l=true):l.length≤n:=by
 induction l generalizing n with
 | nil=>exact Nat.zero_le _
 | cons _ l ih=>cases n with
  | zero=>cases h
  | succ n=>exact Nat.succ_le_succ (ih h)
structure Cx where
 T:Top
 w:World
 A:Around
 s₀:Shared
 R₀:List Ch
 env:Env
 L:Addr
 kinds:Kinds
 cells:List (Str×Addr)
 r:Nat
structure Cx.Ok (X:Cx):Prop where
 V:EnvOk X.env X.L X.kinds X.cells
 W:Kn X.T X.w
 rm:Rm X.A X.r
 cel:∀ y,X.kinds.lookup y=some .cell→∃ a,X.cells.lookup y=some a
structure Fx where
 rest:List Ch
 fr:Fr
 cl:Fr
 m:Nt.Loc
 cc:List Ch
section
variable {w:World}
noncomputable def FrR (g:GS w) (fr:Fr) (m:Nt.Loc):Prop:=∀ x v,fr.lookup x=some v→∃ u,look m (nameOf x)=some u∧AR g v u
noncomputable def ClR (g:GS w) (cells:List (Str×Addr)) (cl:Fr) (cc:List Ch):Prop:=∀ x v a,cl.lookup x=some v→cells.lookup (nameOf x)=some a→∃ u,Ch.cell a (some u)∈cc∧AR g v u
theorem FrR.mono {g g':GS w} {fr:Fr} {m:Nt.Loc} (x:Ext g g') (h:FrR g fr m):FrR g' fr m:=fun y v e=>let ⟨u,a,b⟩:=h y v e;⟨u,a,b.mono x⟩
theorem ClR.mono {g g':GS w} {cells:List (Str×Addr)} {cl:Fr} {cc:List Ch} (x:Ext g g') (h:ClR g cells cl cc):ClR g' cells cl cc:=fun y v a e e'=>let ⟨u,h1,h2⟩:=h y v a e e';⟨u,h1,h2.mono x⟩
theorem FrR.put {g:GS w} {fr:Fr} {m:Nt.Loc} {x:Nat} {v:AV} {u:Value} (h:FrR g fr m) (hv:AR g v u):FrR g (put fr x v) ((nameOf x,u)::m):=fun y z e=>by
 rw [lookup_put] at e
 by_cases hy:y=x
 ·subst hy;rw [if_pos rfl] at e;cases e;exact ⟨u,look_hd,hv⟩
 ·rw [if_neg hy] at e
  obtain ⟨z,h1,h2⟩:=h y _ e
  exact ⟨z,look_tl h1 (by simpa using fun e=>hy (nameOf_inj e)),h2⟩
end
structure Rp (X:Cx) (F:Fx) (mem:Mem) (g:GS X.w) (s:Shared):Prop where
 st:St X.w X.T.hE X.s₀ [] X.R₀ (.frm X.L F.m::(F.cc++(g.chs++F.rest))) g.R s
 fr:FrR g F.fr F.m
 cl:ClR g X.cells F.cl F.cc
 mem:MemL g g.al mem g.chs
noncomputable def Sd (X:Cx) {β:Type} (p:Sem β) (rel:GS X.w→List AV→β→Prop) (tr:Fr→Fr→Mem→(List AV→Mem→Prop)→Prop):Prop :=
 ∀ (E:Value→Shared→Prop) (Q:β→Shared→Prop) (s:Shared) (F:Fx) (mem:Mem) (g:GS X.w) (k:List AV→Mem→Prop),Rp X F mem g s→tr F.fr F.cl mem k →
  (∀ vs mem' u s' g',k vs mem'→Rp X F mem' g' s'→Ext g g'→rel g' vs u→Q u s')→wpAny (mo X.w) X.A p Q E s
noncomputable def rE {w:World} (g:GS w) (vs:List AV) (u:Value):Prop:=∃ v,vs=[v]∧AR g v u
noncomputable def rB {w:World} (g:GS w) (vs:List AV) (b:Bool):Prop:=vs=[.t (.bool b)]
noncomputable abbrev SEx (X:Cx) (e:Expr):=Sd X (eval e X.env) rE
section
variable {X:Cx} {F:Fx} {mem:Mem} {g:GS X.w} {s s':Shared} {E:Value→Shared→Prop} {Q:Value→Shared→Prop} {v u:AV} {uv vv:Value} {a:Addr} {ch:Ch}
theorem Rp.step (P:Rp X F mem g s) (S:St X.w X.T.hE X.s₀ [] X.R₀ (.frm X.L F.m::(F.cc++(g.chs++F.rest))) g.R s'):Rp X F mem g s':=⟨S,P.fr,P.cl,P.mem⟩
noncomputable def GS.frz {w:World} (g:GS w) (ch:Ch):GS w:={ g with R:=ch::g.R }
theorem Ext.frz {w:World} {g:GS w} {ch:Ch}:Ext g (g.frz ch):=⟨fun _ h=>.tail _ h,[],by simp [GS.frz]⟩
theorem Rp.frz (P:Rp X F mem g s) (S:St X.w X.T.hE X.s₀ [] X.R₀ (ch::.frm X.L F.m::(F.cc++(g.chs++F.rest))) g.R s'):Rp X F mem (g.frz ch) s' :=
 ⟨S.freeze .hd fun _ h=>(nomatch h),P.fr.mono .frz,P.cl.mono .frz,P.mem.mono .frz⟩
noncomputable def GS.own {w:World} (g:GS w) (a:Addr) (ch:Ch):GS w:={ g with chs:=g.chs++[ch],al:=g.al++[a] }
theorem Ext.own {w:World} {g:GS w} {a:Addr} {ch:Ch}:Ext g (g.own a ch):=⟨fun _ h=>h,[a],Eq.refl _⟩
theorem Rp.own (P:Rp X F mem g s) {o:MO} (S:St X.w X.T.hE X.s₀ [] X.R₀ (ch::.frm X.L F.m::(F.cc++(g.chs++F.rest))) g.R s') (h:OR g a o [ch]) :
  Rp X F (mem++[o]) (g.own a ch) s'∧AR (g.own a ch) (.ref mem.length) (.ref a):=by
 refine ⟨⟨S.perm ?_,P.fr.mono .own,P.cl.mono .own,(P.mem.mono .own).snoc (h.mono .own)⟩,a,?_,rfl⟩
 ·refine (List.Perm.swap _ _ _).trans (.cons _ ?_)
  show (ch::(F.cc++(g.chs++F.rest))).Perm (F.cc++((g.chs++[ch])++F.rest))
  have:F.cc++((g.chs++[ch])++F.rest)=(F.cc++g.chs)++ch::F.rest:=by simp
  rw [this,← List.append_assoc]
  exact List.perm_middle.symm
 ·show (g.al++[a])[mem.length]?=some a
  rw [← P.mem.len];simp
noncomputable abbrev HasX (X:Cx) (F:Fx) (g:GS X.w) (ch:Ch):Prop:=Has X.w X.s₀ [] (.frm X.L F.m::(F.cc++(g.chs++F.rest))) g.R ch
noncomputable def RdO (X:Cx) (F:Fx) (g:GS X.w) (a:Addr) (o:MO):Prop:=match o with
 | .lst l=>∃ vs,HasX X F g (.lst a vs)∧vs.length≤1000∧L2 (AR g) l vs
 | .tup l=>∃ vs,HasX X F g (.tup a vs)∧vs.length≤1000∧L2 (AR g) l vs
 | .inst C xs l=>∃ dx m vs,HasX X F g (.inst a dx C m)∧Fld C xs vs m∧L2 (AR g) l vs
 | .dic ks l=>∃ vs,HasX X F g (Nt.dic a (ks.zip vs))∧vs.length=ks.length∧L2 (AR g) l vs
 | .set ns=>HasX X F g (setx X.w a ns)∧okSet ns=true
 | .pool=>HasX X F g (.pool a)
 | _=>True
theorem obT_of {t:TV} {k:MO→Prop} (hv:TR X.w g.R t vv) (h:obT t k):∃ o a,k o∧vv=.ref a∧RdO X F g a o:=by
 cases t with
 | tup l=>obtain ⟨a,vs,e,h1,hz,h2⟩:=hv;exact ⟨_,a,h,e,vs,.inr (.inl h1),hz,treesL.mp h2⟩
 | lst l=>obtain ⟨a,vs,e,h1,hz,h2⟩:=hv;exact ⟨_,a,h,e,vs,.inr (.inl h1),hz,treesL.mp h2⟩
 | obj C xs l=>obtain ⟨a,dx,m,vs,e,h1,h2,h3⟩:=hv;exact ⟨_,a,h,e,dx,m,vs,.inr (.inl h1),h2,treesL.mp h3⟩
 | dic ks l=>obtain ⟨a,vs,e,h1,h2,h3⟩:=hv;exact ⟨_,a,h,e,vs,.inr (.inl h1),h2,treesL.mp h3⟩
 | set ns=>obtain ⟨a,e,h1,h2⟩:=hv;exact ⟨_,a,h,e,.inr (.inl h1),h2⟩
 | _=>exact h.elim
theorem Rp.has (P:Rp X F mem g s) {c:List Ch} {pre post:List Ch} (e:g.chs=pre++(c++post)) (h:ch∈c):HasX X F g ch :=
 .inl (.tail _ (List.mem_append_right _ (List.mem_append_left _ (by rw [e];exact List.mem_append_right _ (List.mem_append_left _ h)))))
noncomputable def GS.at (g:GS w) (pre c post:List Ch):GS w:=⟨pre++(c++post),g.al,g.R⟩
theorem GS.ext {g:GS w} {pre c post:List Ch}:Ext g (g.at pre c post):=⟨fun _ h=>h,[],(List.append_nil _).symm⟩
theorem Rp.new {pre c post:List Ch} {mem':Mem} (P:Rp X F mem g s) (S1:St X.w X.T.hE X.s₀ [] X.R₀ (.frm X.L F.m::(F.cc++((pre++(c++post))++F.rest))) g.R s') (q:MemL (g.at pre c post) g.al mem' (pre++(c++post))):Rp X F mem' (g.at pre c post) s':=⟨S1,P.fr.mono GS.ext,P.cl.mono GS.ext,q⟩
theorem obK_of {k:MO→Prop} (P:Rp X F mem g s) (hv:AR g v vv) (h:obK mem v k):∃ o a,k o∧vv=.ref a∧RdO X F g a o:=by
 cases v with
 | t t=>exact obT_of hv h
 | ref n =>
  obtain ⟨o,ho,hk⟩:=nthK_of h
  obtain ⟨a,ha,rfl⟩:=hv
  obtain ⟨c,pre,post,h2,h3,_⟩:=P.mem.focusA ho ha
  have hs:∀ {p},c=[p]→HasX X F g p:=fun e=>P.has h3 (e▸.head _)
  clear h3 ho
  cases o with
  | fz t=>exact obT_of h2.2 hk
  | fl l=>obtain ⟨_,vs,q1,q0,q2⟩:=h2;exact ⟨_,a,hk,rfl,vs,.inr (.inl q1),q0,q2⟩
  | lst l=>obtain ⟨vs,e,q0,q⟩:=h2;exact ⟨_,a,hk,rfl,vs,hs e,q0,q⟩
  | tup l=>obtain ⟨vs,e,q0,q⟩:=h2;exact ⟨_,a,hk,rfl,vs,hs e,q0,q⟩
  | inst C xs l=>obtain ⟨dx,m,vs,e,q1,q2,q3,q4⟩:=h2;exact ⟨_,a,hk,rfl,dx,m,vs,hs e,q3,q4⟩
  | dic ks l=>obtain ⟨vs,e,q1,q2⟩:=h2;exact ⟨_,a,hk,rfl,vs,hs e,q1,q2⟩
  | set ns=>exact h2.elim
  | pool=>exact ⟨_,a,hk,rfl,hs h2⟩
  | dead=>exact ⟨_,a,hk,rfl,trivial⟩
@[elab_as_elim] theorem obE {C:Value→Prop} {k:MO→Prop} (P:Rp X F mem g s) (hv:AR g v vv) (h:obK mem v k) (f:∀ o a,k o→RdO X F g a o→C (.ref a)):C vv:=by
 obtain ⟨o,a,h,rfl,hr⟩:=obK_of P hv h;exact f _ _ h hr
theorem intK_of {k:Int→Prop} (hv:AR g v vv) (h:intK v k):∃ i t,v=.t (.int i)∧vv=.int i t∧k i:=by
 cases v with
 | ref _=>exact h.elim
 | t v=>cases v with
  | int i=>obtain ⟨t,e⟩:=hv;exact ⟨i,t,rfl,e,h⟩
  | _=>exact h.elim
theorem strK_of {k:Str→Prop} (hv:AR g v vv) (h:strK v k):∃ i t,v=.t (.str i)∧vv=.str i t∧i.length≤1000∧k i:=by
 cases v with
 | ref _=>exact h.elim
 | t v=>cases v with
  | str i=>obtain ⟨z,t,e⟩:=hv;exact ⟨i,t,rfl,e,z,h⟩
  | _=>exact h.elim
theorem boolK_of {k:Bool→Prop} (hv:AR g v vv) (h:boolK v k):∃ i,v=.t (.bool i)∧vv=.bool i∧k i:=by
 cases v with
 | ref _=>exact h.elim
 | t v=>cases v with
  | bool i=>exact ⟨i,rfl,hv,h⟩
  | _=>exact h.elim
@[elab_as_elim] theorem intE {C:Value→Prop} {k:Int→Prop} (hu:AR g u uv) (h:intK u k) (f:∀ i t,k i→C (.int i t)):C uv:=by
 obtain ⟨a,t,_,rfl,h⟩:=intK_of hu h;exact f _ _ h
@[elab_as_elim] theorem strE {C:Value→Prop} {k:Str→Prop} (hu:AR g u uv) (h:strK u k) (f:∀ i t,i.length≤1000→k i→C (.str i t)):C uv:=by
 obtain ⟨a,t,_,rfl,hz,h⟩:=strK_of hu h;exact f _ _ hz h
theorem two_i {r:Int→Int→Prop} {C:Value→Value→Prop} (f:∀ a b t t',r a b→C (.int a t) (.int b t')) (hu:AR g u uv) (hv:AR g v vv) (h:intK u fun a=>intK v fun b=>r a b):C uv vv:=by
 obtain ⟨a,t,_,rfl,h⟩:=intK_of hu h;obtain ⟨b,t,_,rfl,h⟩:=intK_of hv h;exact f _ _ _ _ h
theorem two_s {r:Str→Str→Prop} {C:Value→Value→Prop} (f:∀ a b t t',r a b→C (.str a t) (.str b t')) (hu:AR g u uv) (hv:AR g v vv) (h:strK u fun a=>strK v fun b=>r a b):C uv vv:=by
 obtain ⟨a,t,_,rfl,_,h⟩:=strK_of hu h;obtain ⟨b,t,_,rfl,_,h⟩:=strK_of hv h;exact f _ _ _ _ h
theorem two_b {r:Bool→Bool→Prop} {C:Value→Value→Prop} (f:∀ a b,r a b→C (.bool a) (.bool b)) (hu:AR g u uv) (hv:AR g v vv) (h:boolK u fun a=>boolK v fun b=>r a b):C uv vv:=by
 obtain ⟨a,_,rfl,h⟩:=boolK_of hu h;obtain ⟨b,_,rfl,h⟩:=boolK_of hv h;exact f _ _ h
theorem one_i {r:Int→Prop} {C:Value→Prop} (f:∀ a t,r a→C (.int a t)) (hu:AR g u uv) (h:intK u r):C uv:=by
 obtain ⟨a,t,_,rfl,h⟩:=intK_of hu h;exact f _ _ h
theorem one_s {r:Str→Prop} {C:Value→Prop} (f:∀ a t,r a→C (.str a t)) (hu:AR g u uv) (h:strK u r):C uv:=by
 obtain ⟨a,t,_,rfl,_,h⟩:=strK_of hu h;exact f _ _ h
theorem valK_of {k:Nat→Prop} (hv:AR g v vv) (h:valK v k):∃ a,vv=.ref a∧k a:=by
 cases v with
 | ref _=>exact h.elim
 | t v=>cases v with
  | val u=>cases u with
   | ref a=>exact ⟨a,hv.2,h⟩
   | _=>exact h.elim
  | _=>exact h.elim
@[elab_as_elim] theorem valE {C:Value→Prop} {k:Nat→Prop} (hu:AR g u uv) (h:valK u k) (f:∀ a,k a→C (.ref a)):C uv:=by
 obtain ⟨a,rfl,h⟩:=valK_of hu h;exact f _ h
theorem intT_of {k:List Int→Prop}:∀ {l:List TV},intT l k→∃ is,l=is.map .int∧k is:=fun {l}=>by
 induction l generalizing k with
 | nil=>exact fun h=>⟨[],rfl,h⟩
 | cons v l ih =>
  intro h
  cases v with
  | int i=>obtain ⟨is,e,h⟩:=ih (k:=fun is=>k (i::is)) h;exact ⟨i::is,congrArg _ e,h⟩
  | _=>exact h.elim
theorem strT_of {k:List Str→Prop}:∀ {l:List TV},strT l k→∃ is,l=is.map .str∧k is:=fun {l}=>by
 induction l generalizing k with
 | nil=>exact fun h=>⟨[],rfl,h⟩
 | cons v l ih =>
  intro h
  cases v with
  | str i=>obtain ⟨is,e,h⟩:=ih (k:=fun is=>k (i::is)) h;exact ⟨i::is,congrArg _ e,h⟩
  | _=>exact h.elim
theorem boolT_of {k:List Bool→Prop}:∀ {l:List TV},boolT l k→∃ is,l=is.map .bool∧k is:=fun {l}=>by
 induction l generalizing k with
 | nil=>exact fun h=>⟨[],rfl,h⟩
 | cons v l ih =>
  intro h
  cases v with
  | bool i=>obtain ⟨is,e,h⟩:=ih (k:=fun is=>k (i::is)) h;exact ⟨i::is,congrArg _ e,h⟩
  | _=>exact h.elim
theorem ints_L2 {w:World} {R:List Ch} {ns:List Int} {vs:List Value}:TRs w R (ns.map .int) vs↔IntsAre vs ns:=by
 constructor
 ·intro h
  induction ns generalizing vs with
  | nil=>cases (show vs=[] from h);exact .nil
  | cons n ns ih =>
   obtain ⟨_,us,rfl,⟨t,rfl⟩,h⟩:=h
   exact .cons _ _ (ih h)
 ·intro h
  induction h with
  | nil=>rfl
  | cons _ t h ih=>exact ⟨_,_,rfl,⟨_,rfl⟩,ih⟩
theorem strs_L2 {w:World} {R:List Ch} {ns:List Str} {vs:List Value} (h:TRs w R (ns.map .str) vs):StrsAre vs ns:=by
 induction ns generalizing vs with
 | nil=>cases (show vs=[] from h);exact .nil
 | cons n ns ih=>obtain ⟨_,us,rfl,⟨_,t,rfl⟩,h⟩:=h;exact .cons _ _ (ih h)
theorem bools_L2 {w:World} {R:List Ch} {ns:List Bool} {vs:List Value} (h:TRs w R (ns.map .bool) vs):vs=ns.map .bool:=by
 induction ns generalizing vs with
 | nil=>exact h
 | cons n ns ih=>obtain ⟨_,us,rfl,rfl,h⟩:=h;rw [ih h];rfl
theorem lstT_of {k:List TV→Prop} (P:Rp X F mem g s) (hv:AR g v vv) (h:lstT mem v k):∃ l a vs,k l∧vv=.ref a∧HasX X F g (.lst a vs)∧vs.length≤1000∧TRs X.w g.R l vs:=by
 cases v with
 | t v=>cases v with
  | lst l=>obtain ⟨a,vs,e,h1,h2,h3⟩:=hv;exact ⟨l,a,vs,h,e,.inr (.inl h1),h2,h3⟩
  | _=>exact h.elim
 | ref n =>
  obtain ⟨o,a,hk,e,hr⟩:=obK_of P hv h
  cases o with
  | lst l =>
   obtain ⟨ts,rfl,hk2⟩:=treesK_of (k:=k) hk
   obtain ⟨vs,h1,hz,h2⟩:=hr
   exact ⟨ts,a,vs,hk2,e,h1,hz,treesL.mpr h2⟩
  | _=>exact hk.elim
@[elab_as_elim] theorem lstE {C:Value→Prop} {k:List TV→Prop} (P:Rp X F mem g s) (hv:AR g v vv) (h:lstT mem v k) (f:∀ l a vs,k l→HasX X F g (.lst a vs)→vs.length≤1000→TRs X.w g.R l vs→C (.ref a)):C vv:=by
 obtain ⟨l,a,vs,h,rfl,I,hz,hl⟩:=lstT_of P hv h;exact f _ _ _ h I hz hl
theorem seqT_of {k:List TV→Prop} (P:Rp X F mem g s) (hv:AR g v vv) (h:seqT mem v k):∃ l a vs,k l∧vv=.ref a∧(HasX X F g (.lst a vs)∨HasX X F g (.tup a vs))∧TRs X.w g.R l vs:=by
 cases v with
 | t v=>cases v with
  | lst l=>obtain ⟨a,vs,e,h1,h2,h3⟩:=hv;exact ⟨l,a,vs,h,e,.inl (.inr (.inl h1)),h3⟩
  | tup l=>obtain ⟨a,vs,e,h1,h2,h3⟩:=hv;exact ⟨l,a,vs,h,e,.inr (.inr (.inl h1)),h3⟩
  | _=>exact h.elim
 | ref n =>
  obtain ⟨o,a,hk,e,hr⟩:=obK_of P hv h
  cases o with
  | lst l =>
   obtain ⟨ts,rfl,hk2⟩:=treesK_of (k:=k) hk
   obtain ⟨vs,h1,hz,h2⟩:=hr
   exact ⟨ts,a,vs,hk2,e,.inl h1,treesL.mpr h2⟩
  | _=>exact hk.elim
theorem tupT_of {k:List TV→Prop} (hv:AR g v vv) (h:tupT v k):∃ l a vs,k l∧vv=.ref a∧Ch.tup a vs∈g.R∧vs.length≤1000∧TRs X.w g.R l vs:=by
 cases v with
 | t v=>cases v with
  | tup l=>obtain ⟨a,vs,e,h1,h2,h3⟩:=hv;exact ⟨l,a,vs,h,e,h1,h2,h3⟩
  | _=>exact h.elim
 | ref n=>exact h.elim
@[elab_as_elim] theorem tupE {C:Value→Prop} {k:List TV→Prop} (hv:AR g v vv) (h:tupT v k) (f:∀ l a vs,k l→Ch.tup a vs∈g.R→vs.length≤1000→TRs X.w g.R l vs→C (.ref a)):C vv:=by
 obtain ⟨l,a,vs,h,rfl,I,hz,hl⟩:=tupT_of hv h;exact f _ _ _ h I hz hl
theorem isNone_of {k:Bool→Prop} (hv:AR g v vv) (h:isNone v k):(vv=.none∧k true)∨(vv≠.none∧plainIs vv .none=true∧k false):=by
 cases v with
 | ref n=>obtain ⟨a,_,rfl⟩:=hv;exact .inr ⟨(fun e=>nomatch e),rfl,h⟩
 | t v=>cases v with
  | none=>exact .inl ⟨hv,h⟩
  | val v=>exact h.elim
  | bool b=>rw [show vv=_ from hv];exact .inr ⟨(fun e=>nomatch e),rfl,h⟩
  | int b=>obtain ⟨_,rfl⟩:=hv;exact .inr ⟨(fun e=>nomatch e),rfl,h⟩
  | str b=>obtain ⟨_,_,rfl⟩:=hv;exact .inr ⟨(fun e=>nomatch e),rfl,h⟩
  | tup l=>obtain ⟨_,_,rfl,_⟩:=hv;exact .inr ⟨(fun e=>nomatch e),rfl,h⟩
  | lst l=>obtain ⟨_,_,rfl,_⟩:=hv;exact .inr ⟨(fun e=>nomatch e),rfl,h⟩
  | obj C xs l=>obtain ⟨_,_,_,_,rfl,_⟩:=hv;exact .inr ⟨(fun e=>nomatch e),rfl,h⟩
  | dic ks l=>obtain ⟨_,_,rfl,_⟩:=hv;exact .inr ⟨(fun e=>nomatch e),rfl,h⟩
  | set l=>obtain ⟨_,rfl,_⟩:=hv;exact .inr ⟨(fun e=>nomatch e),rfl,h⟩
theorem AR.handed (hv:AR g v vv):handedIn vv=true:=by
 cases v with
 | ref n=>obtain ⟨a,_,rfl⟩:=hv;rfl
 | t v=>cases v with
  | none=>rw [show vv=_ from hv];rfl
  | val v=>rw [hv.2];exact hv.1
  | bool b=>rw [show vv=_ from hv];rfl
  | int b=>obtain ⟨_,rfl⟩:=hv;rfl
  | str b=>obtain ⟨_,_,rfl⟩:=hv;rfl
  | tup l=>obtain ⟨_,_,rfl,_⟩:=hv;rfl
  | lst l=>obtain ⟨_,_,rfl,_⟩:=hv;rfl
  | obj C xs l=>obtain ⟨_,_,_,_,rfl,_⟩:=hv;rfl
  | dic ks l=>obtain ⟨_,_,rfl,_⟩:=hv;rfl
  | set l=>obtain ⟨_,rfl,_⟩:=hv;rfl
theorem truK_of {k:Bool→Prop} {Q:Bool→Shared→Prop} (P:Rp X F mem g s) (hv:AR g v vv) (h:truK v k) (kk:∀ d s',k d→Rp X F mem g s'→Q d s'):wpAny (mo X.w) X.A (truthy vv) Q E s:=by
 cases v with
 | ref n=>exact h.elim
 | t v=>cases v with
  | none=>rw [show vv=_ from hv];exact PyProof.Rows.truthy_none (kk _ _ h P)
  | bool b=>rw [show vv=_ from hv];exact wpAny_truthy_bool (kk _ _ h P)
  | str x=>obtain ⟨z,t,rfl⟩:=hv;exact PySem.P.truthy_str (by lia) (kk _ _ h (P.step (P.st.tok _)))
  | _=>exact h.elim
end
noncomputable def Fin (X:Cx) (F:Fx) (mem:Mem) (g:GS X.w) (k:TV→Prop) (Q:Value→Shared→Prop):Prop :=
 ∀ t tv s' g',k t→Rp X F mem g' s'→Ext g g'→TR X.w g'.R t tv→Q tv s'
section
variable {X:Cx} {F:Fx} {mem:Mem} {g:GS X.w} {s s':Shared} {E:Value→Shared→Prop} {Q:Value→Shared→Prop} {v u:AV} {uv vv:Value} {a:Addr} {ch:Ch} {k:TV→Prop}
noncomputable abbrev WP (X:Cx) {β:Type} (p:Sem β) (Q:β→Shared→Prop) (E:Value→Shared→Prop) (s:Shared):Prop:=wpAny (mo X.w) X.A p Q E s
noncomputable abbrev St' (X:Cx) (F:Fx) (g:GS X.w) (s:Shared):Prop:=St X.w X.T.hE X.s₀ [] X.R₀ (.frm X.L F.m::(F.cc++(g.chs++F.rest))) g.R s
theorem Fin.b (kk:Fin X F mem g k Q) {b:Bool} (h:k (.bool b)) (P:Rp X F mem g s):Q (.bool b) s:=kk _ _ s g h P .rfl rfl
theorem Fin.i (kk:Fin X F mem g k Q) {i:Int} {t:Tok} (h:k (.int i)) (P:Rp X F mem g s) (S:St' X F g s'):Q (.int i t) s':=kk _ _ s' g h (P.step S) .rfl ⟨t,rfl⟩
theorem Fin.st (kk:Fin X F mem g k Q) {i:Str} {t:Tok} (h:k (.str i)) (hz:i.length≤1000) (P:Rp X F mem g s) (S:St' X F g s'):Q (.str i t) s':=kk _ _ s' g h (P.step S) .rfl ⟨hz,t,rfl⟩
theorem Fin.l (kk:Fin X F mem g k Q) {l:List TV} {vs:List Value} (h:k (.lst l)) (hz:vs.length≤1000) (hl:TRs X.w g.R l vs) (P:Rp X F mem g s) (S:St X.w X.T.hE X.s₀ [] X.R₀ (.lst a vs::.frm X.L F.m::(F.cc++(g.chs++F.rest))) g.R s'):Q (.ref a) s' :=
 kk _ _ s' (g.frz _) h (P.frz S) .frz ⟨a,vs,rfl,.head _,hz,TRs.mono Ext.frz.R hl⟩
theorem Fin.t (kk:Fin X F mem g k Q) {l:List TV} {vs:List Value} (h:k (.tup l)) (hz:vs.length≤1000) (hl:TRs X.w g.R l vs) (P:Rp X F mem g s) (S:St X.w X.T.hE X.s₀ [] X.R₀ (.tup a vs::.frm X.L F.m::(F.cc++(g.chs++F.rest))) g.R s'):Q (.ref a) s' :=
 kk _ _ s' (g.frz _) h (P.frz S) .frz ⟨a,vs,rfl,.head _,hz,TRs.mono Ext.frz.R hl⟩
theorem TRs.len {w:World} {R:List Ch} {l:List TV} {vs:List Value} (h:TRs w R l vs):vs.length=l.length:=(TRs_iff.mp h).len
theorem s_isN (P:Rp X F mem g s) (hu:AR g u uv) (h:op1 .isN mem u k) (kk:Fin X F mem g k Q):WP X (compareOp .Is uv .none) Q E s:=by
 rcases isNone_of (k:=fun b=>k (.bool b)) hu h with ⟨rfl,h⟩ | ⟨h1,h2,h⟩
 ·exact wpAny_is_self rfl (kk.b h P)
 ·exact wpAny_is_other h2 h1 (kk.b h P)
theorem s_isNN (P:Rp X F mem g s) (hu:AR g u uv) (h:op1 .isNN mem u k) (kk:Fin X F mem g k Q):WP X (compareOp .IsNot uv .none) Q E s:=by
 rcases isNone_of (k:=fun b=>k (.bool (!b))) hu h with ⟨rfl,h⟩ | ⟨h1,h2,h⟩
 ·exact wpAny_isNot_self rfl (kk.b h P)
 ·exact wpAny_isNot_other h2 h1 (kk.b h P)
theorem s_neg (P:Rp X F mem g s) (hu:AR g u uv) (h:op1 .neg mem u k) (kk:Fin X F mem g k Q):WP X (unaryOp .USub uv) Q E s:=by
 refine intE hu h fun i t h=>?_
 exact i_neg P.st fun s1 t1 S1=>kk.i h P S1
theorem ne_nil {b:Addr} {l:Addr} {vs:List Value} (hl:(Ch.lst l vs).At X.w s.heap) (hb:(Ch.lst b []).At X.w s.heap) (hu:X.A.units<cLine) (q:Q (.bool (decide (vs≠[]))) s):WP X (compareOp .NotEq (.ref l) (.ref b)) Q E s:=by
 cases vs with
 | nil=>exact PySem.SeqAt.RcNeAt.lists (e:=fun _=>true) (lst_isl hl) (lst_isl hb) rfl hu (fun j h1 h2=>by simp at h1) _ X.w E Q q
 | cons v vs=>exact PySem.SeqAt.RcNeAt.lists_lengths (lst_isl hl) (lst_isl hb) rfl hu _ X.w E Q (by simpa using q)
theorem eq_nil {b:Addr} {l:Addr} {vs:List Value} (hl:(Ch.lst l vs).At X.w s.heap) (hb:(Ch.lst b []).At X.w s.heap) (hu:X.A.units<cLine) (q:Q (.bool (decide (vs=[]))) s):WP X (compareOp .Eq (.ref l) (.ref b)) Q E s:=by
 cases vs with
 | nil=>exact PySem.SeqAt.eq_listAt (e:=fun _=>true) (lst_isl hl) (lst_isl hb) rfl hu (fun j h1 h2=>by simp at h1) q
 | cons v vs=>exact PySem.SeqAt.eq_list_lengthsAt (lst_isl hl) (lst_isl hb) rfl hu (by simpa using q)
theorem thin {w:World} {hE:Heap} {s₀ s:Shared} {R₀ c c' R:List Ch} (S:St w hE s₀ [] R₀ c R s) (h:c'.Sublist c):St w hE s₀ [] R₀ c' R s:=by
 have sub:(fps c').Sublist (fps c):=by
  clear S
  induction h with
  | slnil=>exact .slnil
  | cons a h ih=>exact ih.trans (List.sublist_append_right _ _)
  | cons_cons a h ih=>exact List.Sublist.append (.refl _) ih
 exact ⟨S.base,S.keep,(fun _ h=>nomatch h),fun p hp=>S.own p (h.subset hp),S.fz,sub.nodup S.nd,fun a ha=>S.ownf a (sub.subset ha),S.sub,S.fresh,S.gens,S.os,S.drawn⟩
theorem s_nil (o:Bool) {b:Addr} (hu':X.A.units<cLine) (P:Rp X F mem g s) (hu:AR g u uv) (h:op1 (if o then .nnil else .enil) mem u k) (S:St X.w X.T.hE X.s₀ [] X.R₀ (.lst b []::.frm X.L F.m::(F.cc++(g.chs++F.rest))) g.R s') (kk:Fin X F mem g k Q) :
  WP X (compareOp (if o then .NotEq else .Eq) uv (.ref b)) Q E s':=by
 have S1:=thin S (List.sublist_cons_self _ _)
 have key:∀ {l:List TV} {vs:List Value},TRs X.w g.R l vs→vs.isEmpty=l.isEmpty:=fun {l vs} hl=>by
  cases l with
  | nil=>rw [show vs=[] from hl];rfl
  | cons _ _=>obtain ⟨u,us,e,_⟩:=hl;rw [e];rfl
 cases o with
 | true =>
  obtain ⟨l,a,vs,h,rfl,I,_,hl⟩:=lstT_of (k:=fun l=>k (.bool (!l.isEmpty))) P hu h
  refine ne_nil (I.at_ S1) (S.own _ (.head _)) hu' ?_
  have:decide (vs≠[])=!l.isEmpty:=by rw [← key hl];cases vs<;>rfl
  rw [this];exact kk.b h (P.step S1)
 | false =>
  refine lstE (k:=fun l=>k (.bool l.isEmpty)) P hu h fun l a vs h I _ hl=>?_
  refine eq_nil (I.at_ S1) (S.own _ (.head _)) hu' ?_
  have:decide (vs=[])=l.isEmpty:=by rw [← key hl];cases vs<;>rfl
  rw [this];exact kk.b h (P.step S1)
noncomputable def fn1:O1→Option Value
 | .len=>some (.builtin "len") | .any=>some (.builtin "any") | .all=>some (.builtin "all") | .list=>some (.type "list") | .tuple=>some (.type "tuple") | .sorted=>some (.builtin "sorted")
 | .set=>some (.type "set") | .bool=>some (.type "bool") | .int=>some (.type "int") | .str=>some (.type "str")
 | _=>none
theorem s_fn1 (hh:X.A.handled=none) (o:O1) {f:Value} (hf:fn1 o=some f) (P:Rp X F mem g s) (hu:AR g u uv) (h:op1 o mem u k) (kk:Fin X F mem g k Q):WP X (PySem.call f [uv]) Q E s:=by
 cases o with
 | len =>
  cases hf
  have key:∀ {o:MO} {a:Addr},lenO o (fun n=>k (.int n))→RdO X F g a o→WP X (PySem.call (.builtin "len") [.ref a]) Q E s:=by
   intro o a h hr
   cases o with
   | lst l=>obtain ⟨vs,I,hz,hl⟩:=hr;exact l_lenH P.st I hz fun s1 t S1=>by rw [hl.len];exact kk.i h P S1
   | tup l=>obtain ⟨vs,I,hz,hl⟩:=hr;exact t_len (tup_ist (I.at_ P.st)) (by lia) P.st fun s1 t S1=>by rw [hl.len];exact kk.i h P S1
   | set l=>exact x_len P.st hr.1 hr.2 fun s1 t S1=>kk.i h P S1
   | _=>exact h.elim
  cases u with
  | ref n=>refine obE P hu h fun o a h hr=>?_;exact key h hr
  | t v =>
   have h2:obT v (fun o=>lenO o fun n=>k (.int n)):=by
    cases v with
    | lst l=>show k (.int (l.map AV.t).length);rw [List.length_map];exact h
    | tup l=>show k (.int (l.map AV.t).length);rw [List.length_map];exact h
    | set l=>exact h
    | _=>exact h.elim
   obtain ⟨o,a,h,rfl,hr⟩:=obT_of (X:=X) (F:=F) (g:=g) hu h2;exact key h hr
 | any =>
  cases hf
  obtain ⟨l,a,vs,h,rfl,I,_,hl⟩:=lstT_of (k:=fun l=>boolT l fun bs=>k (.bool (bs.any id))) P hu h
  obtain ⟨bs,rfl,h'⟩:=boolT_of h
  exact l_any hh P.st I (bools_L2 hl) fun s1 S1=>kk.b h' (P.step S1)
 | all =>
  cases hf
  obtain ⟨l,a,vs,h,rfl,I,_,hl⟩:=lstT_of (k:=fun l=>boolT l fun bs=>k (.bool (bs.all id))) P hu h
  obtain ⟨bs,rfl,h'⟩:=boolT_of h
  exact l_all hh P.st I (bools_L2 hl) fun s1 S1=>kk.b h' (P.step S1)
 | bool =>
  cases hf
  cases u with
  | ref n=>exact h.elim
  | t v=>cases v with
   | bool b=>rw [show uv=_ from hu];exact PySem.call_bool_bool (kk.b h P)
   | none=>rw [show uv=_ from hu];exact PySem.call_bool_none (kk.b h P)
   | _=>exact h.elim
 | int =>
  cases hf
  cases u with
  | ref n=>exact h.elim
  | t v=>cases v with
   | bool b=>rw [show uv=_ from hu];exact i_of_bool P.st fun s1 t S1=>kk.i h P S1
   | int i=>obtain ⟨t,rfl⟩:=hu;exact call_int_int (kk.i h P P.st)
   | _=>exact h.elim
 | list =>
  cases hf
  refine lstE (k:=fun l=>k (.lst l)) P hu h fun l a vs h I hz hl=>?_
  exact l_copy P.st I hz fun s1 d S1=>kk.l h hz hl P S1
 | tuple =>
  cases hf
  refine lstE (k:=fun l=>k (.tup l)) P hu h fun l a vs h I hz hl=>?_
  exact t_of P.st I hz fun s1 d S1=>kk.t h hz hl P S1
 | sorted =>
  cases hf
  refine obE P hu h fun o a h hr=>?_
  cases o with
  | dic ks l =>
   obtain ⟨hz,h⟩:=(show _∧_ from h)
   obtain ⟨vs,I,hl,hvs⟩:=hr
   have e:(ks.zip vs).map (·.1)=ks:=List.map_fst_zip (Nat.le_of_eq hl.symm)
   have hz':(ks.zip vs).length<64:=by rw [List.length_zip];exact Nat.lt_of_le_of_lt (Nat.min_le_left _ _) (Nat.lt_of_le_of_lt (shortK_of hz) (by decide))
   refine d_sorted hh P.st I hz' fun s1 d vs' ns h1 h2 h3 S1=>?_
   rw [e] at h2
   have h4:TRs X.w g.R (ns.map .int) vs':=ints_L2.mpr h1
   exact kk.l (h ns h2 h3) (by rw [h4.len,List.length_map,h2.length_eq];exact Nat.le_trans (shortK_of hz) (by decide)) h4 P S1
  | set ks =>
   refine x_sortset hh P.st hr.1 hr.2 fun s1 d vs' ns h1 h2 S1=>?_
   have h4:TRs X.w g.R (ns.map .int) vs':=ints_L2.mpr h1
   exact kk.l (h ns h2) (by rw [h4.len,List.length_map,h2.length_eq];exact Nat.le_trans (okSet_z hr.2) (by decide)) h4 P S1
  | _=>exact h.elim
 | set =>
  cases hf
  refine lstE (k:=fun l=>intT l fun ns=>okSet ns=true∧k (.set ns)) P hu h fun l a vs h I _ hl=>?_
  obtain ⟨ns,rfl,ok,h'⟩:=intT_of h
  exact x_set hh P.st I (ints_L2.mp hl) ok fun s1 d S1=>kk _ _ s1 (g.frz _) h' (P.frz S1) .frz ⟨d,rfl,.head _,ok⟩
 | str =>
  cases hf
  refine intE (k:=fun i=>(0≤i∧i<3)∧k (.str ⟨#[48+i.toNat]⟩)) hu h fun i t h_=>?_;obtain ⟨⟨h0,h1⟩,h⟩:=h_
  rcases in3 ⟨h0,h1⟩ with rfl | rfl | rfl
  ·exact PySem.P.str_of_int (by decide +kernel) (by rw [show Str.ofString (toString (0:Int))=⟨#[48]⟩ by decide +kernel];exact kk.st h (by decide +kernel) P (P.st.tok _))
  ·exact PySem.P.str_of_int (by decide +kernel) (by rw [show Str.ofString (toString (1:Int))=⟨#[49]⟩ by decide +kernel];exact kk.st h (by decide +kernel) P (P.st.tok _))
  ·exact PySem.P.str_of_int (by decide +kernel) (by rw [show Str.ofString (toString (2:Int))=⟨#[50]⟩ by decide +kernel];exact kk.st h (by decide +kernel) P (P.st.tok _))
 | _=>cases hf
end
section
variable {X:Cx} {F:Fx} {mem:Mem} {g:GS X.w} {s s':Shared} {E:Value→Shared→Prop} {Q:Value→Shared→Prop} {v u:AV} {uv vv:Value} {a:Addr} {ch:Ch} {k:TV→Prop}
noncomputable def cm2:O2→Option CmpOp
 | .eqZ=>some .Eq | .eqI=>some .Eq | .neI=>some .NotEq | .ltI=>some .Lt | .leI=>some .LtE | .gtI=>some .Gt | .geI=>some .GtE | .eqN=>some .Eq | .eqS=>some .Eq | .neS=>some .NotEq | .eqB=>some .Eq | .neB=>some .NotEq
 | .inS=>some .In | .inI=>some .In | .niI=>some .NotIn | .inD=>some .In | .inQ=>some .In | .niQ=>some .NotIn | .inG=>some .In | .niG=>some .NotIn | .niX=>some .NotIn
 | .eqR=>some .Eq | .ltR=>some .Lt | .gtR=>some .Gt | .neL=>some .NotEq
 | _=>none
theorem keys_at {K:Type} [DecidableEq K] {kvs:List (K×Value)} {x:K}:(valueAt kvs x).isSome=(kvs.map (·.1)).any fun y=>decide (y=x):=by
 induction kvs with
 | nil=>rfl
 | cons q l ih =>
  obtain ⟨y,z⟩:=q
  by_cases e:y=x
  ·subst e;simp [valueAt]
  ·have:valueAt ((y,z)::l) x=valueAt l x:=by simp [valueAt,e]
   rw [this,ih];simp [e]
theorem zip_at {kvs:List (Int×Value)} {x:Int}:(valueAt kvs x).isSome=(kvs.map (·.1)).any (·==x):=keys_at
theorem tur_any {t1 t2 t3 t4 t5:Tok} (x:Str):(valueAt ([("=",.str "=" t1),("<",.str ">" t2),("<=",.str ">=" t3),(">",.str "<" t4),(">=",.str "<=" t5)]:List (Str×Value)) x).isSome=turnT.any (·.1==x):=by
 rw [keys_at]
 have:∀ y:Str,(y==x)=decide (y=x):=fun y=>by by_cases e:y=x<;>simp [e]
 simp only [turnT,List.any_cons,List.any_nil,List.map_cons,List.map_nil,this]
theorem tw_row {w:World} {R:List Ch}:∀ {n:Nat} {t:TV} {v u:Value},rowB n t=true→TR w R t v→TR w R t u→Tw R n v u:=by
 have pl:∀ {t:TV} {v u:Value},TR w R t v→TR w R t u→plainB t=true→Pl v u:=fun {t v u} h1 h2 h=>by
  cases t with
  | none=>exact .inl ⟨h1,h2⟩
  | bool b=>exact .inr (.inr (.inr ⟨b,h1,h2⟩))
  | int i=>obtain ⟨t,rfl⟩:=h1;obtain ⟨t',rfl⟩:=h2;exact .inr (.inl ⟨i,t,t',rfl,rfl⟩)
  | str i=>obtain ⟨_,t,rfl⟩:=h1;obtain ⟨_,t',rfl⟩:=h2;exact .inr (.inr (.inl ⟨i,t,t',rfl,rfl⟩))
  | _=>cases h
 intro n
 induction n with
 | zero=>exact fun h h1 h2=>pl h1 h2 h
 | succ n ih =>
  intro t v u h h1 h2
  cases t with
  | tup l =>
   obtain ⟨a,vs,rfl,i1,_,q1⟩:=h1
   obtain ⟨b,ws,rfl,i2,_,q2⟩:=h2
   refine .inr ⟨a,b,vs,ws,rfl,rfl,i1,i2,q1.len.trans q2.len.symm,fun j x y e1 e2=>?_⟩
   have hj:j<l.length:=by rw [← q1.len];exact (List.getElem?_eq_some_iff.mp e1).1
   obtain ⟨x',f1,r1⟩:=(TRs_iff.mp q1).nth (List.getElem?_eq_getElem hj)
   obtain ⟨y',f2,r2⟩:=(TRs_iff.mp q2).nth (List.getElem?_eq_getElem hj)
   rw [e1] at f1;cases f1
   rw [e2] at f2;cases f2
   exact ih (List.all_eq_true.mp h _ (List.getElem_mem hj)) r1 r2
  | _=>exact .inl (pl h1 h2 h)
theorem tri3_of {C:List Value→Prop} {k:Int→Int→Str→Prop} {l:List TV} {vs:List Value} (q:TRs X.w g.R l vs) (h:tri3 l k) (f:∀ a b x t1 t2 t3,k a b x→C [.int a t1,.int b t2,.str x t3]):C vs:=by
 cases l with
 | nil=>exact h.elim
 | cons a l=>cases l with
  | nil=>exact h.elim
  | cons b l=>cases l with
   | nil=>exact h.elim
   | cons x l=>cases l with
    | cons _ _=>exact h.elim
    | nil =>
     obtain ⟨v1,_,rfl,p1,v2,_,rfl,p2,v3,_,rfl,p3,rfl⟩:=q
     refine one_i (g:=g) (C:=fun v=>C [v,v2,v3]) (fun a t1 h=>?_) (show AR g (.t a) v1 from p1) h
     refine one_i (g:=g) (C:=fun v=>C [_,v,v3]) (fun b t2 h=>?_) (show AR g (.t b) v2 from p2) h
     exact one_s (g:=g) (C:=fun v=>C [_,_,v]) (fun x t3 h=>f _ _ _ _ _ _ h) (show AR g (.t x) v3 from p3) h
theorem z_fst {i j i' j':Int} {x y:Str} {l1 l2 z:Bool} (h0:x=y∨i≠j) (h1:i=j→l1=false) (h2:i'=j'→l2=false):fstNo (of3 (i==j) (i'==j') (x==y)) (of3 l1 l2 z) false (List.range 3)=(l1||(i==j&&l2)):=by
 have k:∀ e1 e2 e3 l1 l2 z:Bool,(e1=true→l1=false)→(e2=true→l2=false)→(e3=true∨e1=false)→fstNo (of3 e1 e2 e3) (of3 l1 l2 z) false (List.range 3)=(l1||(e1&&l2)):=by decide +kernel
 exact k _ _ _ _ _ _ (fun e=>h1 (eq_of_beq e)) (fun e=>h2 (eq_of_beq e)) (h0.imp (fun e=>by rw [e];exact BEq.rfl) fun n=>beq_eq_false_iff_ne.mpr n)
noncomputable def RK (g:GS X.w) (uv vv:Value) (kd:Bool→Bool→Bool→Prop):Prop:=∃ a b vs ws,uv=.ref a∧vv=.ref b∧Ch.tup a vs∈g.R∧Ch.tup b ws∈g.R∧vs.length=3∧ws.length=3 ∧
  ∃ e l g:Nat→Bool,(∀ j (h1:j<vs.length) (h2:j<ws.length),Cmp1 vs[j] ws[j] (e j) (l j) (g j))∧kd ((List.range 3).all e) (fstNo e l false (List.range 3)) (fstNo e g false (List.range 3))
theorem rk_of {kd:Bool→Bool→Bool→Prop} (hu:AR g u uv) (hv:AR g v vv) (h:rkK u v kd):RK g uv vv kd:=by
 refine tupE hu h fun l1 a vs h i1 _ q1=>?_
 refine tri3_of (C:=fun vs=>Ch.tup a vs∈g.R→RK g (.ref a) vv kd) q1 h (fun x1 x2 x3 t1 t2 t3 h i1=>?_) i1
 refine tupE hv h fun l2 b ws h i2 _ q2=>?_
 refine tri3_of (C:=fun ws=>Ch.tup b ws∈g.R→RK g (.ref a) (.ref b) kd) q2 h (fun y1 y2 y3 t4 t5 t6 h i2=>?_) i2
 refine ⟨a,b,_,_,rfl,rfl,i1,i2,rfl,rfl,_,_,_,cmp3 (.int x1 y1 _ _) (.int x2 y2 _ _) (.str x3 y3 _ _),?_⟩
 have ne:∀ {i j:Int},i=j→decide (i<j)=false:=fun e=>decide_eq_false (by lia)
 have ne':∀ {i j:Int},i=j→decide (j<i)=false:=fun e=>decide_eq_false (by lia)
 rw [z_fst h.1 ne ne,z_fst h.1 ne' ne',show (List.range 3).all (of3 (x1==y1) (x2==y2) (x3==y3))=(x1==y1&&x2==y2&&x3==y3) from by cases x1==y1<;>cases x2==y2<;>cases x3==y3<;>rfl]
 exact h.2
theorem num_none {t1 t2:Tok} {A:Around}:∀ y,y∈#[Value.str "integer" t1,Value.str "numeric" t2]→PySem.SeqAt.EqAt A s y .none false:=by
 intro y hy
 simp only [Array.mem_def,List.mem_cons,List.not_mem_nil,or_false] at hy
 rcases hy with rfl | rfl<;>exact PySem.SeqAt.EqAt.str_none _ _
theorem num_str {t1 t2:Tok} {A:Around} {x:Str} {t:Tok}:∀ y,y∈#[Value.str "integer" t1,Value.str "numeric" t2]→PySem.SeqAt.EqAt A s y (.str x t) (y.isStr x):=by
 intro y hy
 simp only [Array.mem_def,List.mem_cons,List.not_mem_nil,or_false] at hy
 rcases hy with rfl | rfl<;>exact (eqGives_str _ _ _ _).at _ _
theorem s_inG (ok:X.Ok) (n:Bool) (P:Rp X F mem g s) (hu:AR g u uv) (hv:AR g v vv) (h:inGK n u v k) (kk:Fin X F mem g k Q):WP X (compareOp (if n then .NotIn else .In) uv vv) Q E s:=by
 refine valE hv h fun a h=>?_
 obtain ⟨rfl,h⟩:=brN_lit h
 obtain ⟨t1,t2,m,ht⟩:=ok.W.num
 have it:s.heap.IsTuple 455 #[.str "integer" t1,.str "numeric" t2]:=⟨_,P.st.base _ _ ht,rfl,m,rfl⟩
 have go:∀ {f:Value→Bool} {b},(∀ y,y∈#[Value.str "integer" t1,Value.str "numeric" t2]→PySem.SeqAt.EqAt X.A.in1 s y uv (f y))→ngK n b k→#[Value.str "integer" t1,Value.str "numeric" t2].any f=b→WP X (compareOp (if n then .NotIn else .In) uv (.ref 455)) Q E s:=fun hf h e=>by
  cases e
  cases n with
  | true=>exact PySem.SeqAt.notIn_tupleAt _ it hf (kk.b h P)
  | false=>exact PySem.SeqAt.in_tupleAt _ it hf (kk.b h P)
 cases u with
 | ref _=>exact h.elim
 | t u=>cases u with
  | none=>cases (show uv=_ from hu);exact go num_none h (by rw [List.any_toArray];rfl)
  | str x=>obtain ⟨_,t,rfl⟩:=hu;exact go num_str h (by rw [List.any_toArray];rfl)
  | _=>exact h.elim
theorem s_rk (ok:X.Ok) {kd:Bool→Bool→Bool→Prop} (P:Rp X F mem g s) (hu:AR g u uv) (hv:AR g v vv) (h:rkK u v kd) :
  (∀ Q:Value→Shared→Prop,(∀ e l gg,kd e l gg→Q (.bool e) s)→WP X (compareOp .Eq uv vv) Q E s)∧(∀ Q:Value→Shared→Prop,(∀ e l gg,kd e l gg→Q (.bool l) s)→WP X (compareOp .Lt uv vv) Q E s)∧(∀ Q:Value→Shared→Prop,(∀ e l gg,kd e l gg→Q (.bool gg) s)→WP X (compareOp .Gt uv vv) Q E s):=by
 obtain ⟨a,b,vs,ws,rfl,rfl,i1,i2,z1,z2,e,l,gg,hcmp,h⟩:=rk_of hu hv h
 have hun:X.A.units<cLine:=ok.rm.room
 have he:∀ j (h1:j<vs.length) (h2:j<ws.length),PySem.SeqAt.EqAt X.A.in1 s vs[j] ws[j] (e j):=fun j h1 h2=>(hcmp j h1 h2).eqAt _ _
 refine ⟨fun Q q=>?_,fun Q q=>?_,fun Q q=>?_⟩
 ·exact eq_tups (e:=e) (P.st.atR i1) (P.st.atR i2) (z1.trans z2.symm) hun he (by rw [z1];exact q _ _ _ h)
 ·exact lt_tups (e:=e) (r:=l) (P.st.atR i1) (P.st.atR i2) (z1.trans z2.symm) hun he (fun j h1 h2 _ _ _ _ _ hq=>(hcmp j h1 h2).lt hq) (by rw [z1];exact q _ _ _ h)
 ·exact gt_tups (e:=e) (r:=gg) (P.st.atR i1) (P.st.atR i2) (z1.trans z2.symm) hun he (fun j h1 h2 _ _ _ _ _ hq=>(hcmp j h1 h2).gt hq) (by rw [z1];exact q _ _ _ h)
theorem s_cm2 (ok:X.Ok) (o:O2) {c:CmpOp} (hc:cm2 o=some c) (P:Rp X F mem g s) (hu:AR g u uv) (hv:AR g v vv) (h:op2 o mem u v k) (kk:Fin X F mem g k Q):WP X (compareOp c uv vv) Q E s:=by
 have hun:X.A.units<cLine:=ok.rm.room
 have hun':X.A.units+5<cLine:=Nat.lt_of_le_of_lt (Nat.add_le_add_right (Nat.le_trans (Nat.le_add_right _ _) ok.rm.u) 5) (by rw [cLine_is];decide)
 have hs:(cm2 o).isSome=true:=by rw [hc];rfl
 obtain rfl:(cm2 o).getD .Eq=c:=by rw [hc];rfl
 clear hc
 cases o with
 | eqZ =>
  refine strE hv h fun b t _ h=>?_
  cases u with
  | ref _=>exact h.elim
  | t u=>cases u with
   | none=>rw [show uv=_ from hu];exact PySem.EqNone.eq_none_str (kk.b h P)
   | str x=>obtain ⟨_,t,rfl⟩:=hu;exact PyProof.Rows.eq_str (kk.b h P)
   | _=>exact h.elim
 | eqI=>exact two_i (C:=fun x y=>WP X (compareOp _ x y) Q E s) (fun _ _ _ _ h=>PyProof.Rows.eq_int (kk.b h P)) hu hv h
 | neI=>exact two_i (C:=fun x y=>WP X (compareOp _ x y) Q E s) (fun _ _ _ _ h=>PyProof.Rows.ne_int (kk.b h P)) hu hv h
 | ltI=>exact two_i (C:=fun x y=>WP X (compareOp _ x y) Q E s) (fun _ _ _ _ h=>PyProof.Rows.lt_int (kk.b h P)) hu hv h
 | leI=>exact two_i (C:=fun x y=>WP X (compareOp _ x y) Q E s) (fun _ _ _ _ h=>PyProof.Rows.le_int (kk.b h P)) hu hv h
 | gtI=>exact two_i (C:=fun x y=>WP X (compareOp _ x y) Q E s) (fun _ _ _ _ h=>PyProof.Rows.gt_int (kk.b h P)) hu hv h
 | geI=>exact two_i (C:=fun x y=>WP X (compareOp _ x y) Q E s) (fun _ _ _ _ h=>PyProof.Rows.ge_int (kk.b h P)) hu hv h
 | eqN =>
  refine intE hu h fun a t h=>?_
  rcases isNone_of (k:=fun b=>brK b (k (.bool false)) False) hv h with ⟨rfl,h⟩ | ⟨_,_,h⟩
  ·exact PySem.EqNone.eq_int_none (kk.b h P)
  ·exact h.elim
 | eqS=>exact two_s (C:=fun x y=>WP X (compareOp _ x y) Q E s) (fun _ _ _ _ h=>PyProof.Rows.eq_str (kk.b h P)) hu hv h
 | neS=>exact two_s (C:=fun x y=>WP X (compareOp _ x y) Q E s) (fun _ _ _ _ h=>PyProof.Rows.ne_str (kk.b h P)) hu hv h
 | eqB=>exact two_b (C:=fun x y=>WP X (compareOp _ x y) Q E s) (fun _ _ h=>PyProof.Rows.eq_bool (kk.b h P)) hu hv h
 | neB=>exact two_b (C:=fun x y=>WP X (compareOp _ x y) Q E s) (fun _ _ h=>PySem.SeqAt.RcNeAt.bool_bool _ _ _ X.w _ _ (kk.b h P)) hu hv h
 | inS =>
  refine strE hu h fun x t _ h=>?_
  obtain ⟨l,a,vs,h,rfl,I,hl⟩:=seqT_of (k:=fun l=>strT l fun ys=>k (.bool (ys.any (·==x)))) P hv h
  obtain ⟨ys,rfl,h'⟩:=strT_of h
  rcases I with I | I
  ·exact in_strs P.st I (strs_L2 hl) (kk.b h' P)
  ·exact in_tuple_strs (tup_ist (I.at_ P.st)) (strs_L2 hl) (kk.b h' P)
 | inI =>
  refine intE hu h fun x t h=>?_
  obtain ⟨l,a,vs,h,rfl,I,_,hl⟩:=lstT_of (k:=fun l=>intT l fun ys=>k (.bool (ys.any (·==x)))) P hv h
  obtain ⟨ys,rfl,h'⟩:=intT_of h
  exact in_ints P.st I (ints_L2.mp hl) (kk.b h' P)
 | niI =>
  refine intE hu h fun x t h=>?_
  obtain ⟨l,a,vs,h,rfl,I,_,hl⟩:=lstT_of (k:=fun l=>intT l fun ys=>k (.bool (!(ys.any (·==x))))) P hv h
  obtain ⟨ys,rfl,h'⟩:=intT_of h
  exact notin_ints P.st I (ints_L2.mp hl) (kk.b h' P)
 | inD =>
  refine intE hu h fun x t h=>?_
  refine obE P hv h fun o a h hr=>?_
  cases o with
  | dic ks l =>
   obtain ⟨vs,I,hz,_⟩:=hr
   refine d_in P.st I fun s1 S1=>?_
   rw [zip_at,List.map_fst_zip (Nat.le_of_eq hz.symm)]
   exact kk.b h (P.step S1)
  | _=>exact h.elim
 | inQ =>
  refine strE hu h fun x t _ h=>?_
  refine valE hv h fun a h=>?_
  obtain ⟨rfl,h⟩:=brN_lit h
  obtain ⟨t1,t2,t3,t4,t5,hd⟩:=ok.W.tur
  refine t_in P.st (by decide) ((hd _).keep P.st.base) fun s1 S1=>?_
  rw [tur_any];exact kk.b h (P.step S1)
 | niQ =>
  refine strE hu h fun x t _ h=>?_
  refine valE hv h fun a h=>?_
  obtain ⟨rfl,h⟩:=brN_lit h
  obtain ⟨t1,t2,t3,t4,t5,hd⟩:=ok.W.tur
  refine t_notin P.st (by decide) ((hd _).keep P.st.base) fun s1 S1=>?_
  rw [tur_any];exact kk.b h (P.step S1)
 | inG=>exact s_inG ok false P hu hv h kk
 | niG=>exact s_inG ok true P hu hv h kk
 | niX =>
  refine intE hu h fun x t h=>?_
  refine obE P hv h fun o a h hr=>?_
  cases o with
  | set ks=>exact x_notin P.st hr.1 hr.2 fun s1 S1=>kk.b h (P.step S1)
  | _=>exact h.elim
 | eqR=>exact (s_rk (kd:=fun e _ _=>k (.bool e)) ok P hu hv h).1 Q fun _ _ _ h=>kk.b h P
 | ltR=>exact (s_rk (kd:=fun _ l _=>k (.bool l)) ok P hu hv h).2.1 Q fun _ _ _ h=>kk.b h P
 | gtR=>exact (s_rk (kd:=fun _ _ l=>k (.bool l)) ok P hu hv h).2.2 Q fun _ _ _ h=>kk.b h P
 | neL =>
  refine lstE (k:=fun l=>lstT mem v fun l'=>(l=l'∧∀ t∈l,rowB 4 t=true)∧k (.bool false)) P hu h fun l a vs h I _ hl=>?_
  refine lstE P hv h fun l' b ws h I' _ hl'=>?_
  obtain ⟨⟨rfl,hrow⟩,h⟩:=h
  refine ne_same (n:=4) (I.at_ P.st) (I'.at_ P.st) P.st.fz (hl.len.trans hl'.len.symm) (fun j x y e1 e2=>?_) hun' (kk.b h P)
  have hj:j<l.length:=by rw [← hl.len];exact (List.getElem?_eq_some_iff.mp e1).1
  obtain ⟨x',f1,r1⟩:=(TRs_iff.mp hl).nth (List.getElem?_eq_getElem hj)
  obtain ⟨y',f2,r2⟩:=(TRs_iff.mp hl').nth (List.getElem?_eq_getElem hj)
  rw [e1] at f1;cases f1
  rw [e2] at f2;cases f2
  exact tw_row (hrow _ (List.getElem_mem hj)) r1 r2
 | _=>exact (Bool.false_ne_true hs).elim
end
section
variable {X:Cx} {F:Fx} {mem:Mem} {g:GS X.w} {s s':Shared} {E:Value→Shared→Prop} {Q:Value→Shared→Prop} {v u:AV} {uv vv:Value} {a:Addr} {ch:Ch} {k:TV→Prop}
theorem TRs.app {w:World} {R:List Ch} {l l':List TV} {vs vs':List Value} (h:TRs w R l vs) (h':TRs w R l' vs'):TRs w R (l++l') (vs++vs'):=TRs_iff.mpr ((TRs_iff.mp h').app (TRs_iff.mp h))
theorem l_mul {l:Addr} {vs:List Value} {x:Int} {t:Tok} (S:St' X F g s) (I:HasX X F g (.lst l vs)) (h0:0≤x) (h1:x≤100) (hz:vs.length≤10) (h:∀ s' d,St X.w X.T.hE X.s₀ [] X.R₀ (.lst d (List.replicate x.toNat vs).flatten::.frm X.L F.m::(F.cc++(g.chs++F.rest))) g.R s'→Q (.ref d) s') :
  WP X (binaryOp .Mult (.ref l) (.int x t)) Q E s:=by
 obtain ⟨k,ho⟩:=I.at_ S
 have hsz:vs.toArray.size * x.toNat≤2 ^ 24:=by
  rw [List.size_toArray]
  exact Nat.le_trans (Nat.mul_le_mul hz (show x.toNat≤100 from Int.toNat_le.mpr h1)) (by decide)
 refine PySem.wpAny_binaryOp_repeat_ref (T:="list") (U:="int") (by decide) ⟨_,ho,rfl⟩ (fun s'=>typeIs_int s' x t) noFill_list_mul PySem.F.fills_int_mul PySem.F.slot_int_rmul repeat_list PySem.F.slot_int_index.lookup
  (call_meets PySem.F.slot_int_rmul (typeIs_int s x t) PySem.F.entry_int_rmul (PySem.F.args_int_rmul_2 _ _) (lm_int_rmul_list_any x t l vs.toArray k none #[])
   ⟨ho,rfl,⟨_,ho,rfl⟩,call_meets PySem.F.slot_list_mul ⟨_,ho,rfl⟩ PySem.F.entry_list_mul (PySem.F.args_list_mul_2 _ _)
    (lm_list_mul_any l vs.toArray k none #[] x t (by simp [Builtin.List.listFitsIndex];lia) (by lia) (by simp [Builtin.List.listTooLong,sizeLine];omega))
    ⟨ho,?_⟩⟩)
 rw [listMul_foldl_if]
 exact h _ _ (S.alloc (fun b o e=>Heap.get?_push_of_some _ e) ⟨0,Heap.get?_push_size _ rfl⟩ (fun a ha=>by simp only [Ch.fp,List.mem_singleton] at ha;subst ha;exact none_at) (by simp [Ch.fp]) rfl rfl rfl)
theorem TRs.rep {w:World} {R:List Ch} {l:List TV} {vs:List Value} (h:TRs w R l vs) (n:Nat):TRs w R (List.replicate n l).flatten (List.replicate n vs).flatten:=by
 induction n with
 | zero=>rfl
 | succ n ih=>exact h.app ih
noncomputable def bn2:O2→Option Operator
 | .add=>some .Add | .addS=>some .Add | .addL=>some .Add | .addT=>some .Add | .sub=>some .Sub | .mul=>some .Mult | .fdiv=>some .FloorDiv | .mod=>some .Mod | .pow=>some .Pow | .mulL=>some .Mult
 | _=>none
theorem s_bn2 (o:O2) {c:Operator} (hc:bn2 o=some c) (P:Rp X F mem g s) (hu:AR g u uv) (hv:AR g v vv) (h:op2 o mem u v k) (kk:Fin X F mem g k Q):WP X (binaryOp c uv vv) Q E s:=by
 have hs:(bn2 o).isSome=true:=by rw [hc];rfl
 obtain rfl:(bn2 o).getD .Add=c:=by rw [hc];rfl
 clear hc
 cases o with
 | add=>exact two_i (C:=fun x y=>WP X (binaryOp _ x y) Q E s) (fun _ _ _ _ h=>i_add P.st fun s1 t S1=>kk.i h P S1) hu hv h
 | sub=>exact two_i (C:=fun x y=>WP X (binaryOp _ x y) Q E s) (fun _ _ _ _ h=>i_sub P.st fun s1 t S1=>kk.i h P S1) hu hv h
 | mul=>exact two_i (C:=fun x y=>WP X (binaryOp _ x y) Q E s) (fun _ _ _ _ h=>i_mul h.1 P.st fun s1 t S1=>kk.i h.2 P S1) hu hv h
 | fdiv=>exact two_i (C:=fun x y=>WP X (binaryOp _ x y) Q E s) (fun _ _ _ _ h=>i_div h.1.1 h.1.2 P.st fun s1 t S1=>kk.i h.2 P S1) hu hv h
 | mod=>exact two_i (C:=fun x y=>WP X (binaryOp _ x y) Q E s) (fun _ _ _ _ h=>i_mod h.1 P.st fun s1 t S1=>kk.i h.2 P S1) hu hv h
 | pow=>exact two_i (C:=fun x y=>WP X (binaryOp _ x y) Q E s) (fun _ _ _ _ h=>i_pow h.1.1 h.1.2 P.st fun s1 t S1=>kk.i h.2 P S1) hu hv h
 | addS =>
  refine two_s (C:=fun x y=>WP X (binaryOp _ x y) Q E s) (fun a b _ _ h=>?_) hu hv h
  have hl:(a++b).length≤1000:=by have:(a++b).length=a.length+b.length:=Str.length_append ..;rw [this];exact h.1
  exact s_add P.st h.1 fun s1 t S1=>kk.st h.2 hl P S1
 | addL =>
  obtain ⟨l,a,vs,h,rfl,I,_,hl⟩:=lstT_of (k:=fun l=>lstT mem v fun l'=>l.length+l'.length≤1000∧k (.lst (l++l'))) P hu h
  refine lstE P hv h fun l' b ws h I' _ hl'=>?_
  have hz:vs.length+ws.length≤1000:=by rw [hl.len,hl'.len];exact h.1
  exact l_add P.st I I' hz fun s1 d S1=>kk.l h.2 (by rw [List.length_append];exact hz) (hl.app hl') P S1
 | addT =>
  obtain ⟨l,a,vs,h,rfl,I,_,hl⟩:=tupT_of (k:=fun l=>tupT v fun l'=>(l≠[]∧l'≠[]∧l.length+l'.length≤1000)∧k (.tup (l++l'))) hu h
  refine tupE hv h fun l' b ws h I' _ hl'=>?_
  have hz:vs.length+ws.length≤1000:=by rw [hl.len,hl'.len];exact h.1.2.2
  have ne:∀ {l:List TV} {vs:List Value},TRs X.w g.R l vs→l≠[]→vs≠[]:=fun hl hn e=>hn (List.eq_nil_of_length_eq_zero (by rw [← hl.len,e];rfl))
  exact t_add P.st (.inr (.inl I)) (.inr (.inl I')) (ne hl h.1.1) (ne hl' h.1.2.1) hz fun s1 d S1=>kk.t h.2 (by rw [List.length_append];exact hz) (hl.app hl') P S1
 | mulL =>
  obtain ⟨l,a,vs,h,rfl,I,_,hl⟩:=lstT_of (k:=fun l=>intK v fun i=>(0≤i∧i≤100∧l.length≤10)∧k (.lst (List.replicate i.toNat l).flatten)) P hu h
  refine intE hv h fun b t h_=>?_;obtain ⟨⟨h0,h1,h2⟩,h⟩:=h_
  have hz:vs.length≤10:=by rw [hl.len];exact h2
  refine l_mul P.st I h0 h1 hz fun s1 d S1=>kk.l h ?_ (hl.rep _) P S1
  rw [List.length_flatten,List.map_replicate,List.sum_replicate_nat]
  exact Nat.le_trans (Nat.mul_le_mul (show b.toNat≤100 by lia) hz) (by decide)
 | _=>exact (Bool.false_ne_true hs).elim
theorem s_mx (hh:X.A.handled=none) (o:Bool) (P:Rp X F mem g s) (hu:AR g u uv) (hv:AR g v vv) (h:op2 (if o then .max else .min) mem u v k) (kk:Fin X F mem g k Q):WP X (PySem.call (.builtin (if o then "max" else "min")) [uv,vv]) Q E s:=by
 cases o with
 | true=>exact two_i (C:=fun x y=>WP X (PySem.call (.builtin "max") [x,y]) Q E s) (r:=fun a b=>k (.int (if b > a then b else a))) (fun _ _ _ _ h=>i_max hh P.st fun s1 t S1=>kk.i h P S1) hu hv h
 | false=>exact two_i (C:=fun x y=>WP X (PySem.call (.builtin "min") [x,y]) Q E s) (r:=fun a b=>k (.int (if b<a then b else a))) (fun _ _ _ _ h=>i_min hh P.st fun s1 t S1=>kk.i h P S1) hu hv h
theorem ci_of (ok:X.Ok) {C:Nat} {x:Nat} (h:x∈atI C):CI X.T.K C (atN C)∧(atN C).contains (nameOf x)=true:=by
 refine ⟨?_,by rw [List.contains_iff_mem];exact List.mem_map.mpr ⟨x,h,rfl⟩⟩
 have key:∀ C,C∈ctab.map (·.1)∨atI C=[]:=fun C=>by
  have:∀ l:List (Nat×List Nat),C∈l.map (·.1)∨atL l C=[]:=fun l=>by
   induction l with
   | nil=>exact .inr rfl
   | cons q l ih =>
    show _∨(match Nat.beq q.1 C with | true=>q.2 | false=>atL l C)=[]
    cases e:Nat.beq q.1 C with
    | true=>exact .inl (Nat.eq_of_beq_eq_true e▸.head _)
    | false=>exact ih.imp (.tail _) id
  exact this atT
 rcases key C with q | q
 ·obtain ⟨z,hz,e⟩:=List.mem_map.mp q;rw [← e];exact (ok.W.c z hz).ci
 ·rw [q] at h;cases h
theorem fldK_of {α:Type} {x:Nat} {k:α→Prop} {P:α→Value→Prop} {m:Nt.Loc}:∀ {xs:List Nat} {l:List α} {us:List Value},fldK xs l x k→L2 (fun x u=>look m (nameOf x)=some u) xs us→L2 P l us→∃ v u,k v∧look m (nameOf x)=some u∧P v u∧x∈xs:=fun {xs}=>by
 induction xs with
 | nil=>exact fun {l us} h=>h.elim
 | cons y xs ih =>
  intro l us h hx hl
  cases l with
  | nil=>exact h.elim
  | cons v l =>
   obtain ⟨u,us',rfl,h1,h2⟩:=hx
   obtain ⟨_,_,e,h3,h4⟩:=hl
   obtain ⟨rfl,rfl⟩:=List.cons.inj e
   rcases brN_of h with ⟨q,h⟩ | ⟨q,h⟩
   ·have q:=Nat.eq_of_beq_eq_true q;exact ⟨v,u,h,q▸h1,h3,q▸.head _⟩
   ·obtain ⟨v,u,a,b,c,d⟩:=ih h h2 h4;exact ⟨v,u,a,b,c,.tail _ d⟩
theorem s_att (ok:X.Ok) {x:Nat} {k:AV→Prop} (P:Rp X F mem g s) (hu:AR g u uv) (h:attK mem u x k) (kk:∀ v vv s',k v→Rp X F mem g s'→AR g v vv→Q vv s'):WP X (getAttr uv (nameOf x) true) Q E s:=by
 refine obE P hu h fun o a h hr=>?_
 cases o with
 | inst C xs l =>
  obtain ⟨dx,m,vs,I,hf,hl⟩:=hr
  obtain ⟨v,vv,h,h1,h2,h3⟩:=fldK_of h hf.at_ hl
  obtain ⟨c1,c2⟩:=ci_of ok (hf.has x h3)
  exact a_get ok.W.G P.st I c1 c2 h1 h2.handed fun s1 S1=>kk v vv s1 h (P.step S1) h2
 | _=>exact h.elim
theorem okSl_all (e:Expr) (h:memN [23,20,16,2,3] e.ctorIdx=true):∀ o i,subscripted e false o i=operate [o,i] (getItem o i):=by
 cases e<;>first | exact (Bool.false_ne_true h).elim | exact fun o i=>by with_unfolding_all rfl
theorem okSl_int (i:Int) (j:Nat) (p:Pos):∀ o i',subscripted (.Constant (.int i) j p) false o i'=operate [o,i'] (getItem o i'):=fun o i=>by with_unfolding_all rfl
noncomputable def okSl (e:Expr):Option (PLift (∀ o i,subscripted e false o i=operate [o,i] (getItem o i))):=if h:memN [23,20,16,2,3] e.ctorIdx=true then some ⟨okSl_all e h⟩ else if h:e.ctorIdx=19 then Expr.Constant.elim (motive_1:=fun e=>Option (PLift (∀ o i,subscripted e false o i=operate [o,i] (getItem o i)))) e h fun c j p=>if h:c.ctorIdx=2 then Const.int.elim (motive:=fun c=>Option (PLift (∀ o i,subscripted (.Constant c j p) false o i=operate [o,i] (getItem o i)))) c h fun i=>some ⟨okSl_int i j p⟩ else none else none
theorem okSl_eq {e:Expr} {o i:Value} (h:(okSl e).isSome=true):subscripted e false o i=operate [o,i] (getItem o i):=match okSl e,h with | some q,_=>q.down o i
theorem nI1 {i:Int} (h0:0≤i) (hn:i.toNat≤1000):i<2 ^ 63:=by
 cases i with
 | ofNat n=>exact Int.lt_of_le_of_lt (Int.ofNat_le.mpr hn) (by decide)
 | negSucc _=>exact absurd h0 (Int.not_le.mpr (Int.negSucc_lt_zero _))
theorem nI2 {i:Int} {n:Nat} (h0:¬ 0≤i) (hn:Nat.pred (-i).toNat≤1000) (h2:Nat.pred (-i).toNat<n):-(2 ^ 63)≤i∧0≤i+n∧(i+(n:Int)).toNat=n - 1 - Nat.pred (-i).toNat:=by
 cases i with
 | ofNat n=>exact absurd (Int.natCast_nonneg n) h0
 | negSucc j =>
  obtain ⟨m,rfl⟩:=Nat.le.dest (show j+1≤n from h2)
  have e:Int.negSucc j+((j+1+m:Nat):Int)=(m:Int):=Int.subNatNat_add_left
  rw [e]
  have hz:((j+1:Nat):Int)≤2 ^ 63:=Int.le_trans (b:=((1001:Nat):Int)) (Int.ofNat_le.mpr (Nat.succ_le_succ hn)) (by decide)
  exact ⟨(Int.neg_le_neg hz:-(2 ^ 63:Int)≤-((j+1:Nat):Int)),Int.natCast_nonneg m,(show j+1+m - 1 - j=m by rw [Nat.sub_sub,Nat.add_comm 1 j,Nat.add_sub_cancel_left]).symm⟩
theorem nthI_of {k:AV→Prop} {l:List AV} {vs:List Value} {i:Int} (hl:L2 (AR g) l vs) (h:nthI l i k):∃ v u,k v∧AR g v u∧((0≤i∧i<2 ^ 63∧vs[i.toNat]?=some u)∨(i<0∧-(2 ^ 63)≤i∧0≤i+vs.length∧vs[(i+vs.length).toNat]?=some u)):=by
 rcases brK_of h with ⟨h0,h⟩ | ⟨h0,h⟩
 ·obtain ⟨hn,h⟩:=brT h
  obtain ⟨v,hv,h⟩:=nthK_of h
  obtain ⟨u,hu,ha⟩:=hl.nth hv
  have h0:=of_decide_eq_true h0
  exact ⟨v,u,h,ha,.inl ⟨h0,nI1 h0 (Nat.le_of_ble_eq_true hn),hu⟩⟩
 ·obtain ⟨hn,h⟩:=brT h
  obtain ⟨v,hv,h⟩:=nthK_of h
  obtain ⟨u,hu,ha⟩:=hl.rev.nth hv
  have h0:=of_decide_eq_false h0
  have hn2:Nat.pred (-i).toNat<vs.length:=List.length_reverse (as:=vs)▸(List.getElem?_eq_some_iff.mp hu).1
  obtain ⟨q1,q2,q3⟩:=nI2 h0 (Nat.le_of_ble_eq_true hn) hn2
  exact ⟨v,u,h,ha,.inr ⟨Int.not_le.mp h0,q1,q2,by rw [q3,← List.getElem?_reverse hn2];exact hu⟩⟩
theorem dgetK_of {α:Type} {i:Int} {k:Option α→Prop} {P:α→Value→Prop}:∀ {ks:List Int} {l:List α} {vs:List Value},L2 P l vs→vs.length=ks.length→dgetK ks l i k→(valueAt (ks.zip vs) i=none∧k none)∨∃ v u,k (some v)∧valueAt (ks.zip vs) i=some u∧P v u:=fun {ks}=>by
 induction ks with
 | nil =>
  intro l vs h _ hk
  cases l with
  | nil=>exact .inl ⟨rfl,hk⟩
  | cons _ _=>exact hk.elim
 | cons y ks ih =>
  intro l vs h hz hk
  cases l with
  | nil=>exact hk.elim
  | cons v l =>
   obtain ⟨u,us,rfl,h1,h2⟩:=h
   rcases brK_of hk with ⟨q,hk⟩ | ⟨q,hk⟩
   ·exact .inr ⟨v,u,hk,by simp -iota [valueAt,of_decide_eq_true q],h1⟩
   ·rw [show valueAt ((y::ks).zip (u::us)) i=valueAt (ks.zip us) i by simp -iota [valueAt,of_decide_eq_false q]]
    exact ih h2 (Nat.succ.inj hz) hk
theorem s_pool {i:Int} {t:Tok} {value slice:Expr} {k:AV→Prop} (hs:(okSl slice).isSome=true) (P:Rp X F mem g s) (I:HasX X F g (.pool a)) (h:poolI i (∀ a:Int,k (.t (.int a))) (∀ a:Int,0≤a→a<2147483647→k (.t (.int a))))
  (kk:∀ v vv,k v→AR g v vv→Q vv s):WP X (subscriptTail value slice (.ref a) (.int i t)) Q E s:=by
 obtain ⟨b,t1,c,t2,hl,h0,h1⟩:=I.at_ P.st
 have hl:s.heap.IsList a [.int b t1,.int c t2].toArray:=hl
 rcases poolI_of h with ⟨rfl,h⟩ | ⟨rfl,h⟩
 ·exact l_get hl (by decide) (by decide) rfl (kk _ _ (h b) ⟨t1,rfl⟩) (okSl_eq hs)
 ·exact l_get hl (by decide) (by decide) rfl (kk _ _ (h c h0 h1) ⟨t2,rfl⟩) (okSl_eq hs)
theorem s_sub {value slice:Expr} {k:AV→Prop} (hs:(okSl slice).isSome=true) (P:Rp X F mem g s) (hu:AR g u uv) (hv:AR g v vv) (h:subK mem u v k) (kk:∀ v vv s',k v→Rp X F mem g s'→AR g v vv→Q vv s'):WP X (subscriptTail value slice uv vv) Q E s:=by
 refine intE hv h fun i t h=>?_
 have L:∀ {l:List AV} {a:Addr} {vs:List Value},HasX X F g (.lst a vs)→L2 (AR g) l vs→nthI l i k→WP X (subscriptTail value slice (.ref a) (.int i t)) Q E s:=fun I hl h=>by
  obtain ⟨v,u,h,ha,⟨q1,q2,q3⟩ | ⟨q1,q2,q3,q4⟩⟩:=nthI_of hl h
  ·exact l_getH P.st I q1 q2 q3 (kk v u s h P ha) (okSl_eq hs)
  ·exact l_neg P.st I q1 q2 q3 q4 (kk v u s h P ha) (okSl_eq hs)
 cases u with
 | t x=>cases x with
  | lst l=>obtain ⟨a,vs,rfl,h1,_,h3⟩:=hu;exact L (.inr (.inl h1)) (treesL.mp h3) h
  | tup l =>
   obtain ⟨a,vs,rfl,h1,_,h3⟩:=hu
   obtain ⟨h0,h⟩:=brT h
   have h0:=of_decide_eq_true h0
   obtain ⟨v,u,h,ha,⟨q1,q2,q3⟩ | ⟨q1,_⟩⟩:=nthI_of (k:=k) (i:=i) (treesL.mp h3) (by delta nthI;rw [decide_eq_true h0];exact h)
   ·exact t_getH P.st (.inr (.inl h1)) q1 q2 q3 (kk v u s h P ha) (okSl_eq hs)
   ·lia
  | dic ks l =>
   obtain ⟨a,vs,rfl,h1,hz,h3⟩:=hu
   rcases dgetK_of (k:=fun u=>(match u with | some u=>k (.t u) | none=>False)) (TRs_iff.mp h3) hz h with ⟨_,h⟩ | ⟨v,u,h,q,ha⟩
   ·exact h.elim
   ·exact d_get P.st (.inr (.inl h1)) q (fun s1 S1=>kk _ u s1 h (P.step S1) ha) (okSl_eq hs)
  | _=>exact h.elim
 | ref n =>
  obtain ⟨o,ho,h⟩:=nthK_of h
  obtain ⟨a,ha,rfl⟩:=hu
  obtain ⟨c,pre,post,h2,h3,_⟩:=P.mem.focusA ho ha
  have hs':∀ {p},c=[p]→HasX X F g p:=fun e=>P.has h3 (e▸.head _)
  clear h3 ho
  cases o with
  | lst l=>obtain ⟨vs,e,_,q⟩:=h2;exact L (hs' e) q h
  | dic ks l =>
   obtain ⟨vs,e,hz,q⟩:=h2
   rcases dgetK_of (k:=fun u=>(match u with | some u=>k u | none=>False)) q hz h with ⟨_,h⟩ | ⟨v,u,h,q,ha⟩
   ·exact h.elim
   ·exact d_get P.st (hs' e) q (fun s1 S1=>kk _ u s1 h (P.step S1) ha) (okSl_eq hs)
  | pool=>exact s_pool hs P (hs' h2) h fun v vv h ha=>kk v vv s h P ha
  | _=>exact h.elim
end
section
variable {X:Cx} {F:Fx} {mem:Mem} {g:GS X.w} {s s':Shared} {E:Value→Shared→Prop} {Q:Value→Shared→Prop} {v u:AV} {uv vv:Value} {a:Addr} {ch:Ch} {k:TV→Prop}
theorem dec_beq (a b:Nat):decide (a=b)=Nat.beq a b:=by
 cases h:Nat.beq a b with
 | true=>exact decide_eq_true (Nat.eq_of_beq_eq_true h)
 | false=>exact decide_eq_false fun e=>by rw [e,Nat.beq_refl] at h;cases h
theorem anyD_mem {C:Nat} (Ds:List Nat):anyD C Ds=memN Ds C:=by
 induction Ds with
 | nil=>rfl
 | cons D r ih =>
  have:Nat.beq C D=Nat.beq D C:=by rw [← dec_beq,← dec_beq];exact decide_eq_decide.mpr eq_comm
  show (decide (C=D)||anyD C r)=(match Nat.beq D C with | true=>true | false=>memN r C)
  rw [ih,dec_beq,this]
  cases Nat.beq D C<;>rfl
theorem clsT_of {R:List Ch} {w:World}:∀ {l:List TV} {vs:List Value} {k:List Nat→Prop},clsT l k→TRs w R l vs→∃ Ds,k Ds∧vs=Ds.map Value.ref∧(Ds.all fun D=>exCls.contains D)=true:=fun {l}=>by
 induction l with
 | nil=>exact fun h hl=>⟨[],h,hl,rfl⟩
 | cons v l ih =>
  intro vs k h hl
  cases v with
  | val w=>cases w with
   | ref D =>
    obtain ⟨hD,h⟩:=brT h
    obtain ⟨u,us,e,h1,h2⟩:=hl
    obtain ⟨Ds,q1,q2,q3⟩:=ih h h2
    exact ⟨D::Ds,q1,by rw [e,q2,h1.2];rfl,by rw [List.all_cons,q3,List.contains_iff_mem.mpr (memN_of hD)];rfl⟩
   | _=>exact h.elim
  | _=>exact h.elim
theorem s_isi (ok:X.Ok) (P:Rp X F mem g s) (hu:AR g u uv) (hv:AR g v vv) (h:op2 .isi mem u v k) (kk:Fin X F mem g k Q):WP X (PySem.call (.builtin "isinstance") [uv,vv]) Q E s:=by
 refine obE P hu h fun o a h hr=>?_
 cases o with
 | inst C xs l =>
  obtain ⟨dx,m,vs,I,_⟩:=hr
  obtain ⟨hC,h⟩:=brT h
  have kc:=ok.W.i C (memN_of hC)
  cases v with
  | ref n=>exact h.elim
  | t t=>cases t with
   | val w=>cases w with
    | ref D =>
     obtain ⟨hD,h⟩:=brT h
     rw [hv.2]
     exact i_isi ok.W.G P.st I kc (List.contains_iff_mem.mpr (memN_of hD)) fun s1 S1=>by rw [dec_beq];exact kk.b h (P.step S1)
    | _=>exact h.elim
   | tup l =>
    obtain ⟨b,ws,rfl,h1,_,h2⟩:=hv
    obtain ⟨Ds,h,e,hD⟩:=clsT_of h h2
    exact i_isis ok.W.G P.st I (.inr (.inl h1)) kc e hD fun s1 S1=>by rw [anyD_mem];exact kk.b h (P.step S1)
   | _=>exact h.elim
 | _=>exact h.elim
theorem s_isT (int:Bool) (P:Rp X F mem g s) (hu:AR g u uv) (h:isTK u int k) (kk:Fin X F mem g k Q):WP X (PySem.call (.builtin "isinstance") [uv,.type (if int then "int" else "str")]) Q E s:=by
 cases u with
 | ref n=>exact h.elim
 | t t=>cases t with
  | int i =>
   obtain ⟨t,rfl⟩:=hu
   cases int with
   | true=>exact isi_ii P.st fun s1 S1=>kk.b h (P.step S1)
   | false=>exact isi_is P.st fun s1 S1=>kk.b h (P.step S1)
  | str i =>
   obtain ⟨_,t,rfl⟩:=hu
   cases int with
   | true=>exact isi_si P.st fun s1 S1=>kk.b h (P.step S1)
   | false=>exact isi_ss P.st fun s1 S1=>kk.b h (P.step S1)
  | _=>exact h.elim
theorem turnK_of {x:Str} {k:Str→Prop} {t1 t2 t3 t4 t5:Tok} (h:turnK x turnT k):∃ y t,y.length≤1000∧k y∧valueAt ([("=",.str "=" t1),("<",.str ">" t2),("<=",.str ">=" t3),(">",.str "<" t4),(">=",.str "<=" t5)]:List (Str×Value)) x=some (.str y t):=by
 have key:∀ (y:Str) (v:Value) (l:List (Str×Value)),((y==x)=true→valueAt ((y,v)::l) x=some v)∧((y==x)=false→valueAt ((y,v)::l) x=valueAt l x):=fun y v l=>by
  constructor
  ·intro e;have:=beq_iff_eq.mp e;subst this;simp -iota [valueAt]
  ·intro e;have:y≠x:=by simpa using e
   simp -iota [valueAt,this]
 rcases brK_of h with ⟨e,h⟩ | ⟨e,h⟩
 ·exact ⟨_,t1,by decide +kernel,h,(key _ _ _).1 e⟩
 rw [(key _ _ _).2 e]
 rcases brK_of h with ⟨e,h⟩ | ⟨e,h⟩
 ·exact ⟨_,t2,by decide +kernel,h,(key _ _ _).1 e⟩
 rw [(key _ _ _).2 e]
 rcases brK_of h with ⟨e,h⟩ | ⟨e,h⟩
 ·exact ⟨_,t3,by decide +kernel,h,(key _ _ _).1 e⟩
 rw [(key _ _ _).2 e]
 rcases brK_of h with ⟨e,h⟩ | ⟨e,h⟩
 ·exact ⟨_,t4,by decide +kernel,h,(key _ _ _).1 e⟩
 rw [(key _ _ _).2 e]
 rcases brK_of h with ⟨e,h⟩ | ⟨e,h⟩
 ·exact ⟨_,t5,by decide +kernel,h,(key _ _ _).1 e⟩
 exact h.elim
theorem s_turn (ok:X.Ok) {value slice:Expr} {k:Str→Prop} (hs:(okSl slice).isSome=true) (P:Rp X F mem g s) (hv:AR g v vv) (h:strK v fun x=>turnK x turnT k) (kk:∀ y t s',k y→y.length≤1000→Rp X F mem g s'→Q (.str y t) s'):WP X (subscriptTail value slice (.ref 540) vv) Q E s:=by
 refine strE hv h fun x t _ h=>?_
 obtain ⟨t1,t2,t3,t4,t5,hd⟩:=ok.W.tur
 obtain ⟨y,t',hz,h,q⟩:=turnK_of h
 exact t_geti P.st ((hd _).keep P.st.base) q (fun s1 S1=>kk y t' s1 h hz (P.step S1)) (okSl_eq hs)
theorem s_chr {value slice:Expr} (hs:(okSl slice).isSome=true) (P:Rp X F mem g s) (hu:AR g u uv) (hv:AR g v vv) (h:op2 .chr mem u v k) (kk:Fin X F mem g k Q):WP X (subscriptTail value slice uv vv) Q E s:=by
 refine strE hu h fun x t _ h=>?_
 refine intE (k:=fun i=>(x="xyz"∧0≤i∧i<3)∧k (.str ⟨#[120+i.toNat]⟩)) hv h fun i t' h_=>?_;obtain ⟨⟨rfl,h0,h1⟩,h⟩:=h_
 refine PyProof.Rows.tail_any (typeIs_str s _ t) PySem.F.slot_str_getitem.lookup ?_ (okSl_eq hs)
 rcases in3 ⟨h0,h1⟩ with rfl | rfl | rfl
 ·exact PySem.P.getItem_str (c:=120) (by decide) (by decide +kernel) (kk.st h (by decide) P (P.st.tok _))
 ·exact PySem.P.getItem_str (c:=121) (by decide) (by decide +kernel) (kk.st h (by decide) P (P.st.tok _))
 ·exact PySem.P.getItem_str (c:=122) (by decide) (by decide +kernel) (kk.st h (by decide) P (P.st.tok _))
noncomputable def SlcMk (Q:Value→Shared→Prop) (o vu:Value) (s:Shared):Prop:=∃ l items hi,o=.ref l∧s.heap.IsList l items∧items.size≤sizeLine∧IsPart vu hi ∧
 Q (.ref (s.heap.objs.size+1)) { s with heap:=(s.heap.push { cls:=.type "slice",data:=.fields #[.none,vu,.none] }).push { cls:=.type "list",data:=.seq (slicePick items none hi none) } }
theorem ev_upto {y:Str} {py:Pos} {upper:Expr} {p pos:Pos} (h:WP X (eval (.Name y py) X.env) (fun o s₁=>WP X (eval upper X.env) (fun vu s₂=>SlcMk Q o vu s₂) E s₁) E s):WP X (eval (.Subscript (.Name y py) (.Slice none (some upper) none p) pos) X.env) Q E s:=by
 refine wpAny_Subscript_list_slice (wpAny_mono h (fun o s₁ h₁=>?_) fun _ _ e=>e)
 rw [evalPart_none]
 refine wpAny_pure (wpAny_mono h₁ (fun vu s₂ h₂=>?_) fun _ _ e=>e)
 obtain ⟨l,items,hi,e,hl,hz,pu,q⟩:=h₂
 exact ⟨l,items,none,hi,e,hl,hz,.none,pu,q⟩
theorem s_upto (P:Rp X F mem g s) (hu:AR g u uv) (hv:AR g v vv) (h:op2 .upto mem u v k) (kk:Fin X F mem g k Q):SlcMk Q uv vv s:=by
 obtain ⟨l,a,vs,h,rfl,I,hz,hl⟩:=lstT_of (k:=fun l=>intK v fun i=>(0≤i∧i≤l.length)∧k (.lst (l.take i.toNat))) P hu h
 refine intE hv h fun i t h_=>?_;obtain ⟨⟨h0,h1⟩,h⟩:=h_
 obtain ⟨n,rfl⟩:∃ n:Nat,i=n:=⟨i.toNat,(Int.toNat_of_nonneg h0).symm⟩
 rw [Int.toNat_natCast] at h
 refine ⟨a,_,_,rfl,lst_isl (I.at_ P.st),by rw [List.size_toArray,sizeLine_eq];lia,.int n t,?_⟩
 rw [slicePick_upto vs.toArray n (by rw [List.size_toArray,hl.len];exact Int.ofNat_le.mp h1)]
 have S1:=P.st.more (s':={ s with heap:=s.heap.push { cls:=.type "slice",data:=.fields #[.none,.int n t,.none] } }) (fun b o e=>Heap.get?_push_of_some _ e) rfl rfl rfl
 have e2:(s.heap.push { cls:=.type "slice",data:=.fields #[.none,.int (n:Int) t,.none] }).objs.size=s.heap.objs.size+1:=Heap.size_push ..
 have S2:=S1.alloc (s':={ s with heap:=(s.heap.push { cls:=.type "slice",data:=.fields #[.none,.int n t,.none] }).push { cls:=.type "list",data:=.seq ((vs.toArray.toList.take n).toArray) } }) (p:=.lst (s.heap.objs.size+1) (vs.take n)) (fun b o e=>Heap.get?_push_of_some _ e) ⟨0,by rw [← e2];exact Heap.get?_push_size _ rfl⟩
  (fun a ha=>by simp only [Ch.fp,List.mem_singleton] at ha;subst ha;rw [← e2];exact none_at) (by simp [Ch.fp]) rfl rfl rfl
 exact kk.l h (by rw [List.length_take];exact Nat.le_trans (Nat.min_le_right _ _) hz) (TRs_iff.mpr ((TRs_iff.mp hl).take n)) P S2
end
noncomputable abbrev Sub? {α:Type} (p:α→Prop):=Option { q:α // p q }
noncomputable abbrev Is? (p:Prop):=Option (PLift p)
theorem is_of {p:Prop} {o:Is? p} (h:o.isSome=true):p:=match o,h with | some q,_=>q.down
theorem any_of {α:Type} {o:Option α} {f:α→Bool} (h:o.any f=true):∃ a,f a=true:=match o,h with | some a,h=>⟨a,h⟩
theorem and_of {a b:Bool} (h:(a&&b)=true):a=true∧b=true:=match a,b,h with | true,true,_=>⟨rfl,rfl⟩
theorem or_of {a b:Bool} (h:(a||b)=true):a=true∨b=true:=match a,b,h with | true,_,_=>.inl rfl | false,true,_=>.inr rfl
noncomputable def met {α β:Type} [DecidableEq α] (n m:α) (f:n=m→Option β):Option β:=match decEq n m with | .isTrue h=>f h | .isFalse _=>none
noncomputable def l0 {α β:Type} (l:List α) (f:l=[]→Option β):Option β:=match l with | []=>f rfl | _::_=>none
noncomputable def lc' {α β:Type} (l:List α) (f:∀ x r,l=x::r→Option β):Option β:=match l with | []=>none | x::r=>f x r rfl
noncomputable def l1 {α β:Type} (l:List α) (f:∀ x,l=[x]→Option β):Option β:=lc' l fun x r h=>l0 r fun h'=>f x (h'▸h)
noncomputable def o0 {α β:Type} (o:Option α) (f:o=none→Option β):Option β:=match o with | none=>f rfl | some _=>none
noncomputable def o1 {α β:Type} (o:Option α) (f:∀ x,o=some x→Option β):Option β:=match o with | none=>none | some x=>f x rfl
noncomputable abbrev SubE {α:Type} (p:α→Expr→Prop) (e:Expr):Type:=Sub? fun q=>p q e
noncomputable abbrev RpNm (e:Expr) :=Subtype (fun y=>∃ p,e=.Name y p)
noncomputable def pNm (e:Expr) :Option (RpNm e):=met e.ctorIdx 23 fun h=>Expr.Name.elim (motive_1:=SubE fun y e=>∃ p,e=.Name y p) e h fun y p=>some ⟨y,p,rfl⟩
noncomputable abbrev RpNm2 (e:Expr) :=Subtype (fun q:Str×Pos=>e=.Name q.1 q.2)
noncomputable def pNm2 (e:Expr) :Option (RpNm2 e):=met e.ctorIdx 23 fun h=>Expr.Name.elim (motive_1:=SubE fun (q:Str×Pos) e=>e=.Name q.1 q.2) e h fun y p=>some ⟨(y,p),rfl⟩
noncomputable abbrev RpAt (e:Expr) :=Subtype (fun q:Expr×Str×Pos=>e=.Attribute q.1 q.2.1 q.2.2)
noncomputable def pAt (e:Expr) :Option (RpAt e):=met e.ctorIdx 20 fun h=>Expr.Attribute.elim (motive_1:=SubE fun (q:Expr×Str×Pos) e=>e=.Attribute q.1 q.2.1 q.2.2) e h fun d y p=>some ⟨(d,y,p),rfl⟩
noncomputable abbrev RpCm (e:Expr) :=Subtype (fun q:Expr×CmpOp×Expr=>∃ p,e=.Compare q.1 [q.2.1] [q.2.2] p)
noncomputable def pCm (e:Expr) :Option (RpCm e):=met e.ctorIdx 15 fun h=>Expr.Compare.elim (motive_1:=SubE fun (q:Expr×CmpOp×Expr) e=>∃ p,e=.Compare q.1 [q.2.1] [q.2.2] p) e h fun a os bs p=>l1 os fun op h1=>l1 bs fun b h2=>some ⟨(a,op,b),p,by rw [h1,h2]⟩
noncomputable abbrev RpBo (e:Expr) :=Subtype (fun q:BoolOp×List Expr×Pos=>e=.BoolOp q.1 q.2.1 q.2.2)
noncomputable def pBo (e:Expr) :Option (RpBo e):=met e.ctorIdx 0 fun h=>Expr.BoolOp.elim (motive_1:=SubE fun (q:BoolOp×List Expr×Pos) e=>e=.BoolOp q.1 q.2.1 q.2.2) e h fun o l p=>some ⟨(o,l,p),rfl⟩
noncomputable abbrev RpUn (e:Expr) :=Subtype (fun q:UnaryOp×Expr=>∃ p,e=.UnaryOp q.1 q.2 p)
noncomputable def pUn (e:Expr) :Option (RpUn e):=met e.ctorIdx 3 fun h=>Expr.UnaryOp.elim (motive_1:=SubE fun (q:UnaryOp×Expr) e=>∃ p,e=.UnaryOp q.1 q.2 p) e h fun o x p=>some ⟨(o,x),p,rfl⟩
noncomputable abbrev RpBi (e:Expr) :=Subtype (fun q:Expr×Operator×Expr=>∃ p,e=.BinOp q.1 q.2.1 q.2.2 p)
noncomputable def pBi (e:Expr) :Option (RpBi e):=met e.ctorIdx 2 fun h=>Expr.BinOp.elim (motive_1:=SubE fun (q:Expr×Operator×Expr) e=>∃ p,e=.BinOp q.1 q.2.1 q.2.2 p) e h fun a o b p=>some ⟨(a,o,b),p,rfl⟩
noncomputable abbrev RpIf (e:Expr) :=Subtype (fun q:Expr×Expr×Expr=>∃ p,e=.IfExp q.1 q.2.1 q.2.2 p)
noncomputable def pIf (e:Expr) :Option (RpIf e):=met e.ctorIdx 5 fun h=>Expr.IfExp.elim (motive_1:=SubE fun (q:Expr×Expr×Expr) e=>∃ p,e=.IfExp q.1 q.2.1 q.2.2 p) e h fun a b c p=>some ⟨(a,b,c),p,rfl⟩
noncomputable abbrev RpCa (e:Expr) :=Subtype (fun q:Expr×List Expr×Pos=>e=.Call q.1 q.2.1 [] q.2.2)
noncomputable def pCa (e:Expr) :Option (RpCa e):=met e.ctorIdx 16 fun h=>Expr.Call.elim (motive_1:=SubE fun (q:Expr×List Expr×Pos) e=>e=.Call q.1 q.2.1 [] q.2.2) e h fun f as ks p=>l0 ks fun h1=>some ⟨(f,as,p),by rw [h1]⟩
noncomputable abbrev RpLi (e:Expr) :=Subtype (fun q:List Expr=>∃ p,e=.List q p)
noncomputable def pLi (e:Expr) :Option (RpLi e):=met e.ctorIdx 24 fun h=>Expr.List.elim (motive_1:=SubE fun (q:List Expr) e=>∃ p,e=.List q p) e h fun l p=>some ⟨l,p,rfl⟩
noncomputable abbrev RpTu (e:Expr) :=Subtype (fun q:List Expr=>∃ j p,e=.Tuple q j p)
noncomputable def pTu (e:Expr) :Option (RpTu e):=met e.ctorIdx 25 fun h=>Expr.Tuple.elim (motive_1:=SubE fun (q:List Expr) e=>∃ j p,e=.Tuple q j p) e h fun l j p=>some ⟨l,j,p,rfl⟩
noncomputable def pDi (e:Expr):Is? (∃ p,e=.Dict [] [] p):=met e.ctorIdx 6 fun h=>Expr.Dict.elim (motive_1:=fun e=>Is? (∃ p,e=.Dict [] [] p)) e h fun a b p=>l0 a fun h1=>l0 b fun h2=>some ⟨p,by rw [h1,h2]⟩
noncomputable abbrev RpSu (e:Expr) :=Subtype (fun q:Expr×Expr=>∃ p,e=.Subscript q.1 q.2 p)
noncomputable def pSu (e:Expr) :Option (RpSu e):=met e.ctorIdx 21 fun h=>Expr.Subscript.elim (motive_1:=SubE fun (q:Expr×Expr) e=>∃ p,e=.Subscript q.1 q.2 p) e h fun a b p=>some ⟨(a,b),p,rfl⟩
noncomputable abbrev RpSl (e:Expr) :=Subtype (fun q:Expr=>∃ p,e=.Slice none (some q) none p)
noncomputable def pSl (e:Expr) :Option (RpSl e):=met e.ctorIdx 26 fun h=>Expr.Slice.elim (motive_1:=SubE fun (q:Expr) e=>∃ p,e=.Slice none (some q) none p) e h fun a b c p=>o0 a fun h1=>o1 b fun u h2=>o0 c fun h3=>some ⟨u,p,by rw [h1,h2,h3]⟩
noncomputable def pLc (e:Expr):Sub? fun q:Expr×Expr×Expr×List Expr×Scope×Pos=>e=.ListComp q.1 [⟨q.2.1,q.2.2.1,q.2.2.2.1,0⟩] q.2.2.2.2.1 q.2.2.2.2.2 :=
 met e.ctorIdx 8 fun h=>Expr.ListComp.elim (motive_1:=SubE fun (q:Expr×Expr×Expr×List Expr×Scope×Pos) e=>e=.ListComp q.1 [⟨q.2.1,q.2.2.1,q.2.2.2.1,0⟩] q.2.2.2.2.1 q.2.2.2.2.2) e h fun elt gs sc p=>l1 gs fun g h1=>match g,h1 with
  | ⟨t,it,ifs,n⟩,h1=>met n 0 fun h2=>some ⟨(elt,t,it,ifs,sc,p),by rw [h1,h2]⟩
noncomputable abbrev RpKo (e:Expr) :=Subtype (fun c:Const=>∃ j p,e=.Constant c j p)
noncomputable def pKo (e:Expr) :Option (RpKo e):=met e.ctorIdx 19 fun h=>Expr.Constant.elim (motive_1:=SubE fun (c:Const) e=>∃ j p,e=.Constant c j p) e h fun c j p=>some ⟨c,j,p,rfl⟩
noncomputable def cNo (c:Const):Is? (c=.none):=met c.ctorIdx 0 fun h=>Const.none.elim (motive:=fun c=>Is? (c=.none)) c h (some ⟨rfl⟩)
noncomputable def cKb (c:Const):Sub? fun b=>c=.bool b:=met c.ctorIdx 1 fun h=>Const.bool.elim (motive:=fun c=>Sub? fun b=>c=.bool b) c h fun b=>some ⟨b,rfl⟩
noncomputable def cKi (c:Const):Sub? fun b=>c=.int b:=met c.ctorIdx 2 fun h=>Const.int.elim (motive:=fun c=>Sub? fun b=>c=.int b) c h fun b=>some ⟨b,rfl⟩
noncomputable def cKs (c:Const):Sub? fun b=>c=.str b:=met c.ctorIdx 5 fun h=>Const.str.elim (motive:=fun c=>Sub? fun b=>c=.str b) c h fun b=>some ⟨b,rfl⟩
noncomputable def pNo (e:Expr):Is? (∃ j p,e=.Constant .none j p):=(pKo e).bind fun q=>(cNo q.1).bind fun h=>some ⟨by have:=q.2;rw [h.down] at this;exact this⟩
noncomputable abbrev RpKb (e:Expr) :=Subtype (fun b=>∃ j p,e=.Constant (.bool b) j p)
noncomputable def pKb (e:Expr) :Option (RpKb e):=(pKo e).bind fun q=>(cKb q.1).bind fun h=>some ⟨h.1,by have:=q.2;rw [h.2] at this;exact this⟩
noncomputable abbrev RpKi (e:Expr) :=Subtype (fun b=>∃ j p,e=.Constant (.int b) j p)
noncomputable def pKi (e:Expr) :Option (RpKi e):=(pKo e).bind fun q=>(cKi q.1).bind fun h=>some ⟨h.1,by have:=q.2;rw [h.2] at this;exact this⟩
noncomputable abbrev RpKs (e:Expr) :=Subtype (fun b=>∃ j p,e=.Constant (.str b) j p)
noncomputable def pKs (e:Expr) :Option (RpKs e):=(pKo e).bind fun q=>(cKs q.1).bind fun h=>some ⟨h.1,by have:=q.2;rw [h.2] at this;exact this⟩
theorem okBase_all (e:Expr) (h:memN [23,20,21] e.ctorIdx=true):∀ y pos env,eval (.Attribute e y pos) env=(do let o ← eval e env;standAt pos.atName;let r ← holding [o] (getAttr o y true);letTemporaryGo e o r;pure r):=by
 cases e<;>first | exact (Bool.false_ne_true h).elim | exact fun y pos env=>by with_unfolding_all rfl
noncomputable def okBase (e:Expr):Is? (∀ y pos env,eval (.Attribute e y pos) env=(do let o ← eval e env;standAt pos.atName;let r ← holding [o] (getAttr o y true);letTemporaryGo e o r;pure r)):=if h:memN [23,20,21] e.ctorIdx=true then some ⟨okBase_all e h⟩ else none
theorem okArg_all (e:Expr) (h:memN [23,20,19,16,15,2,3,0,5,21,24,25,8,6] e.ctorIdx=true):∀ es env,starEach (e::es) env=(false,eval e env)::starEach es env:=by
 cases e<;>first | exact (Bool.false_ne_true h).elim | exact fun _ _=>rfl
noncomputable def okArg (e:Expr):Is? (∀ es env,starEach (e::es) env=(false,eval e env)::starEach es env):=if h:memN [23,20,19,16,15,2,3,0,5,21,24,25,8,6] e.ctorIdx=true then some ⟨okArg_all e h⟩ else none
noncomputable def isBo (e:Expr):Bool:=Nat.beq e.ctorIdx 0
theorem okPlain_all (e:Expr) (h:memN [23,20,16,19,21] e.ctorIdx=true):(∀ env,isTrue e env (eval e env)=(do let v ← eval e env;standAt e.pos;holding [v] (truthy v)))∧isBo e=false:=by
 cases e<;>first | exact (Bool.false_ne_true h).elim | exact ⟨fun _=>rfl,rfl⟩
noncomputable def okPlain (e:Expr):Is? ((∀ env,isTrue e env (eval e env)=(do let v ← eval e env;standAt e.pos;holding [v] (truthy v)))∧isBo e=false):=if h:memN [23,20,16,19,21] e.ctorIdx=true then some ⟨okPlain_all e h⟩ else none
section
variable {X:Cx} {e e':Expr} {es:List Expr} {env:Env} {pos:Pos}
theorem okArgs_eq {es:List Expr} (h:(es.all fun e=>(okArg e).isSome)=true):(backTo pos (starEach es env)).any (·.1)=false:=by
 induction es with
 | nil=>rfl
 | cons e es ih =>
  obtain ⟨h1,h2⟩:=and_of h
  rw [is_of h1]
  exact ih h2
end
noncomputable def SL (X:Cx) (es:List Expr) (tr:Fr→Fr→Mem→(List AV→Mem→Prop)→Prop):Prop:=∀ pos,Sd X (spliced (backTo pos (starEach es X.env))) (fun g vs us=>L2 (AR g) vs us∧vs.length=es.length) tr
noncomputable def ST (X:Cx) (e:Expr) (tr:Fr→Fr→Mem→(List AV→Mem→Prop)→Prop):Prop:=∀ whole,(isBo e=true∨whole=eval e X.env)→Sd X (isTrue e X.env whole) rB tr
noncomputable def SC (X:Cx) (a:Expr) (op:CmpOp) (b:Expr) (tr:Fr→Fr→Mem→(List AV→Mem→Prop)→Prop):Prop :=
 ∀ (E:Value→Shared→Prop) (Q:Value→Shared→Prop) (s:Shared) (F:Fx) (mem:Mem) (g:GS X.w) (k:List AV→Mem→Prop),Rp X F mem g s→tr F.fr F.cl mem k →
  (∀ vs mem' u s' g',k vs mem'→Rp X F mem' g' s'→Ext g g'→rE g' vs u→Q u s')→WP X (eval a X.env) (fun av s₁=>WP X (eval b X.env) (fun bv s₂=>WP X (compareOp op av bv) Q E s₂) E s₁) E s
section
variable {X:Cx} {e e' e'':Expr} {es:List Expr} {pos:Pos} {x:Nat} {c c' c'':CE}
noncomputable abbrev evX (X:Cx) (c:CE):=ev X.T X.r c
theorem so_nm (ok:X.Ok) (hk:X.kinds.lookup (nameOf x)=some .local):SEx X (.Name (nameOf x) pos) (evX X (.nm x)):=by
 intro E Q s F mem g k P h kk
 obtain ⟨v,hv,h⟩:=lookK_of h
 obtain ⟨u,h1,h2⟩:=P.fr x v hv
 exact nm_loc ok.V hk P.st h1 (kk _ mem u s g h P .rfl ⟨v,rfl,h2⟩)
theorem so_nc (ok:X.Ok) (hk:X.kinds.lookup (nameOf x)=some .cell):SEx X (.Name (nameOf x) pos) (evX X (.nc x)):=by
 intro E Q s F mem g k P h kk
 obtain ⟨v,hv,h⟩:=lookK_of h
 obtain ⟨a,h0⟩:=ok.cel _ hk
 obtain ⟨u,h1,h2⟩:=P.cl x v a hv h0
 exact nm_cell ok.V hk P.st h0 (.tail _ (List.mem_append_left _ h1)) (kk _ mem u s g h P .rfl ⟨v,rfl,h2⟩)
noncomputable def eqV (u v:Value):Is? (u=v):=match u,v with
 | .ref a,.ref b=>if h:a=b then some ⟨by rw [h]⟩ else none
 | .builtin a,.builtin b=>if h:a=b then some ⟨by rw [h]⟩ else none
 | .type a,.type b=>if h:a=b then some ⟨by rw [h]⟩ else none
 | _,_=>none
noncomputable def lkV (l:Nt.Loc) (y:Str) (v:Value):Bool:=(l.lookup y).any fun u=>(eqV u v).isSome
noncomputable def globV (y:Str) (v:Value):Bool:=lkV gs y v||lkV bs y v
theorem lookup_mem {α β:Type} [BEq α] [LawfulBEq α] {x:α} {b:β} {l:List (α×β)}:l.lookup x=some b→(x,b)∈l:=by
 induction l with
 | nil=>exact fun h=>nomatch h
 | cons q l ih =>
  obtain ⟨y,z⟩:=q
  intro h
  rw [List.lookup_cons] at h
  cases e:x==y with
  | true=>rw [e] at h;exact beq_iff_eq.mp e▸Option.some.inj h▸.head _
  | false=>rw [e] at h;exact .tail _ (ih h)
theorem lkV_of {l:Nt.Loc} {y:Str} {v:Value} (h:lkV l y v=true):(y,v)∈l:=by
 delta lkV at h
 cases q:l.lookup y with
 | none=>rw [q] at h;cases h
 | some u=>rw [q] at h;rw [← is_of (p:=u=v) h];exact lookup_mem q
theorem globV_res {T:Top} {w:World} {y:Str} {v:Value} (W:Kn T w) (h:globV y v=true):Res T.hE y v:=by
 rcases or_of h with h | h
 ·exact W.G.res (lkV_of h)
 ·exact W.G.resb (lkV_of h)
noncomputable def globI (y:Str) (i:Int):Bool:=match gi.lookup y with | some j=>i==j | none=>false
theorem globI_res {T:Top} {w:World} {y:Str} {i:Int} (W:Kn T w) (h:globI y i=true):∃ t,Res T.hE y (.int i t):=by
 delta globI at h
 cases q:gi.lookup y with
 | none=>rw [q] at h;cases h
 | some j =>
  rw [q] at h
  obtain ⟨mg,hn,hv⟩:=W.GI
  obtain ⟨t,ht⟩:=hv _ (lookup_mem q)
  rw [beq_iff_eq.mp h]
  exact ⟨t,.inl ⟨mg,hn,ht⟩⟩
noncomputable def isGl (kinds:Kinds) (y:Str):Bool:=kinds.lookup y==some .globalImplicit
noncomputable def ckK (kinds:Kinds) (v:TV) (e:Expr):Bool:=match v with
 | .val v=>(pNm e).any fun y=>isGl kinds y.1&&(globV y.1 v&&handedIn v)
 | .int i=>((pNm e).any fun y=>isGl kinds y.1&&globI y.1 i)||(pKi e).any fun j=>i==j.1
 | .none=>(pNo e).isSome
 | .bool b=>(pKb e).any fun c=>b==c.1
 | .str x=>(pKs e).any fun c=>x==c.1&&Nat.ble x.length 1000
 | _=>false
theorem so_k (ok:X.Ok) {v:TV} (h:ckK X.kinds v e=true):SEx X e (evX X (.k v)):=by
 intro E Q s F mem g k P hk kk
 cases v with
 | val v =>
  obtain ⟨⟨y,p,rfl⟩,h⟩:=any_of h
  obtain ⟨h1,h⟩:=and_of h
  obtain ⟨h2,h3⟩:=and_of h
  exact nm_res ok.V (beq_iff_eq.mp h1) (globV_res ok.W h2) P.st (kk _ mem _ s g hk P .rfl ⟨_,rfl,h3,rfl⟩)
 | int i =>
  rcases or_of h with h | h
  ·obtain ⟨⟨y,p,rfl⟩,h⟩:=any_of h
   obtain ⟨h1,h⟩:=and_of h
   obtain ⟨t,ht⟩:=globI_res ok.W h
   exact nm_res ok.V (beq_iff_eq.mp h1) ht P.st (kk _ mem _ s g hk P .rfl ⟨_,rfl,t,rfl⟩)
  ·obtain ⟨⟨j,_,p,rfl⟩,h⟩:=any_of h
   rw [beq_iff_eq.mp h] at hk
   exact c_int P.st fun s' t S'=>kk _ mem _ s' g hk (P.step S') .rfl ⟨_,rfl,t,rfl⟩
 | none =>
  obtain ⟨j,p,rfl⟩:=is_of h
  exact wpAny_Constant_none (kk _ mem _ s g hk P .rfl ⟨_,rfl,rfl⟩)
 | bool b =>
  obtain ⟨⟨j,_,p,rfl⟩,h⟩:=any_of h
  rw [beq_iff_eq.mp h] at hk
  exact wpAny_Constant_bool (kk _ mem _ s g hk P .rfl ⟨_,rfl,rfl⟩)
 | str x =>
  obtain ⟨⟨j,_,p,rfl⟩,h⟩:=any_of h
  obtain ⟨h1,h2⟩:=and_of h
  have e:=beq_iff_eq.mp h1
  subst e
  exact c_str P.st fun s' t S'=>kk _ mem _ s' g hk (P.step S') .rfl ⟨_,rfl,Nat.le_of_ble_eq_true h2,t,rfl⟩
 | _=>cases h
theorem so_att (ok:X.Ok) (hb:(okBase e).isSome=true) (h1:SEx X e (evX X c)):SEx X (.Attribute e (nameOf x) pos) (evX X (.att c x)):=by
 intro E Q s F mem g k P h kk
 refine Attribute_any_ (h1 E _ s F mem g _ P h fun vs mem1 u s1 g1 h P1 X1 hv=>?_) (is_of hb _ _ _)
 obtain ⟨v,rfl,hv⟩:=hv
 exact s_att ok P1 hv h fun v vv s2 h P2 hv=>kk _ _ _ s2 g1 h P2 X1 ⟨v,rfl,hv⟩
theorem so_sub (hs:(okSl e').isSome=true) (h1:SEx X e (evX X c)) (h2:SEx X e' (evX X c')):SEx X (.Subscript e e' pos) (evX X (.sub c c')):=by
 intro E Q s F mem g k P h kk
 refine Subscript_ (h1 E _ s F mem g _ P h fun vs mem1 u s1 g1 h P1 X1 hv=>?_)
 obtain ⟨v,rfl,hv⟩:=hv
 refine h2 E _ s1 F mem1 g1 _ P1 h fun vs mem2 u s2 g2 h P2 X2 hu=>?_
 obtain ⟨u,rfl,hu⟩:=hu
 exact s_sub hs P2 (hv.mono X2) hu h fun v vv s3 h P3 hv=>kk _ _ _ s3 g2 h P3 (X1.trans X2) ⟨v,rfl,hv⟩
theorem so_turn (ok:X.Ok) {y:Str} {p:Pos} (hk:X.kinds.lookup y=some .globalImplicit) (hg:Res X.T.hE y (.ref 540)) (hs:(okSl e).isSome=true) (h1:SEx X e (evX X c)):SEx X (.Subscript (.Name y p) e pos) (evX X (.turn c)):=by
 intro E Q s F mem g k P h kk
 refine Subscript_ (nm_res ok.V hk hg P.st (h1 E _ s F mem g _ P h fun vs mem1 u s1 g1 h P1 X1 hv=>?_))
 obtain ⟨v,rfl,hv⟩:=hv
 exact s_turn ok hs P1 hv h fun y t s2 h hz P2=>kk _ _ _ s2 g1 h P2 X1 ⟨_,rfl,hz,t,rfl⟩
theorem Fin.of {F:Fx} {mem:Mem} {g g1:GS X.w} {k:List AV→Mem→Prop} {Q:Value→Shared→Prop} (kk:∀ vs mem' u s' g',k vs mem'→Rp X F mem' g' s'→Ext g g'→rE g' vs u→Q u s') (X1:Ext g g1):Fin X F mem g1 (fun t=>k [.t t] mem) Q :=
 fun t tv s2 g2 h P2 X2 ht=>kk _ _ _ s2 g2 h P2 (X1.trans X2) ⟨_,rfl,ht⟩
theorem sc_o2 (ok:X.Ok) (o:O2) {op:CmpOp} (hc:cm2 o=some op) (h1:SEx X e (evX X c)) (h2:SEx X e' (evX X c')):SC X e op e' (evX X (.o2 o c c')):=by
 intro E Q s F mem g k P h kk
 refine h1 E _ s F mem g _ P h fun vs mem1 u s1 g1 h P1 X1 hv=>?_
 obtain ⟨v,rfl,hv⟩:=hv
 refine h2 E _ s1 F mem1 g1 _ P1 h fun vs mem2 u s2 g2 h P2 X2 hu=>?_
 obtain ⟨u,rfl,hu⟩:=hu
 exact s_cm2 (k:=fun t=>k [.t t] mem2) ok o hc P2 (hv.mono X2) hu h (Fin.of kk (X1.trans X2))
theorem sc_isN (n:Bool) {j:Nat} {p:Pos} (h1:SEx X e (evX X c)):SC X e (if n then .IsNot else .Is) (.Constant .none j p) (evX X (.o1 (if n then .isNN else .isN) c)):=by
 intro E Q s F mem g k P h kk
 refine h1 E _ s F mem g _ P h fun vs mem1 u s1 g1 h P1 X1 hv=>?_
 obtain ⟨v,rfl,hv⟩:=hv
 refine wpAny_Constant_none ?_
 cases n with
 | true=>exact s_isNN (k:=fun t=>k [.t t] mem1) P1 hv h (Fin.of kk X1)
 | false=>exact s_isN (k:=fun t=>k [.t t] mem1) P1 hv h (Fin.of kk X1)
theorem sc_nil (ok:X.Ok) (n:Bool) {p:Pos} (h1:SEx X e (evX X c)):SC X e (if n then .NotEq else .Eq) (.List [] p) (evX X (.o1 (if n then .nnil else .enil) c)):=by
 intro E Q s F mem g k P h kk
 refine h1 E _ s F mem g _ P h fun vs mem1 u s1 g1 h P1 X1 hv=>?_
 obtain ⟨v,rfl,hv⟩:=hv
 refine ev_list (PyProof.Rows.spliced_none ?_)
 refine lst_mk P1.st (by decide) fun s2 a S2=>?_
 exact s_nil (k:=fun t=>k [.t t] mem1) n ok.rm.room P1 hv h S2 (Fin.of kk X1)
theorem so_cm {op:CmpOp} {tr} (hm:behindInMarks op e'=false) (h:SC X e op e' tr):SEx X (.Compare e [op] [e'] pos) tr:=fun E Q s F mem g k P hk kk=>wpAny_Compare1 (h E Q s F mem g k P hk kk) hm
theorem st_cm {op:CmpOp} {c:CE} (hm:behindInMarks op e'=false) (h:SC X e op e' (evX X c)):ST X (.Compare e [op] [e'] pos) (evX X (.te c)):=by
 intro whole _ E Q s F mem g k P hk kk
 refine wpAny_isTrue_Compare1 (h E _ s F mem g _ P hk fun vs mem1 u s1 g1 h P1 X1 hv=>?_) hm
 obtain ⟨v,rfl,hv⟩:=hv
 exact truK_of P1 hv h fun d s2 h P2=>kk _ _ _ s2 g1 h P2 X1 rfl
theorem st_te (hb:(okPlain e).isSome=true) (h1:SEx X e (evX X c)):ST X e (evX X (.te c)):=by
 intro whole hw E Q s F mem g k P h kk
 have hb:=is_of hb
 have hw:whole=eval e X.env:=hw.resolve_left fun h=>by rw [hb.2] at h;cases h
 subst hw
 refine PyProof.Rows.isTrue_plain (h1 E _ s F mem g _ P h fun vs mem1 u s1 g1 h P1 X1 hv=>?_) (hb.1 _)
 obtain ⟨v,rfl,hv⟩:=hv
 exact truK_of P1 hv h fun d s2 h P2=>kk _ _ _ s2 g1 h P2 X1 rfl
theorem st_not (h1:ST X e (evX X c)):ST X (.UnaryOp .Not e pos) (evX X (.tnot c)):=by
 intro whole hw E Q s F mem g k P h kk
 refine PyProof.Rows.isTrue_not (h1 _ (.inr rfl) E _ s F mem g _ P h fun vs mem1 d s1 g1 h P1 X1 hv=>?_)
 cases hv
 exact kk _ _ _ s1 g1 h P1 X1 rfl
theorem st_and0:ST X (.BoolOp .And [] pos) (evX X .tt):=fun whole hw E Q s F mem g k P h kk=>PyProof.Rows.isTrue_and_nil (kk _ mem _ s g h P .rfl rfl)
theorem st_or0:ST X (.BoolOp .Or [] pos) (evX X .ff):=fun whole hw E Q s F mem g k P h kk=>PyProof.Rows.isTrue_or_nil (kk _ mem _ s g h P .rfl rfl)
theorem st_and (h1:ST X e (evX X c)) (h2:ST X (.BoolOp .And es pos) (evX X c')):ST X (.BoolOp .And (e::es) pos) (evX X (.tand c c')):=by
 intro whole hw E Q s F mem g k P h kk
 refine PyProof.Rows.isTrue_and (h1 _ (.inr rfl) E _ s F mem g _ P h fun vs mem1 d s1 g1 h P1 X1 hv=>?_)
 cases hv
 cases d with
 | true=>exact h2 whole (.inl rfl) E Q s1 F mem1 g1 k P1 h fun vs mem2 d s2 g2 h P2 X2 hv=>kk vs mem2 d s2 g2 h P2 (X1.trans X2) hv
 | false=>exact kk _ mem1 _ s1 g1 h P1 X1 rfl
theorem st_or (h1:ST X e (evX X c)) (h2:ST X (.BoolOp .Or es pos) (evX X c')):ST X (.BoolOp .Or (e::es) pos) (evX X (.tor c c')):=by
 intro whole hw E Q s F mem g k P h kk
 refine PyProof.Rows.isTrue_or (h1 _ (.inr rfl) E _ s F mem g _ P h fun vs mem1 d s1 g1 h P1 X1 hv=>?_)
 cases hv
 cases d with
 | true=>exact kk _ mem1 _ s1 g1 h P1 X1 rfl
 | false=>exact h2 whole (.inl rfl) E Q s1 F mem1 g1 k P1 h fun vs mem2 d s2 g2 h P2 X2 hv=>kk vs mem2 d s2 g2 h P2 (X1.trans X2) hv
theorem so_or (h1:SEx X e (evX X c)) (h2:SEx X (.BoolOp .Or (e'::es) pos) (evX X c')):SEx X (.BoolOp .Or (e::e'::es) pos) (evX X (.or c c')):=by
 intro E Q s F mem g k P h kk
 refine BoolOp_or (h1 E _ s F mem g _ P h fun vs mem1 u s1 g1 h P1 X1 hv=>?_)
 obtain ⟨v,rfl,hv⟩:=hv
 refine truK_of P1 hv h fun d s2 h P2=>?_
 cases d with
 | true=>exact kk _ mem1 _ s2 g1 h P2 X1 ⟨v,rfl,hv⟩
 | false=>exact h2 E Q s2 F mem1 g1 k P2 h fun vs mem2 d s3 g2 h P3 X2 hv=>kk vs mem2 d s3 g2 h P3 (X1.trans X2) hv
theorem so_and (h1:SEx X e (evX X c)) (h2:SEx X (.BoolOp .And (e'::es) pos) (evX X c')):SEx X (.BoolOp .And (e::e'::es) pos) (evX X (.and c c')):=by
 intro E Q s F mem g k P h kk
 refine BoolOp_and (h1 E _ s F mem g _ P h fun vs mem1 u s1 g1 h P1 X1 hv=>?_)
 obtain ⟨v,rfl,hv⟩:=hv
 refine truK_of P1 hv h fun d s2 h P2=>?_
 cases d with
 | false=>exact kk _ mem1 _ s2 g1 h P2 X1 ⟨v,rfl,hv⟩
 | true=>exact h2 E Q s2 F mem1 g1 k P2 h fun vs mem2 d s3 g2 h P3 X2 hv=>kk vs mem2 d s3 g2 h P3 (X1.trans X2) hv
theorem so_one {o:BoolOp} {tr} (h:SEx X e tr):SEx X (.BoolOp o [e] pos) tr:=fun E Q s F mem g k P ht kk=>BoolOp_one (h E Q s F mem g k P ht kk)
theorem so_ife (h1:ST X e (evX X c)) (h2:SEx X e' (evX X c')) (h3:SEx X e'' (evX X c'')):SEx X (.IfExp e e' e'' pos) (evX X (.ife c c' c'')):=by
 intro E Q s F mem g k P h kk
 refine wpAny_IfExp (h1 _ (.inr rfl) E _ s F mem g _ P h fun vs mem1 d s1 g1 h P1 X1 hv=>?_)
 cases hv
 cases d with
 | true=>exact h2 E Q s1 F mem1 g1 k P1 h fun vs mem2 d s2 g2 h P2 X2 hv=>kk vs mem2 d s2 g2 h P2 (X1.trans X2) hv
 | false=>exact h3 E Q s1 F mem1 g1 k P1 h fun vs mem2 d s2 g2 h P2 X2 hv=>kk vs mem2 d s2 g2 h P2 (X1.trans X2) hv
theorem sl_nil:SL X [] (evX X .nil):=fun pos E Q s F mem g k P h kk=>PyProof.Rows.spliced_none (kk [] mem [] s g h P .rfl ⟨rfl,rfl⟩)
theorem sl_cons (hb:(okArg e).isSome=true) (h1:SEx X e (evX X c)) (h2:SL X es (evX X c')):SL X (e::es) (evX X (.cons c c')):=by
 intro pos E Q s F mem g k P h kk
 refine PyProof.Rows.spliced_more (h1 E _ s F mem g _ P h fun vs mem1 u s1 g1 h P1 X1 hv=>?_) (is_of hb _ _)
 obtain ⟨v,rfl,hv⟩:=hv
 refine h2 pos E _ s1 F mem1 g1 _ P1 h fun us mem2 uvs s2 g2 h P2 X2 hus=>?_
 exact kk (v::us) mem2 (u::uvs) s2 g2 h P2 (X1.trans X2) ⟨⟨u,uvs,rfl,hv.mono X2,hus.1⟩,congrArg Nat.succ hus.2⟩
theorem so_list (hz:es.length≤500) (h1:SL X es (evX X c)):SEx X (.List es pos) (evX X (.list c)):=by
 intro E Q s F mem g k P h kk
 refine ev_list (h1 pos E _ s F mem g _ P h fun vs mem1 us s1 g1 h P1 X1 hvs=>?_)
 have hz':us.length≤1000:=by rw [hvs.1.len,hvs.2];lia
 refine lst_mk P1.st hz' fun s2 a S2=>?_
 obtain ⟨P2,hr⟩:=P1.own (o:=.lst vs) S2 ⟨us,rfl,hz',hvs.1⟩
 exact kk _ _ _ s2 _ (snocK_of h) P2 (X1.trans .own) ⟨_,rfl,hr⟩
theorem so_tupM {j:Nat} (hz:es.length≤500) (h1:SL X es (evX X c)):SEx X (.Tuple es j pos) (evX X (.tupM c)):=by
 intro E Q s F mem g k P h kk
 refine ev_tup (h1 pos E _ s F mem g _ P h fun vs mem1 us s1 g1 h P1 X1 hvs=>?_)
 have hz':us.length≤1000:=by rw [hvs.1.len,hvs.2];lia
 refine tup_mk P1.st hz' fun s2 a S2=>?_
 obtain ⟨P2,hr⟩:=P1.own (o:=.tup vs) S2 ⟨us,rfl,hz',hvs.1⟩
 exact kk _ _ _ s2 _ (snocK_of h) P2 (X1.trans .own) ⟨_,rfl,hr⟩
theorem so_lstF (hz:es.length≤500) (h1:SL X es (evX X c)):SEx X (.List es pos) (evX X (.lstF c)):=by
 intro E Q s F mem g k P h kk
 refine ev_list (h1 pos E _ s F mem g _ P h fun vs mem1 us s1 g1 h P1 X1 hvs=>?_)
 have hz':us.length≤1000:=by rw [hvs.1.len,hvs.2];lia
 obtain ⟨ts,rfl,h'⟩:=treesK_of h
 exact lst_mk P1.st hz' fun s2 a S2=>Fin.l (Fin.of kk X1) h' hz' (treesL.mpr hvs.1) P1 S2
theorem so_tup {j:Nat} (hz:es.length≤500) (h1:SL X es (evX X c)):SEx X (.Tuple es j pos) (evX X (.tup c)):=by
 intro E Q s F mem g k P h kk
 refine ev_tup (h1 pos E _ s F mem g _ P h fun vs mem1 us s1 g1 h P1 X1 hvs=>?_)
 have hz':us.length≤1000:=by rw [hvs.1.len,hvs.2];lia
 obtain ⟨ts,rfl,h'⟩:=treesK_of h
 exact tup_mk P1.st hz' fun s2 a S2=>Fin.t (Fin.of kk X1) h' hz' (treesL.mpr hvs.1) P1 S2
theorem so_dict (ok:X.Ok):SEx X (.Dict [] [] pos) (evX X .dict):=by
 intro E Q s F mem g k P h kk
 refine d_new ok.W.G P.st fun s2 a S2=>?_
 obtain ⟨P2,hr⟩:=P.own (o:=.dic [] []) S2 ⟨[],rfl,rfl,rfl⟩
 exact kk _ _ _ s2 _ (snocK_of h) P2 .own ⟨_,rfl,hr⟩
theorem so_neg (h1:SEx X e (evX X c)):SEx X (.UnaryOp .USub e pos) (evX X (.o1 .neg c)):=by
 intro E Q s F mem g k P h kk
 refine wpAny_UnaryOp (h1 E _ s F mem g _ P h fun vs mem1 u s1 g1 h P1 X1 hv=>?_)
 obtain ⟨v,rfl,hv⟩:=hv
 exact s_neg (k:=fun t=>k [.t t] mem1) P1 hv h (Fin.of kk X1)
theorem so_bin (o:O2) {op:Operator} (hc:bn2 o=some op) (h1:SEx X e (evX X c)) (h2:SEx X e' (evX X c')):SEx X (.BinOp e op e' pos) (evX X (.o2 o c c')):=by
 intro E Q s F mem g k P h kk
 refine wpAny_BinOp (h1 E _ s F mem g _ P h fun vs mem1 u s1 g1 h P1 X1 hv=>?_)
 obtain ⟨v,rfl,hv⟩:=hv
 refine h2 E _ s1 F mem1 g1 _ P1 h fun vs mem2 u s2 g2 h P2 X2 hu=>?_
 obtain ⟨u,rfl,hu⟩:=hu
 exact s_bn2 (k:=fun t=>k [.t t] mem2) o hc P2 (hv.mono X2) hu h (Fin.of kk (X1.trans X2))
theorem so_upto {y:Str} {p p':Pos} (h1:SEx X (.Name y p) (evX X c)) (h2:SEx X e' (evX X c')):SEx X (.Subscript (.Name y p) (.Slice none (some e') none p') pos) (evX X (.o2 .upto c c')):=by
 intro E Q s F mem g k P h kk
 refine ev_upto (h1 E _ s F mem g _ P h fun vs mem1 u s1 g1 h P1 X1 hv=>?_)
 obtain ⟨v,rfl,hv⟩:=hv
 refine h2 E _ s1 F mem1 g1 _ P1 h fun vs mem2 u s2 g2 h P2 X2 hu=>?_
 obtain ⟨u,rfl,hu⟩:=hu
 exact s_upto (k:=fun t=>k [.t t] mem2) P2 (hv.mono X2) hu h (Fin.of kk (X1.trans X2))
theorem so_chr (hs:(okSl e').isSome=true) (h1:SEx X e (evX X c)) (h2:SEx X e' (evX X c')):SEx X (.Subscript e e' pos) (evX X (.o2 .chr c c')):=by
 intro E Q s F mem g k P h kk
 refine Subscript_ (h1 E _ s F mem g _ P h fun vs mem1 u s1 g1 h P1 X1 hv=>?_)
 obtain ⟨v,rfl,hv⟩:=hv
 refine h2 E _ s1 F mem1 g1 _ P1 h fun vs mem2 u s2 g2 h P2 X2 hu=>?_
 obtain ⟨u,rfl,hu⟩:=hu
 exact s_chr (k:=fun t=>k [.t t] mem2) hs P2 (hv.mono X2) hu h (Fin.of kk (X1.trans X2))
theorem so_fn (ok:X.Ok) {y:Str} {p:Pos} {f:Value} {tr:Fr→Fr→Mem→(List AV→Mem→Prop)→Prop} (hf:(∃ id,f=.builtin id)∨∃ T,f=.type T) (hk:X.kinds.lookup y=some .globalImplicit) (hg:Res X.T.hE y f) (hb:((e::es).all fun e=>(okArg e).isSome)=true)
  (h1:∀ (E:Value→Shared→Prop) (Q:Value→Shared→Prop) (s:Shared) (F:Fx) (mem:Mem) (g:GS X.w) (k:List AV→Mem→Prop),Rp X F mem g s→tr F.fr F.cl mem k→(∀ vs mem' u s' g',k vs mem'→Rp X F mem' g' s'→Ext g g'→rE g' vs u→Q u s') →
   WP X (spliced (backTo pos (starEach (e::es) X.env))) (fun us s1=>WP X (PySem.call f us) Q E s1) E s):SEx X (.Call (.Name y p) (e::es) [] pos) tr:=by
 intro E Q s F mem g k P h kk
 obtain ⟨hb1,hb2⟩:=and_of (a:=(okArg e).isSome) hb
 have key:=h1 E Q s F mem g k P h kk
 rcases hf with ⟨id,rfl⟩ | ⟨T,rfl⟩
 ·exact Call_ (nm_res ok.V hk hg P.st (PyProof.Rows.callWith_builtin1 key (is_of hb1 _ _) (okArgs_eq hb2))) rfl
 ·exact Call_ (nm_res ok.V hk hg P.st (PyProof.Rows.callWith_type1 key (is_of hb1 _ _) (okArgs_eq hb2))) rfl
end
structure Ms {w:World} (hE:Heap) (s₀:Shared) (R₀ rest:List Ch) (mem:Mem) (g:GS w) (s:Shared):Prop where
 st:St w hE s₀ [] R₀ (g.chs++rest) g.R s
 mem:MemL g g.al mem g.chs
theorem L2.mono {w:World} {g g':GS w} (x:Ext g g') {v:List AV} {u:List Value} (h:L2 (AR g) v u):L2 (AR g') v u:=ARs.mono x h
section
variable {w:World} {hE:Heap} {s₀ s:Shared} {R₀ rest:List Ch} {mem:Mem} {g:GS w} {n:Nat} {a:Addr}
theorem Ms.get {o:MO} (M:Ms hE s₀ R₀ rest mem g s) (h:mem[n]?=some o):∃ a c pre post,g.al[n]?=some a∧OR g a o c∧g.chs=pre++(c++post)∧∀ g':GS w,Ext g g'→∀ o' c',OR g' a o' c'→MemL g' g.al (mem.set n o') (pre++(c'++post)):=M.mem.focus h
theorem resA_of {v:AV} {u:Value} {k:TV→Prop} (M:Ms hE s₀ R₀ rest mem g s) (hv:AR g v u) (h:resA mem v k):∃ t,k t∧TR w g.R t u:=by
 cases v with
 | t t=>exact ⟨t,h,hv⟩
 | ref m =>
  obtain ⟨o,ho,h⟩:=nthK_of h
  obtain ⟨a,ha,rfl⟩:=hv
  obtain ⟨a',c,pre,post,h1,h2,_⟩:=M.get ho
  rw [ha] at h1;cases h1
  cases o with
  | fz t=>exact ⟨t,h,h2.2⟩
  | _=>exact h.elim
theorem resL_of {k:List TV→Prop} (M:Ms hE s₀ R₀ rest mem g s):∀ {l:List AV} {us:List Value} {k:List TV→Prop},L2 (AR g) l us→resL mem l k→∃ ts,k ts∧TRs w g.R ts us:=fun {l}=>by
 induction l with
 | nil=>exact fun {us k} hl h=>⟨[],h,hl⟩
 | cons v l ih =>
  intro us k hl h
  obtain ⟨u,us',e,h1,h2⟩:=hl
  obtain ⟨t,h,ht⟩:=resA_of M h1 h
  obtain ⟨ts,h,hts⟩:=ih (k:=fun us=>k (t::us)) h2 h
  exact ⟨t::ts,h,u,us',e,ht,hts⟩
theorem Ms.frz {t:TV} {ch:Ch} {pre post:List Ch} (M:Ms hE s₀ R₀ rest mem g s) (e:g.chs=pre++([ch]++post)) (hn:∀ g':GS w,Ext g g'→∀ o' c',OR g' a o' c'→MemL g' g.al (mem.set n o') (pre++(c'++post)))
  (ht:TR w (ch::g.R) t (.ref a)):∃ g':GS w,Ms hE s₀ R₀ rest (mem.set n (.fz t)) g' s∧Ext g g'∧TR w g'.R t (.ref a):=by
 have R1:∀ {pre:List Ch} {q:List Ch},Rem1 ch (pre++([ch]++q)) (pre++q):=fun {pre q}=>by
  induction pre with
  | nil=>exact .hd
  | cons p pre ih=>exact .tl ih
 have S:=M.st
 rw [e,List.append_assoc,List.append_assoc] at S
 have X:Ext g (⟨pre++post,g.al,ch::g.R⟩:GS w):=⟨fun _ h=>.tail _ h,[],(List.append_nil _).symm⟩
 refine ⟨⟨pre++post,g.al,ch::g.R⟩,⟨?_,hn _ X _ [] ⟨rfl,ht⟩⟩,X,ht⟩
 have:=S.freeze R1 fun _ h=>nomatch h
 rw [← List.append_assoc] at this
 exact this
theorem resO_of {o:MO} {k:TV→Prop} (M:Ms hE s₀ R₀ rest mem g s) (h:mem[n]?=some o) (ha:g.al[n]?=some a) (hr:resO mem o k):∃ t,k t∧∃ g':GS w,Ms hE s₀ R₀ rest (mem.set n (.fz t)) g' s∧Ext g g'∧TR w g'.R t (.ref a):=by
 obtain ⟨c,pre,post,h2,h3,h4⟩:=M.mem.focusA h ha
 have up:∀ {ch:Ch} {ts:List TV} {us:List Value},TRs w g.R ts us→TRs w (ch::g.R) ts us:=fun h=>TRs.mono (fun _ h=>.tail _ h) h
 cases o with
 | fz t=>exact ⟨t,hr,g,⟨by have:=M.st;rw [h3,h2.1] at this;rw [h3,h2.1];exact this,by rw [h3];exact h4 g .rfl _ _ h2⟩,.rfl,h2.2⟩
 | lst l =>
  obtain ⟨vs,rfl,hz,hl⟩:=h2
  obtain ⟨ts,hk,ht⟩:=resL_of (k:=fun us=>k (.lst us)) M hl hr
  exact ⟨_,hk,M.frz h3 h4 ⟨a,vs,rfl,.head _,hz,up ht⟩⟩
 | tup l =>
  obtain ⟨vs,rfl,hz,hl⟩:=h2
  obtain ⟨ts,hk,ht⟩:=resL_of (k:=fun us=>k (.tup us)) M hl hr
  exact ⟨_,hk,M.frz h3 h4 ⟨a,vs,rfl,.head _,hz,up ht⟩⟩
 | inst C xs l =>
  obtain ⟨dx,m,vs,rfl,_,_,hf,hl⟩:=h2
  obtain ⟨ts,hk,ht⟩:=resL_of (k:=fun us=>k (.obj C xs us)) M hl hr
  exact ⟨_,hk,M.frz h3 h4 ⟨a,dx,m,vs,rfl,.head _,hf,up ht⟩⟩
 | dic ks l =>
  obtain ⟨vs,rfl,hz,hl⟩:=h2
  obtain ⟨ts,hk,ht⟩:=resL_of (k:=fun us=>k (.dic ks us)) M hl hr
  exact ⟨_,hk,M.frz h3 h4 ⟨a,vs,rfl,.head _,hz,up ht⟩⟩
 | fl l =>
  obtain ⟨rfl,vs,hR,hz,hl⟩:=h2
  obtain ⟨ts,hk,ht⟩:=resL_of (k:=fun us=>k (.lst us)) M hl hr
  have q:TR w g.R (.lst ts) (.ref a):=⟨a,vs,rfl,hR,hz,ht⟩
  exact ⟨_,hk,g,⟨M.st,by rw [h3];exact h4 g .rfl _ [] ⟨rfl,q⟩⟩,.rfl,q⟩
 | _=>exact hr.elim
noncomputable def FzR (hE:Heap) (s₀:Shared) (R₀ rest:List Ch) (s:Shared) (g:GS w) (mem:Mem) (g':GS w):Prop:=Ms hE s₀ R₀ rest mem g' s∧Ext g g'
theorem kids_ex (M:Ms hE s₀ R₀ rest mem g s) {o:MO} (ho:mem[n]?=some o):∃ us,L2 (AR g) (kids o) us:=by
 obtain ⟨a',c,pre,post,h1,h2,_⟩:=M.get ho
 clear ho
 cases o with
 | lst l=>exact h2.imp fun _ h=>h.2.2
 | tup l=>exact h2.imp fun _ h=>h.2.2
 | fl l=>exact h2.2.imp fun _ h=>h.2.2
 | inst C xs l=>obtain ⟨_,_,vs,_,_,_,_,hl⟩:=h2;exact ⟨vs,hl⟩
 | dic ks l=>exact h2.imp fun _ h=>h.2.2
 | _=>exact ⟨[],rfl⟩
theorem fzc_of {d:Nat} (ih:∀ {mem:Mem} {g:GS w} {v:AV} {u:Value} {k:TV→Mem→Prop},Ms hE s₀ R₀ rest mem g s→AR g v u→fzK d mem v k→∃ t mem',k t mem'∧∃ g':GS w,Ms hE s₀ R₀ rest mem' g' s∧Ext g g'∧TR w g'.R t u) :
  ∀ {l:List AV} {mem:Mem} {g:GS w} {us:List Value} {k:Mem→Prop},Ms hE s₀ R₀ rest mem g s→L2 (AR g) l us→fzc (fzK d) l mem k→∃ mem',k mem'∧∃ g':GS w,FzR hE s₀ R₀ rest s g mem' g':=fun {l}=>by
 induction l with
 | nil=>exact fun {mem g us k} M _ h=>⟨mem,h,g,M,.rfl⟩
 | cons v l ih2 =>
  intro mem g us k M hl h
  obtain ⟨u,us',e,h1,h2⟩:=hl
  obtain ⟨t,mem1,h,g1,M1,X1,_⟩:=ih M h1 h
  obtain ⟨mem2,h,g2,M2,X2⟩:=ih2 M1 (h2.mono X1) h
  exact ⟨mem2,h,g2,M2,X1.trans X2⟩
theorem fzK_of:∀ (d:Nat) {mem:Mem} {g:GS w} {v:AV} {u:Value} {k:TV→Mem→Prop},Ms hE s₀ R₀ rest mem g s→AR g v u→fzK d mem v k→∃ t mem',k t mem'∧∃ g':GS w,Ms hE s₀ R₀ rest mem' g' s∧Ext g g'∧TR w g'.R t u:=fun d=>by
 induction d with
 | zero=>exact fun _ _ h=>h.elim
 | succ d ih =>
  intro mem g v u k M hv h
  cases v with
  | t t=>exact ⟨t,mem,h,g,M,.rfl,hv⟩
  | ref n =>
   obtain ⟨o,ho,h⟩:=nthK_of h
   obtain ⟨a,ha,rfl⟩:=hv
   obtain ⟨us,hus⟩:=kids_ex M ho
   obtain ⟨mem1,h,g1,M1,X1⟩:=fzc_of ih M hus h
   obtain ⟨o1,ho1,h⟩:=nthK_of h
   obtain ⟨t,h,g2,M2,X2,ht⟩:=resO_of M1 ho1 (al_get X1 ha) h
   exact ⟨t,_,setK_of h,g2,M2,X1.trans X2,ht⟩
end
section
variable {X:Cx} {F:Fx} {mem:Mem} {g:GS X.w} {s s':Shared} {E:Value→Shared→Prop} {Q:Value→Shared→Prop} {v u:AV} {uv vv:Value} {a:Addr} {ch:Ch}
theorem perm_out {p:Ch} {cc chs rest:List Ch}:(p::(cc++(chs++rest))).Perm (chs++(p::(cc++rest))):=by
 refine (List.Perm.cons p ?_).trans List.perm_middle.symm
 rw [← List.append_assoc,← List.append_assoc]
 exact (List.perm_append_comm).append_right rest
noncomputable abbrev Fx.out (X:Cx) (F:Fx):List Ch:=.frm X.L F.m::(F.cc++F.rest)
theorem Rp.ms (P:Rp X F mem g s):Ms X.T.hE X.s₀ X.R₀ (F.out X) mem g s:=⟨P.st.perm perm_out,P.mem⟩
theorem Rp.back {mem':Mem} {g':GS X.w} (P:Rp X F mem g s) (M:Ms X.T.hE X.s₀ X.R₀ (F.out X) mem' g' s') (x:Ext g g'):Rp X F mem' g' s':=⟨M.st.perm perm_out.symm,P.fr.mono x,P.cl.mono x,M.mem⟩
theorem call_of (ok:X.Ok) {f:Value} {vs:List AV} {us:List Value} {k:AV→Mem→Prop} (P:Rp X F mem g s) (hvs:L2 (AR g) vs us) (h:CALL X.T X.r f vs mem k)
  (kk:∀ v mem' u s' g',k v mem'→Rp X F mem' g' s'→Ext g g'→AR g' v u→Q u s'):WP X (PySem.call f us) Q E s :=
 h.run X.w X.A X.s₀ X.R₀ E Q s g (F.out X) us ok.rm ok.W P.ms.st P.mem hvs fun av mem' v s' g' hk S hm x hv=>kk av mem' v s' g' hk (P.back ⟨S,hm⟩ x) x hv
theorem fn_of (ok:X.Ok) {p:Bool} {f:Nat} {vs:List AV} {us:List Value} {k:TV→Prop} (P:Rp X F mem g s) (hvs:L2 (AR g) vs us) (h:lendK p mem vs fun ts=>FN X.T X.r p f ts k) (kk:Fin X F mem g k Q):WP X (PySem.call (.ref f) us) Q E s:=by
 have key:∀ {g0:GS X.w} {m0:Mem} {as:List AV} {c1:List Ch},g.chs=g0.chs++c1→(∃ l,g.al=g0.al++l)→g0.R=g.R→MemL g0 g0.al m0 g0.chs→L2 (AR g0) as us→CALL X.T X.r (.ref f) as m0 (fun v mem'=>fzK 9 mem' v fun u mem''=>okP p mem'' (k u)) →
   (∀ t mem'' (g2:GS X.w),okP p mem'' (k t)→MemL g2 g2.al mem'' g2.chs→Ext g0 g2→k t∧g0.chs.Sublist g2.chs)→WP X (PySem.call (.ref f) us) Q E s:=by
  intro g0 m0 as c1 e1 ⟨l,e2⟩ e3 hm has hc fin
  have S:=P.ms.st
  rw [e1,List.append_assoc] at S
  refine hc.run X.w X.A X.s₀ X.R₀ E Q s g0 (c1++F.out X) us ok.rm ok.W (e3▸S) hm has fun av mem' v s' g' hk S' hm' x hv=>?_
  obtain ⟨t,mem'',hk,g2,M2,X2,ht⟩:=fzK_of 9 ⟨S',hm'⟩ hv hk
  have X3:=x.trans X2
  obtain ⟨hk,hsub⟩:=fin t mem'' g2 hk M2.mem X3
  have XX:Ext g (⟨g.chs,g.al,g2.R⟩:GS X.w):=⟨fun p hp=>X3.R p (e3▸hp),[],(List.append_nil _).symm⟩
  have S2:=thin M2.st (List.Sublist.append hsub (.refl _))
  rw [← List.append_assoc,← e1] at S2
  exact kk t v s' ⟨g.chs,g.al,g2.R⟩ hk (P.back ⟨S2,P.mem.mono XX⟩ XX) XX ht
 cases p with
 | false =>
  obtain ⟨ts,rfl,h'⟩:=treesK_of (l:=vs) h
  exact key (g0:=⟨[],[],g.R⟩) (m0:=[]) (as:=ts.map .t) (c1:=g.chs) rfl ⟨g.al,rfl⟩ rfl ⟨rfl,rfl⟩ (treesL.mp ((treesL (g:=g)).mpr hvs)) h'.run fun t mem'' g2 hk _ _=>⟨hk,List.nil_sublist _⟩
 | true =>
  obtain ⟨l,r,rfl,rfl,h⟩:=lendK_of h
  obtain ⟨ts,rfl,h'⟩:=treesK_of h
  obtain ⟨a,al',c,c1,h1,h2,h3,h4⟩:=P.mem
  obtain ⟨u,us',rfl,⟨b,hb,rfl⟩,hts⟩:=hvs
  have hb':b=a:=by rw [h1] at hb;simpa using hb.symm
  subst hb'
  have h3:c=[.pool b]:=h3
  subst h3
  refine key (g0:=⟨[.pool b],[b],g.R⟩) (m0:=[.pool]) (as:=.ref 0::ts.map .t) (c1:=c1) h2 ⟨al',h1⟩ rfl ⟨b,[],[.pool b],[],rfl,rfl,rfl,rfl,rfl⟩ ⟨_,_,rfl,⟨b,rfl,rfl⟩,treesL.mp ((treesL (g:=g)).mpr hts)⟩ h'.run fun t mem'' g2 hk hm x=>?_
  obtain ⟨⟨_,rfl⟩,hk⟩:=okP_of hk
  obtain ⟨a2,al2,c2,c3,q1,q2,q3,_⟩:=hm
  have q3:c2=[.pool a2]:=q3
  obtain ⟨l,el⟩:=x.al
  rw [q1] at el
  cases (List.cons.inj el).1
  exact ⟨hk,q2▸q3▸List.sublist_append_left _ _⟩
end
theorem L2.split {α β:Type} {P:α→β→Prop} {l':List α}:∀ {l:List α} {m:List β},L2 P (l++l') m→∃ m0 m1,m=m0++m1∧L2 P l m0∧L2 P l' m1:=fun {l}=>by
 induction l with
 | nil=>exact fun {m} h=>⟨[],m,rfl,rfl,h⟩
 | cons a l ih =>
  intro m h
  obtain ⟨b,m',e,h1,h2⟩:=h
  obtain ⟨m0,m1,q,h3,h4⟩:=ih h2
  exact ⟨b::m0,m1,by rw [e,q];rfl,L2.cons h1 h3,h4⟩
theorem upd_at {p p':Ch}:∀ {a b:List Ch},Upd1 p p' (a++([p]++b)) (a++([p']++b))
 | [],_=>.hd
 | _::_,_=>.tl upd_at
theorem upd_inl {p p':Ch} {c c' d:List Ch} (U:Upd1 p p' c c'):Upd1 p p' (c++d) (c'++d):=by
 induction U with
 | hd=>exact .hd
 | tl _ ih=>exact .tl ih
theorem upd_inr {p p':Ch} {c c':List Ch} (U:Upd1 p p' c c'):∀ {d:List Ch},Upd1 p p' (d++c) (d++c')
 | []=>U
 | _::_=>.tl (upd_inr U)
section
variable {X:Cx} {e e' e'':Expr} {es:List Expr} {pos:Pos} {x:Nat} {c c' c'':CE} {F:Fx} {mem:Mem} {g:GS X.w} {s s':Shared} {E:Value→Shared→Prop} {Q:Value→Shared→Prop} {v u:AV} {uv vv:Value} {a:Addr}
noncomputable def okF (f:Nat):Bool:=memN dad f||memN (ctab.map (·.1)) f
theorem okF_of (ok:X.Ok) {f:Nat} (h:okF f=true):keepIn X.T.K (.ref f)=true:=by
 rcases or_of h with h | h
 ·exact ok.W.kp f (memN_of h)
 ·obtain ⟨q,hq,e⟩:=List.mem_map.mp (memN_of h);rw [← e];exact ok.W.kc q hq
noncomputable def okAs (es:List Expr):Bool:=es.all fun e=>(okArg e).isSome
theorem callW (ok:X.Ok) {f:Nat} {first:List Value} (kp:keepIn X.T.K (.ref f)=true) (hb:okAs es=true) (hn:es=[]→c=.nil) (h1:SL X es (evX X c)) {k:List AV→Mem→Prop} (P:Rp X F mem g s) (h:evX X c F.fr F.cl mem k)
  (kk:∀ vs mem' us s' g',k vs mem'→Rp X F mem' g' s'→Ext g g'→L2 (AR g') vs us→WP X (PySem.call (.ref f) (first++us)) Q E s'):WP X (callWith pos (.ref f) first (backTo pos (starEach es X.env)) []) Q E s:=by
 cases es with
 | nil =>
  have hn:=hn rfl
  subst hn
  exact callWith_K0 (ok.W.G.X.keeps P.st.base) kp (kk [] mem [] s g h P .rfl rfl)
 | cons e es =>
  obtain ⟨hb1,hb2⟩:=and_of (a:=(okArg e).isSome) hb
  exact callWith_K ok.W.G.X kp (h1 pos E _ s F mem g k P h fun vs mem1 us s1 g1 h P1 X1 hvs=>⟨ok.W.G.X.keeps P1.st.base,kk vs mem1 us s1 g1 h P1 X1 hvs.1⟩) (is_of hb1 _ _) (okArgs_eq hb2)
theorem so_call (ok:X.Ok) {y:Str} {p:Pos} {f:Nat} (hk:X.kinds.lookup y=some .globalImplicit) (hg:Res X.T.hE y (.ref f)) (kp:okF f=true) (hb:okAs es=true) (hn:es=[]→c=.nil) (h1:SL X es (evX X c)) :
  SEx X (.Call (.Name y p) es [] pos) (evX X (.call f c)):=by
 intro E Q s F mem g k P h kk
 refine Call_ (nm_res ok.V hk hg P.st (callW ok (okF_of ok kp) hb hn h1 P h fun vs mem1 us s1 g1 h P1 X1 hvs=>?_)) rfl
 show WP X (PySem.call (.ref f) us) Q E s1
 exact call_of ok P1 hvs h fun v mem2 u s2 g2 h P2 X2 hv=>kk _ mem2 u s2 g2 h P2 (X1.trans X2) ⟨v,rfl,hv⟩
theorem so_fcall (ok:X.Ok) {q:Bool} {y:Str} {p:Pos} {f:Nat} (hk:X.kinds.lookup y=some .globalImplicit) (hg:Res X.T.hE y (.ref f)) (kp:okF f=true) (hb:okAs es=true) (hn:es=[]→c=.nil) (h1:SL X es (evX X c)) :
  SEx X (.Call (.Name y p) es [] pos) (evX X (.fcall q f c)):=by
 intro E Q s F mem g k P h kk
 refine Call_ (nm_res ok.V hk hg P.st (callW ok (okF_of ok kp) hb hn h1 P h fun vs mem1 us s1 g1 h P1 X1 hvs=>?_)) rfl
 show WP X (PySem.call (.ref f) us) Q E s1
 exact fn_of ok P1 hvs h (Fin.of kk X1)
theorem form_true {args:List Expr} {env:Env} (hb:okAs args=true) (hz:args.length<30):methodCallForm (args.length+0) (backTo pos (starEach args env)) []=true:=by
 delta methodCallForm
 have h1:=okArgs_eq (pos:=pos) (env:=env) hb
 have h2:(backTo pos (starEach args env)).all (!·.1)=true:=by
  rw [List.all_eq_true];intro q hq
  rw [List.any_eq_false] at h1
  have:=h1 q hq
  simpa using this
 rw [h2]
 simp -iota [hz]
noncomputable def okMo (o:Expr):Is? (∀ name apos args pos env,eval (.Call (.Attribute o name apos) args [] pos) env=(do
   let ov ← eval o env
   standAt apos.atName
   methodCall o name apos pos env ov (args.length+0) (backTo pos (starEach args env)) [])):=match o with
 | .Name _ _=>some ⟨fun name apos args pos env=>by with_unfolding_all rfl⟩
 | .Attribute _ _ _=>some ⟨fun name apos args pos env=>by with_unfolding_all rfl⟩
 | .Subscript _ _ _=>some ⟨fun name apos args pos env=>by with_unfolding_all rfl⟩
 | _=>none
theorem meth_eq {o:Expr} {name:Str} {apos:Pos} {args:List Expr} {env:Env} (hb:(okMo o).isSome=true) (ha:okAs args=true) (hz:args.length<30) (hp:(apos.endLine==pos.line)=true):eval (.Call (.Attribute o name apos) args [] pos) env=(do
   let ov ← eval o env
   standAt apos.atName
   let (f,first) ← holding [ov] (getMethod ov name (do return (← importBound o env).getD true))
   callWith pos f first (backTo pos (starEach args env)) []):=by
 rw [is_of hb]
 delta methodCall calleeOf methodCallPos
 simp -iota only [form_true ha hz,hp,if_true,Bool.not_true,Bool.false_or]
 rfl
theorem methK_of {C x:Nat} {k:Nat→Prop}:∀ {l:List (Nat×Nat×Nat)},methK C x k l→∃ f,(C,x,f)∈l∧k f:=fun {l}=>by
 induction l with
 | nil=>exact fun h=>h.elim
 | cons q l ih =>
  intro h
  obtain ⟨D,y,f⟩:=q
  have go:methK C x k l→∃ f',(C,x,f')∈(D,y,f)::l∧k f':=fun h=>(ih h).imp fun _ h=>⟨.tail _ h.1,h.2⟩
  rcases brN_of h with ⟨e1,h⟩ | ⟨_,h⟩
  ·rcases brN_of h with ⟨e2,h⟩ | ⟨_,h⟩
   ·exact ⟨f,Nat.eq_of_beq_eq_true e1▸Nat.eq_of_beq_eq_true e2▸.head _,h⟩
   ·exact go h
  ·exact go h
theorem mtab_ok:∀ q∈mtab,q.1∈ctab.map (·.1)∧q.2.2∈dad:=by
 have:(mtab.all fun q=>memN (ctab.map (·.1)) q.1&&memN dad q.2.2)=true:=by decide +kernel
 exact fun q hq=>⟨memN_of (and_of (List.all_eq_true.mp this q hq)).1,memN_of (and_of (List.all_eq_true.mp this q hq)).2⟩
theorem s_meth (ok:X.Ok) {C f:Nat} {dx:Addr} {m:Nt.Loc} {xs:List Nat} {vs:List Value} {pl:Sem Bool} {Q:Value×List Value→Shared→Prop} (P:Rp X F mem g s) (I:HasX X F g (.inst a dx C m)) (hf:Fld C xs vs m) (h:(C,x,f)∈mtab) (hq:Q (.ref f,[.ref a]) s) :
  WP X (getMethod (.ref a) (nameOf x) pl) Q E s:=by
 obtain ⟨h1,h2⟩:=mtab_ok _ h
 obtain ⟨z,hz,e⟩:=List.mem_map.mp h1
 have ci:CI X.T.K C (atN C):=by have:=(ok.W.c z hz).ci;rw [e] at this;exact this
 exact m_fn ok.W.G P.st I ci (ok.W.m _ h) (hf.ab x (List.mem_map.mpr ⟨_,List.mem_filter.mpr ⟨h,Nat.beq_refl C⟩,rfl⟩)) hq
theorem so_meth (ok:X.Ok) {y:Pos} (ho:(okMo e).isSome=true) (hb:okAs es=true) (hz:es.length<30) (hp:(y.endLine==pos.line)=true) (hn:es=[]→c'=.nil) (h1:SEx X e (evX X c)) (h2:SL X es (evX X c')) :
  SEx X (.Call (.Attribute e (nameOf x) y) es [] pos) (evX X (.meth c x c')):=by
 intro E Q s F mem g k P h kk
 refine MethodCall_ (h1 E _ s F mem g _ P h fun vs mem1 u s1 g1 h P1 X1 hv=>?_) (meth_eq ho hb hz hp)
 obtain ⟨v,rfl,hv⟩:=hv
 obtain ⟨o,a,h,rfl,hr⟩:=obK_of P1 hv h
 cases o with
 | inst C xs l =>
  obtain ⟨dx,m,vs,I,hf,hl⟩:=hr
  obtain ⟨f,hm,h⟩:=methK_of h
  refine s_meth ok P1 I hf hm ?_
  refine callW ok (ok.W.kp f (mtab_ok _ hm).2) hb hn h2 P1 h fun us mem2 uvs s2 g2 h P2 X2 hus=>?_
  exact call_of ok P2 (vs:=v::us) ⟨_,_,rfl,hv.mono X2,hus⟩ h fun w mem3 u s3 g3 h P3 X3 hw=>kk _ mem3 u s3 g3 h P3 ((X1.trans X2).trans X3) ⟨w,rfl,hw⟩
 | _=>exact h.elim
set_option tactic.hygienic true in
theorem so_fmeth (ok:X.Ok) {y:Pos} (ho:(okMo e).isSome=true) (hb:okAs es=true) (hz:es.length<30) (hp:(y.endLine==pos.line)=true) (hn:es=[]→c'=.nil) (h1:SEx X e (evX X c)) (h2:SL X es (evX X c')) :
  SEx X (.Call (.Attribute e (nameOf x) y) es [] pos) (evX X (.fmeth c x c')):=by
 intro E Q s F mem g k P h kk
 refine MethodCall_ (h1 E _ s F mem g _ P h fun vs mem1 u s1 g1 h P1 X1 hv=>?_) (meth_eq ho hb hz hp)
 obtain ⟨v,rfl,hv⟩:=hv
 obtain ⟨ts,e1,h⟩:=treesK_of h
 obtain ⟨C,xs,l,rfl,h⟩:=objK_of h
 cases e1
 obtain ⟨f,hm,h⟩:=methK_of h
 obtain ⟨a,dx,m,vs,rfl,I,hf,hl⟩:=(show TR X.w g1.R (.obj C xs l) u from hv)
 refine s_meth ok P1 (.inr (.inl I)) hf hm ?_
 refine callW ok (ok.W.kp f (mtab_ok _ hm).2) hb hn h2 P1 h fun us mem2 uvs s2 g2 h P2 X2 hus=>?_
 obtain ⟨ts,rfl,h'⟩:=treesK_of h
 exact fn_of ok (p:=false) P2 (vs:=(TV.obj C xs l::ts).map .t) ⟨_,_,rfl,hv.mono X2,hus⟩ (treesK_map (k:=fun ts=>FN X.T X.r false f ts _) h') (Fin.of kk (X1.trans X2))
theorem so_app {y:Pos} (ho:(okMo e).isSome=true) (hb:(okArg e').isSome=true) (hp:(y.endLine==pos.line)=true) (h1:SEx X e (evX X c)) (h2:SEx X e' (evX X c')) :
  SEx X (.Call (.Attribute e "append" y) [e'] [] pos) (evX X (.app c c')):=by
 intro E Q s F mem g k P h kk
 have hb':okAs [e']=true:=by show ((okArg e').isSome&&true)=true;rw [hb];rfl
 refine MethodCall_ (h1 E _ s F mem g _ P h fun vs mem1 u s1 g1 h P1 X1 hv=>?_) (meth_eq ho hb' (by simp) hp)
 obtain ⟨v,rfl,hv⟩:=hv
 cases v with
 | t _=>exact h.elim
 | ref n =>
  obtain ⟨o,ho,h⟩:=nthK_of h
  cases o with
  | lst l0 =>
   obtain ⟨a,ha,rfl⟩:=hv
   obtain ⟨vs0,pre,post,_,_,q3,_⟩:=P1.mem.focusL ho ha
   refine m_app P1.st (P1.has q3 (.head _)) ?_
   refine PyProof.Rows.callWith_method1 (sl_cons hb h2 sl_nil pos E _ s1 F mem1 g1 (fun vl mem=>oneK vl fun u=>appK mem (.ref n) u fun mem=>k [.t .none] mem) P1 h fun vl mem2 us s2 g2 h P2 X2 hvs=>?_) (is_of hb _ _) rfl
   obtain ⟨w,rfl,h⟩:=oneK_of h
   obtain ⟨uw,us',rfl,hw,rfl⟩:=hvs.1
   obtain ⟨o,ho,h⟩:=nthK_of h
   cases o with
   | lst l =>
    obtain ⟨hs,h⟩:=brT h
    obtain ⟨ws,pre,post,hz,hl,q3,q4⟩:=P2.mem.focusL ho (al_get X2 ha)
    have hz2:ws.length≤900:=by rw [hl.len];exact shortK_of hs
    have U:Upd1 (.lst a ws) (.lst a (ws++[uw])) g2.chs (pre++([.lst a (ws++[uw])]++post)):=by rw [q3];exact upd_at
    refine l_app P2.st (.tl (upd_inr (upd_inl U))) (by lia) fun s3 S3=>?_
    have X3:Ext g2 (g2.at pre [.lst a (ws++[uw])] post):=GS.ext
    refine kk _ _ _ s3 _ (setK_of h) (P2.new S3 (q4 _ X3 _ _ ⟨_,rfl,by rw [List.length_append];exact Nat.le_trans (Nat.add_le_add_right hz2 1) (by decide),L2.app (l':=[w]) (m':=[uw]) ⟨uw,[],rfl,hw.mono X3,rfl⟩ (hl.mono X3)⟩)) ((X1.trans X2).trans X3) ⟨_,rfl,rfl⟩
   | _=>exact h.elim
  | _=>exact h.elim
theorem so_pop {y:Pos} (ho:(okMo e).isSome=true) (hp:(y.endLine==pos.line)=true) (h1:SEx X e (evX X c)):SEx X (.Call (.Attribute e "pop" y) [] [] pos) (evX X (.pop c)):=by
 intro E Q s F mem g k P h kk
 refine MethodCall_ (h1 E _ s F mem g _ P h fun vs mem1 u s1 g1 h P1 X1 hv=>?_) (meth_eq ho rfl (by simp) hp)
 obtain ⟨v,rfl,hv⟩:=hv
 cases v with
 | t _=>exact h.elim
 | ref n =>
  obtain ⟨o,ho,h⟩:=nthK_of h
  cases o with
  | lst l =>
   obtain ⟨l',w,rfl,h⟩:=h
   obtain ⟨a,ha,rfl⟩:=hv
   obtain ⟨ws,pre,post,hz,hl,q3,q4⟩:=P1.mem.focusL ho ha
   obtain ⟨w0,w1,rfl,hl0,⟨uw,_,rfl,hw,rfl⟩⟩:=hl.split
   rw [List.length_append] at hz
   refine m_pop P1.st (P1.has q3 (.head _)) (PyProof.Rows.callWith_method0 ?_)
   have U:Upd1 (.lst a (w0++[uw])) (.lst a w0) g1.chs (pre++([.lst a w0]++post)):=by rw [q3];exact upd_at
   refine Nt.l_pop P1.st (.tl (upd_inr (upd_inl U))) (by lia) fun s3 S3=>?_
   exact kk _ _ _ s3 _ (setK_of h) (P1.new S3 (q4 _ GS.ext _ _ ⟨_,rfl,by lia,hl0.mono GS.ext⟩)) (X1.trans GS.ext) ⟨_,rfl,hw.mono GS.ext⟩
  | _=>exact h.elim
theorem dictT_of {k:List Int→List TV→Prop} (hv:AR g v vv) (h:dictT v k):∃ ks l a vs,k ks l∧v=.t (.dic ks l)∧vv=.ref a∧Nt.dic a (ks.zip vs)∈g.R∧vs.length=ks.length∧TRs X.w g.R l vs:=by
 cases v with
 | t v=>cases v with
  | dic ks l=>obtain ⟨a,vs,e,h1,h2,h3⟩:=hv;exact ⟨ks,l,a,vs,h,rfl,e,h1,h2,h3⟩
  | _=>exact h.elim
 | ref n=>exact h.elim
theorem so_dget {y p:Pos} (ho:(okMo e).isSome=true) (hb:(okArg e').isSome=true) (hp:(y.endLine==pos.line)=true) (h1:SEx X e (evX X c)) (h2:SEx X e' (evX X c')) :
  SEx X (.Call (.Attribute e "get" y) [e',.List [] p] [] pos) (evX X (.dget c c')):=by
 intro E Q s F mem g k P h kk
 have hb':okAs [e',.List [] p]=true:=by show ((okArg e').isSome&&true)=true;rw [hb];rfl
 refine MethodCall_ (h1 E _ s F mem g _ P h fun vs mem1 u s1 g1 h P1 X1 hv=>?_) (meth_eq ho hb' (by simp) hp)
 obtain ⟨v,rfl,hv⟩:=hv
 obtain ⟨ks,l,a,vs,h,rfl,rfl,I,hz,hl⟩:=dictT_of hv h
 refine d_meth P1.st (.inr (.inl I)) ?_
 let k2:List AV→Mem→Prop:=fun vl mem=>two vl fun j d=>intK j fun i=>dgetK ks l i fun u=>(match u with | some u=>k [.t u] mem | none=>k [d] mem)
 refine PyProof.Rows.callWith_method1 (sl_cons (c':=.cons (.lstF .nil) .nil) hb h2 (sl_cons (e:=.List [] p) rfl (so_lstF (Nat.zero_le _) sl_nil) sl_nil) pos E _ s1 F mem1 g1 k2 P1 h fun vl mem2 us s2 g2 h P2 X2 hvs=>?_) (is_of hb _ _) rfl
 obtain ⟨j,d,rfl,h⟩:=two_of h
 obtain ⟨uj,_,rfl,hj,ud,_,rfl,hd,rfl⟩:=hvs.1
 refine intE hj h fun i t h=>?_
 refine d_getd P2.st (.inr (.inl (X2.R _ I))) fun s3 S3=>?_
 rcases dgetK_of (k:=fun u=>(match u with | some u=>k [.t u] mem2 | none=>k [d] mem2)) (TRs_iff.mp (TRs.mono X2.R hl)) hz h with ⟨q,h⟩ | ⟨w,u,h,q,hw⟩
 ·rw [q];exact kk _ _ _ s3 g2 h (P2.step S3) (X1.trans X2) ⟨d,rfl,hd⟩
 ·rw [q];exact kk _ _ _ s3 g2 h (P2.step S3) (X1.trans X2) ⟨_,rfl,hw⟩
theorem so_fz (h1:SEx X e (evX X c)):SEx X e (evX X (.fz c)):=by
 intro E Q s F mem g k P h kk
 refine h1 E _ s F mem g _ P h fun vs mem1 u s1 g1 h P1 X1 hv=>?_
 obtain ⟨v,rfl,hv⟩:=hv
 obtain ⟨t,mem2,h,g2,M2,X2,ht⟩:=fzK_of 9 P1.ms hv h
 exact kk _ _ _ s1 g2 h (P1.back M2 X2) (X1.trans X2) ⟨_,rfl,ht⟩
theorem so_mkp (h1:SEx X e (evX X c)):SEx X e (evX X (.mkp c)):=by
 intro E Q s F mem g k P h kk
 refine h1 E _ s F mem g _ P h fun vs mem1 u s1 g1 h P1 X1 hv=>?_
 obtain ⟨v,rfl,hv⟩:=hv
 cases v with
 | t _=>exact h.elim
 | ref n =>
  obtain ⟨o,ho,h⟩:=nthK_of h
  cases o with
  | lst l =>
    obtain ⟨x,y,rfl,h⟩:=two_of h
    obtain ⟨a,c0,pre,post,r1,⟨us,rfl,_,u1,us,rfl,h1,u2,us,rfl,h2,rfl⟩,r3,r4⟩:=P1.ms.get ho
    obtain ⟨i,t,rfl,rfl,h⟩:=intK_of (k:=fun i=>intK y fun j=>((0:Int)≤j∧j<2147483647)∧setK mem1 n .pool fun mem=>k [.ref n] mem) h1 h
    obtain ⟨j,t',rfl,rfl,hj,h⟩:=intK_of (k:=fun j=>((0:Int)≤j∧j<2147483647)∧setK mem1 n .pool fun mem=>k [.ref n] mem) h2 h
    have S:=P1.ms.st
    rw [r3,List.append_assoc,List.append_assoc] at S
    have U:∀ {pre q:List Ch} {p p':Ch},Upd1 p p' (pre++([p]++q)) (pre++([p']++q)):=fun {pre q p p'}=>by
     induction pre with
     | nil=>exact .hd
     | cons p pre ih=>exact .tl ih
    have S2:=S.upd (p':=.pool a) U rfl (fun b o _ e=>e) ⟨i,t,j,t',lst_isl (S.own (.lst a [.int i t,.int j t']) (List.mem_append_right _ (List.mem_append_left _ (.head _)))),hj⟩ rfl rfl rfl
    rw [← List.append_assoc (as:=[Ch.pool a]),← List.append_assoc (as:=pre)] at S2
    let g2:GS X.w:=⟨pre++([.pool a]++post),g1.al,g1.R⟩
    have X2:Ext g1 g2:=⟨fun _ h=>h,[],(List.append_nil _).symm⟩
    exact kk _ _ _ s1 g2 (setK_of h) (P1.back ⟨S2,r4 g2 X2 .pool [.pool a] rfl⟩ X2) (X1.trans X2) ⟨_,rfl,hv.mono X2⟩
  | _=>exact h.elim
end
section
variable {X:Cx} {e e' e'':Expr} {es:List Expr} {pos:Pos} {x:Nat} {c c' c'':CE} {F:Fx} {mem:Mem} {g:GS X.w} {s s':Shared} {E:Value→Shared→Prop} {v u:AV} {uv vv:Value} {a:Addr}
noncomputable def ckN (kinds:Kinds):List Nat→List Expr→Bool
 | [],es=>es.isEmpty
 | x::xs,es=>match es with | []=>false | e::es=>((pNm e).any fun y=>nameOf x==y.1&&kinds.lookup y.1==some .local)&&ckN kinds xs es
theorem ckN_of {kinds:Kinds} {x:Nat} {xs:List Nat} (h:ckN kinds (x::xs) es=true):∃ p es',es=.Name (nameOf x) p::es'∧kinds.lookup (nameOf x)=some .local∧ckN kinds xs es'=true:=by
 cases es with
 | nil=>cases h
 | cons e es =>
  obtain ⟨h1,h2⟩:=and_of (b:=ckN kinds xs es) h
  obtain ⟨⟨y,p,rfl⟩,h1⟩:=any_of h1
  obtain ⟨h3,h4⟩:=and_of h1
  have h3:=beq_iff_eq.mp h3
  subst h3
  exact ⟨p,es,rfl,beq_iff_eq.mp h4,h2⟩
noncomputable abbrev Fx.at (F:Fx) (fr:Fr) (m:Nt.Loc):Fx:={ F with fr:=fr,m:=m }
theorem Rp.put (P:Rp X F mem g s) (hv:AR g v uv) (S:St X.w X.T.hE X.s₀ [] X.R₀ (.frm X.L ((nameOf x,uv)::F.m)::(F.cc++(g.chs++F.rest))) g.R s'):Rp X (F.at (put F.fr x v) ((nameOf x,uv)::F.m)) mem g s':=⟨S,P.fr.put hv,P.cl,P.mem⟩
theorem ag_of (ok:X.Ok) {Q:Unit→Shared→Prop} {k:Fr→Prop}:∀ {xs:List Nat} {es:List Expr} {F:Fx} {s:Shared} {vs:List AV} {us:List Value},ckN X.kinds xs es=true→Rp X F mem g s→L2 (AR g) vs us→bindK xs vs F.fr k →
  (∀ fr' s' m',k fr'→Rp X (F.at fr' m') mem g s'→Q () s')→WP X (assignInOrder ((assignEach es X.env).map (·.2)) us) Q E s:=fun {xs}=>by
 induction xs with
 | nil =>
  intro es F s vs us hc P hvs h kk
  cases es with
  | nil =>
   cases vs with
   | nil=>rw [show us=[] from hvs];exact assignInOrder_nil (kk _ s _ h P)
   | cons _ _=>exact h.elim
  | cons _ _=>cases hc
 | cons x xs ih =>
  intro es F s vs us hc P hvs h kk
  obtain ⟨p,es,rfl,h1,h2⟩:=ckN_of hc
  cases vs with
  | nil=>exact h.elim
  | cons v vs =>
   obtain ⟨u,us',e,hv,hvs⟩:=hvs
   rw [e]
   refine assignInOrder_cons (assign_Name (st_loc ok.V h1 P.st fun s1 S1=>?_))
   exact ih (F:=F.at _ _) h2 (P.put hv S1) hvs (putK_of h) kk
theorem ckN_len {kinds:Kinds} {env:Env} {xs:List Nat} {es:List Expr} (h:ckN kinds xs es=true):(assignEach es env).length=xs.length∧(assignEach es env).findIdx? (·.1)=none:=by
 induction xs generalizing es with
 | nil=>cases es with
  | nil=>exact ⟨rfl,rfl⟩
  | cons _ _=>cases h
 | cons x xs ih =>
  obtain ⟨p,es,rfl,h1,h2⟩:=ckN_of h
  obtain ⟨a,b⟩:=ih h2
  refine ⟨congrArg Nat.succ a,?_⟩
  show List.findIdx? _ ((false,_)::assignEach _ env)=none
  rw [List.findIdx?_cons,b];rfl
theorem bindK_len {k:Fr→Prop}:∀ {xs:List Nat} {avs:List AV} {fr:Fr},bindK xs avs fr k→xs.length=avs.length
 | [],[],_,_=>rfl
 | [],_::_,_,h=>h.elim
 | _::_,[],_,h=>h.elim
 | x::xs,v::avs,fr,h=>congrArg Nat.succ (bindK_len (putK_of h))
theorem tupK_of {k:List AV→Prop} (P:Rp X F mem g s) (hv:AR g v vv) (h:tupK mem v k):∃ l a vs,k l∧vv=.ref a∧HasX X F g (.tup a vs)∧L2 (AR g) l vs:=by
 obtain ⟨o,a,h,e,hr⟩:=obK_of P hv h
 cases o with
 | tup l=>obtain ⟨vs,I,_,hl⟩:=hr;exact ⟨l,a,vs,h,e,I,hl⟩
 | _=>exact h.elim
noncomputable def ckTg (kinds:Kinds) (one:Bool) (xs:List Nat) (t:Expr):Bool:=match one with
 | true=>(pNm t).isSome&&ckN kinds xs [t]
 | false=>(pTu t).any fun q=>ckN kinds xs q.1
theorem tg_of (ok:X.Ok) {one:Bool} {xs:List Nat} {t:Expr} {Q:Unit→Shared→Prop} {k:Fr→Prop} (hc:ckTg X.kinds one xs t=true) (P:Rp X F mem g s) (hv:AR g v uv) (h:tgK mem xs one v F.fr k)
  (kk:∀ fr' s' m',k fr'→Rp X (F.at fr' m') mem g s'→Q () s'):WP X (assign t X.env uv) Q E s:=by
 cases one with
 | true =>
  have hc:=(and_of (a:=(pNm t).isSome) hc).2
  cases xs with
  | nil=>cases hc
  | cons x xs =>
   obtain ⟨p,es,e,h1,h2⟩:=ckN_of hc
   cases e
   cases xs with
   | nil=>exact assign_Name (st_loc ok.V h1 P.st fun s1 S1=>kk _ s1 _ (putK_of h) (P.put hv S1))
   | cons _ _=>cases h2
 | false =>
  obtain ⟨⟨es,j,p,rfl⟩,hc⟩:=any_of hc
  obtain ⟨l,a,vs,h,rfl,I,hl⟩:=tupK_of (k:=fun l=>bindK xs l F.fr k) P hv h
  obtain ⟨q1,q2⟩:=ckN_len (env:=X.env) hc
  refine as_tup ok.rm.h P.st I (by rw [q1,bindK_len h,hl.len]) q2 fun s1 S1=>?_
  exact ag_of ok hc (P.step S1) hl h kk
theorem okIt_all (e:Expr) (h:memN [23,20,16,24,25,21] e.ctorIdx=true):∀ env x,foldedSetIterable e env x=pure x:=by
 cases e<;>first | exact (Bool.false_ne_true h).elim | exact fun _ _=>rfl
noncomputable def okIt (e:Expr):Is? (∀ env x,foldedSetIterable e env x=pure x):=if h:memN [23,20,16,24,25,21] e.ctorIdx=true then some ⟨okIt_all e h⟩ else none
theorem srcK_of {k:List AV→Prop} (P:Rp X F mem g s) (hv:AR g v vv) (h:srcK false mem v k):∃ l a vs,k l∧vs.length≤1000∧L2 (AR g) l vs∧vv=.ref a∧(Ch.lst a vs∈g.R∨Ch.tup a vs∈g.R):=by
 cases v with
 | t t=>cases t with
  | lst l=>obtain ⟨a,vs,rfl,h1,h2,h3⟩:=hv;exact ⟨_,a,vs,h,h2,treesL.mp h3,rfl,.inl h1⟩
  | tup l=>obtain ⟨a,vs,rfl,h1,h2,h3⟩:=hv;exact ⟨_,a,vs,h,h2,treesL.mp h3,rfl,.inr h1⟩
  | _=>exact h.elim
 | ref n =>
  obtain ⟨o,ho,h⟩:=nthK_of h
  obtain ⟨a,ha,rfl⟩:=hv
  obtain ⟨c,pre,post,h2,_⟩:=P.mem.focusA ho ha
  cases o with
  | fl l=>obtain ⟨_,vs,q1,q2,q3⟩:=h2;exact ⟨l,a,vs,h,q2,q3,rfl,.inl q1⟩
  | _=>exact h.elim
theorem L2.drop {α β:Type} {P:α→β→Prop} {a:α} {l' l:List α} {m:List β} {i:Nat} (h:L2 P l m):l.drop i=a::l'→∃ b,m[i]?=some b∧P a b∧l.drop (i+1)=l' :=
 L2.ind (P:=P) (C:=fun l m=>∀ i,l.drop i=a::l'→∃ b,m[i]?=some b∧P a b∧l.drop (i+1)=l') (fun i e=>by cases i<;>cases e) (fun p _ ih i e=>by
  cases i with
  | zero=>obtain ⟨rfl,rfl⟩:=List.cons.inj e;exact ⟨_,rfl,p,rfl⟩
  | succ i=>exact ih i e) h i
theorem rng_drop {n i:Nat} (h:i<n):((List.range n).map fun (j:Nat)=>AV.t (.int j)).drop i=AV.t (.int i)::((List.range n).map fun (j:Nat)=>AV.t (.int j)).drop (i+1):=by
 rw [List.drop_eq_getElem_cons (by simpa using h)]
 simp
theorem forIn1 {M:Model} {A:Around} {env:Env} {c:Expr} {Q:Bool→Shared→Prop} (h:wpAny M A (isTrue c env (eval c env)) Q E s) :
  wpAny M A (forIn [c] true fun c r=>if r=true then do let ok ← isTrue c env (eval c env);pure (ForInStep.yield ok) else pure (ForInStep.yield r)) Q E s:=by
 rw [List.forIn_cons]
 simp -iota only [if_true]
 refine wpAny_bind (wpAny_bind (wpAny_mono h (fun b s1 h1=>wpAny_pure ?_) fun _ _ e=>e))
 exact wpAny_pure h1
theorem forIn0 {M:Model} {A:Around} {env:Env} {Q:Bool→Shared→Prop} (h:Q true s) :
  wpAny M A (forIn [] true fun c r=>if r=true then do let ok ← isTrue c env (eval c env);pure (ForInStep.yield ok) else pure (ForInStep.yield r)) Q E s:=wpAny_pure h
noncomputable def FreeR (cells acc:List (Str×Addr)) (names:Kinds) (cl:List (Str×Addr)):Prop:=freeGo names cells acc=some cl∧(∀ n a,cl.lookup n=some a→cells.lookup n=some a)∧(∀ n,names.contains (n,.free)=true∨(∃ a,acc.lookup n=some a)→∃ a,cl.lookup n=some a)
theorem freeGo_of:∀ {names:Kinds} {cells acc:List (Str×Addr)},(∀ n,names.contains (n,.free)=true→∃ a,cells.lookup n=some a)→(∀ n a,acc.lookup n=some a→cells.lookup n=some a)→∃ cl,FreeR cells acc names cl:=fun {names}=>by
 induction names with
 | nil=>exact fun {cells acc} h ha=>⟨acc,rfl,ha,fun n h=>h.resolve_left fun h=>Bool.false_ne_true h⟩
 | cons p r ih =>
  obtain ⟨n,k⟩:=p
  intro cells acc h ha
  have hr:∀ m,r.contains (m,NameKind.free)=true→∃ a,cells.lookup m=some a:=fun m hm=>h m (by rw [List.contains_cons,hm,Bool.or_true])
  delta FreeR
  show ∃ cl,((if (k==.free)=true then (cells.lookup n).map fun a=>(n,a)::acc else some acc).bind fun acc=>freeGo r cells acc)=some cl∧_
  have sp:∀ {m},((n,k)::r).contains (m,NameKind.free)=true→(m=n∧k=.free)∨r.contains (m,NameKind.free)=true:=fun {m} hm=>by
   rw [List.contains_cons] at hm
   exact (or_of hm).imp (fun e=>by have:=beq_iff_eq.mp e;exact ⟨congrArg Prod.fst this,(congrArg Prod.snd this).symm⟩) id
  by_cases q:(k==NameKind.free)=true
  ·rw [if_pos q]
   obtain ⟨a,ea⟩:=h n (by rw [List.contains_cons,beq_iff_eq.mp q,BEq.rfl];rfl)
   rw [ea]
   obtain ⟨cl,h1,h2,h3⟩:=ih (acc:=(n,a)::acc) hr (fun m b hm=>by
    rw [List.lookup_cons] at hm
    cases e:m==n with
    | true=>rw [e] at hm;exact beq_iff_eq.mp e▸Option.some.inj hm▸ea
    | false=>rw [e] at hm;exact ha m b hm)
   refine ⟨cl,h1,h2,fun m hm=>h3 m ?_⟩
   cases e:m==n with
   | true=>exact .inr ⟨a,by rw [List.lookup_cons,e]⟩
   | false =>
    refine hm.imp (fun hm=>(sp hm).resolve_left fun h=>?_) fun hb=>hb.imp fun b hb=>by rw [List.lookup_cons,e];exact hb
    rw [beq_iff_eq.mpr h.1] at e;cases e
  ·rw [if_neg q]
   obtain ⟨cl,h1,h2,h3⟩:=ih hr ha
   exact ⟨cl,h1,h2,fun m hm=>h3 m (hm.imp (fun hm=>(sp hm).resolve_left fun h=>q (beq_iff_eq.mpr h.2)) id)⟩
theorem relK_cell {names kinds:Kinds} {y:Str}:(relK names kinds).lookup y=some .cell→(names.all fun x=>decide (x.2≠.cell))=true→names.contains (y,.free)=true:=by
 induction names with
 | nil=>intro h;cases h
 | cons q r ih =>
  obtain ⟨n,k⟩:=q
  intro h hc
  obtain ⟨hc1,hc2⟩:=and_of (a:=decide (k≠.cell)) hc
  rw [List.contains_cons]
  by_cases e:y=n
  ·subst e
   have h:List.lookup y ((if (k==.free&&kinds.lookup y==some .cell) then (y,NameKind.cell) else (y,k))::relK r kinds)=some .cell:=h
   split at h
   ·rename_i q
    have:=beq_iff_eq.mp (and_of q).1
    subst this;simp
   ·simp at h;subst h;simp at hc1
  ·have h:List.lookup y ((if (k==.free&&kinds.lookup n==some .cell) then (n,NameKind.cell) else (n,k))::relK r kinds)=some .cell:=h
   have hy:(y==n)=false:=by simpa using e
   have h2:(relK r kinds).lookup y=some .cell:=by
    split at h<;>(rw [List.lookup_cons,hy] at h;exact h)
   rw [ih h2 hc2,Bool.or_true]
end
noncomputable abbrev inX (X:Cx) (names:Kinds) (env:Env) (L:Addr) (cells:List (Str×Addr)):Cx:={ X with env:=env,L:=L,kinds:=relK names X.kinds,cells:=cells }
theorem perm3 {p a b d:Ch} {cc chs rest:List Ch}:(p::a::b::d::(cc++(chs++rest))).Perm (p::(cc++(chs++(a::b::d::rest)))):=by
 refine .cons _ ?_
 rw [← List.append_assoc,← List.append_assoc]
 exact List.perm_append_comm_assoc [a,b,d] (cc++chs) rest
noncomputable abbrev TurnT (X:Cx) (F:Fx) (tg:List Nat) (one:Bool) (ce cd:CE):AV→Mem→(List TV→Mem→Prop)→Prop :=
 fun v mem k=>tgK mem tg one v [] fun cf=>evX X cd cf F.cl mem fun vs mem=>bitK vs fun d=>brK d (evX X ce cf F.cl mem fun us mem=>treesK us fun ts=>k ts mem) (k [] mem)
noncomputable def CJ (X:Cx) (F:Fx) (g0:GS X.w) (T:AV→Mem→(List TV→Mem→Prop)→Prop) (l:List AV) (k:List TV→Mem→Prop) (i:Nat) (ys:List Value) (c R:List Ch):Prop :=
 ∃ mem,∃ g:GS X.w,∃ acc,c=F.cc++(g.chs++F.rest)∧R=g.R∧Ext g0 g∧MemL g g.al mem g.chs∧TRs X.w g.R acc ys∧ys.length≤i∧compL T (l.drop i) acc mem k
theorem CJ.sub {X:Cx} {F:Fx} {g0:GS X.w} {T:AV→Mem→(List TV→Mem→Prop)→Prop} {l:List AV} {k:List TV→Mem→Prop} {i:Nat} {ys:List Value} {c R:List Ch} (j:CJ X F g0 T l k i ys c R) {p:Ch} (h:p∈g0.R):p∈R:=by
 obtain ⟨_,g,_,_,e,x,_⟩:=j;exact e▸x.R _ h
theorem CJ.own {X:Cx} {F:Fx} {g0:GS X.w} {T:AV→Mem→(List TV→Mem→Prop)→Prop} {l:List AV} {k:List TV→Mem→Prop} {i:Nat} {ys:List Value} {c R:List Ch} (j:CJ X F g0 T l k i ys c R) {p:Ch} (h:p∈F.rest):p∈c:=by
 obtain ⟨_,g,_,e,_⟩:=j;exact e▸List.mem_append_right _ (List.mem_append_right _ h)
section
variable {X:Cx} {pos:Pos} {F:Fx} {g0:GS X.w} {elt target iter:Expr} {ifs:List Expr} {scope:Scope} {tg:List Nat} {one:Bool} {ce cd:CE} {k:List TV→Mem→Prop}
inductive Ifs (X:Cx):List Expr→CE→Prop
 | nil:Ifs X [] .tt
 | one {c:Expr} {cd:CE}:ST X c (evX X cd)→Ifs X [c] cd
theorem one_ts {w:AV} {ts:List TV} (e:[w]=ts.map .t):∃ t,ts=[t]∧w=.t t:=by
 cases ts with
 | nil=>cases e
 | cons t ts=>cases ts with
  | nil=>exact ⟨t,rfl,(List.cons.inj e).1⟩
  | cons _ _=>cases (List.cons.inj e).2
theorem comp_turn {cl:List (Str×Addr)} {l l':List AV} {av:AV} {v:Value} {i:Nat} {ys:List Value} {c R:List Ch} (ok:X.Ok)
  (hin:∀ env L,EnvOk env L (relK scope.names X.kinds) cl→(inX X scope.names env L cl).Ok) (hcl:∀ n a,cl.lookup n=some a→X.cells.lookup n=some a) (hC:ClR g0 X.cells F.cl F.cc)
  (htg:ckTg (relK scope.names X.kinds) one tg target=true) (h1:∀ env L,(inX X scope.names env L cl).Ok→SEx (inX X scope.names env L cl) elt (evX X ce)) (h2:∀ env L,(inX X scope.names env L cl).Ok→Ifs (inX X scope.names env L cl) ifs cd)
  (hd:l.drop i=av::l') (hv:AR g0 av v) (j:CJ X F g0 (TurnT X F tg one ce cd) l k i ys c R):Turn PySem.Challenge.rw_nt0144_01.row.prog X.w X.A X.T.hE X.s₀ [] X.R₀ X.env X.kinds cl scope target elt ifs (.frm X.L F.m) (CJ X F g0 (TurnT X F tg one ce cd) l k (i+1)) v ys c R:=by
 intro C D m s E' ck G G0 hG hG0 V S
 obtain ⟨mem,g,acc,rfl,rfl,x0,hm,hacc,hlen,hk⟩:=j
 have ok':=hin _ _ V
 have hd':l.drop (i+1)=l':=by rw [← List.drop_drop,hd];rfl
 rw [hd] at hk
 let F':Fx:=⟨.lst D ys::ck::.frm X.L F.m::F.rest,[],F.cl,m,F.cc⟩
 have P:Rp (inX X scope.names (compEnvC scope cl C X.env) C cl) F' mem g s :=
  ⟨S.perm perm3,fun _ _ h=>(by cases h),fun y z a e e'=>let ⟨u,q1,q2⟩:=hC y z a e (hcl _ _ e');⟨u,q1,q2.mono x0⟩,hm⟩
 have back:∀ {F'':Fx} {mem2:Mem} {g2:GS X.w} {s2:Shared} {us:List TV} {ys':List Value},F''.rest=F'.rest→F''.cc=F.cc→Rp (inX X scope.names (compEnvC scope cl C X.env) C cl) F'' mem2 g2 s2→Ext g g2→TRs X.w g2.R us ys'→ys'.length≤1 →
   compL (TurnT X F tg one ce cd) l' (acc++us) mem2 k→∃ m c R,CJ X F g0 (TurnT X F tg one ce cd) l k (i+1) (ys++ys') c R∧St X.w X.T.hE X.s₀ [] X.R₀ (.frm C m::.lst D ys::ck::.frm X.L F.m::c) R s2:=by
  intro F'' mem2 g2 s2 us ys' e1 e2 P2 x hus hz hk
  refine ⟨F''.m,_,_,⟨mem2,g2,acc++us,rfl,rfl,x0.trans x,P2.mem,(TRs.mono x.R hacc).app hus,by rw [List.length_append];lia,by rw [hd'];exact hk⟩,?_⟩
  have S2:=P2.st
  rw [e1,e2] at S2
  exact S2.perm perm3.symm
 refine tg_of ok' htg P (hv.mono x0) hk fun fr' s2 m2 hk P2=>?_
 have fin:∀ {mem2:Mem} {g2:GS X.w} {s2:Shared} (d:Bool),Rp (inX X scope.names (compEnvC scope cl C X.env) C cl) (F'.at fr' m2) mem2 g2 s2→Ext g g2 →
   brK d (evX X ce fr' F.cl mem2 fun us mem=>treesK us fun ts=>compL (TurnT X F tg one ce cd) l' (acc++ts) mem k) (compL (TurnT X F tg one ce cd) l' (acc++[]) mem2 k) →
   if d=true then wpAny (mo X.w) X.A (eval elt (compEnvC scope cl C X.env)) G E' s2 else G0 s2:=by
  intro mem2 g2 s2 d P2 x hk
  cases d with
  | true =>
   rw [if_pos rfl]
   refine h1 _ _ ok' E' G s2 (F'.at fr' m2) mem2 g2 _ P2 hk fun vs mem3 u s3 g3 hk P3 x3 hu=>?_
   obtain ⟨w,rfl,hw⟩:=hu
   obtain ⟨ts,e,hk'⟩:=treesK_of hk
   obtain ⟨t,rfl,rfl⟩:=one_ts e
   exact hG.ap (back (F'':=F'.at fr' m2) (us:=[t]) (ys':=[u]) rfl rfl P3 (x.trans x3) ⟨u,[],rfl,hw,rfl⟩ (Nat.le_refl _) hk')
  | false =>
   rw [if_neg (by simp)]
   have:=back (F'':=F'.at fr' m2) (us:=[]) (ys':=[]) rfl rfl P2 x rfl (by simp) hk
   rw [List.append_nil] at this
   exact hG0.ap this
 cases h2 _ _ ok' with
 | nil=>exact forIn0 (fin true P2 .rfl hk)
 | one hc =>
  refine forIn1 (hc _ (.inr rfl) E' _ s2 (F'.at fr' m2) mem g _ P2 hk fun vs mem2 b s3 g3 hk P3 x3 hb=>?_)
  cases hb
  exact fin b P3 x3 hk
noncomputable def ckSc (kinds names:Kinds):Bool:=scopeOk names&&names.all fun x=>x.2 != .free||kinds.lookup x.1==some .cell
theorem ckSc_of (ok:X.Ok) (h:ckSc X.kinds scope.names=true):scopeOk scope.names=true∧∃ cl,freeGo scope.names X.cells []=some cl∧(∀ n a,cl.lookup n=some a→X.cells.lookup n=some a)∧∀ env L,EnvOk env L (relK scope.names X.kinds) cl→(inX X scope.names env L cl).Ok:=by
 obtain ⟨h1,h2⟩:=and_of h
 obtain ⟨cl,q1,q2,q3⟩:=freeGo_of (names:=scope.names) (cells:=X.cells) (acc:=[]) (fun n hn=>by
  have:=List.all_eq_true.mp h2 _ (List.contains_iff_mem.mp hn)
  simp at this
  exact ok.cel n this) (fun n a e=>by cases e)
 refine ⟨h1,cl,q1,q2,fun env L V=>⟨V,ok.W,ok.rm,fun y hy=>?_⟩⟩
 refine q3 y (.inl (relK_cell hy ?_))
 rw [List.all_eq_true]
 intro z hz
 exact decide_eq_true (scopeOk.cell h1 z hz)
structure CompOk (X:Cx) (elt target:Expr) (ifs:List Expr) (scope:Scope) (tg:List Nat) (one:Bool) (ce cd:CE):Prop where
 kind:scope.kind=.function
 sc:ckSc X.kinds scope.names=true
 tg:ckTg (relK scope.names X.kinds) one tg target=true
 elt:∀ env L cl,(inX X scope.names env L cl).Ok→SEx (inX X scope.names env L cl) elt (evX X ce)
 ifs:∀ env L cl,(inX X scope.names env L cl).Ok→Ifs (inX X scope.names env L cl) ifs cd
theorem drop_end {l:List AV} {vs:List Value} (h:L2 (AR g0) l vs):l.drop vs.length=[]:=by rw [h.len];simp
theorem drop_of {l:List AV} {vs:List Value} {i:Nat} {v:Value} (h:L2 (AR g0) l vs) (hv:vs[i]?=some v):∃ av l',l.drop i=av::l'∧AR g0 av v:=by
 have hi:i<l.length:=by have:=(List.getElem?_eq_some_iff.mp hv).1;rw [h.len] at this;exact this
 have hd:=List.drop_eq_getElem_cons hi
 obtain ⟨u,hu,ha,_⟩:=L2.drop h hd
 rw [hv] at hu;cases hu
 exact ⟨_,_,hd,ha⟩
theorem comp_fin {s:Shared} {D:Addr} {ys:List Value} {c R:List Ch} {m:Nt.Loc} {T:AV→Mem→(List TV→Mem→Prop)→Prop} {l:List AV} {n:Nat} {Q:Prop} (hn:n≤1000) (hl:l.drop n=[]) (j:CJ X F g0 T l k n ys c R)
  (S:St X.w X.T.hE X.s₀ [] X.R₀ (.frm X.L m::.lst D ys::c) R s) (kk:∀ acc mem (g':GS X.w),k acc mem→St X.w X.T.hE X.s₀ [] X.R₀ (.frm X.L m::(F.cc++(g'.chs++F.rest))) g'.R s→MemL g' g'.al mem g'.chs→Ext g0 g'→TR X.w g'.R (.lst acc) (.ref D)→Q):Q:=by
 obtain ⟨mem,g,acc,rfl,rfl,x0,hm,hacc,hlen,hk⟩:=j
 rw [hl] at hk
 exact kk acc mem (g.frz (.lst D ys)) hk ((S.perm (.swap _ _ _)).freeze .hd fun _ h=>(nomatch h)) (hm.mono .frz) (x0.trans .frz) ⟨D,ys,rfl,.head _,by lia,TRs.mono Ext.frz.R hacc⟩
theorem srcL_of {v:AV} {vv:Value} {k:List AV→Prop} (hv:AR g0 v vv) (h:srcL false v k):∃ l a vs,k l∧vs.length≤1000∧L2 (AR g0) l vs∧vv=.ref a∧Ch.lst a vs∈g0.R:=by
 cases v with
 | t t=>cases t with
  | lst l=>obtain ⟨a,vs,rfl,h1,h2,h3⟩:=hv;exact ⟨_,a,vs,h,h2,treesL.mp h3,rfl,h1⟩
  | _=>exact h.elim
 | ref n=>exact h.elim
noncomputable abbrev rngL (n:Nat):List AV:=(List.range n).map fun (j:Nat)=>AV.t (.int j)
theorem so_range (ok:X.Ok) {e:Expr} {y:Str} {p q:Pos} {ci:CE} {E:Value→Shared→Prop} {Q:Value→Shared→Prop} {s:Shared} {mem:Mem} {g:GS X.w} {k:List AV→Mem→Prop} (hk:X.kinds.lookup y=some .globalImplicit) (hg:Res X.T.hE y (.type "range")) (hb:(okArg e).isSome=true) (hi:SEx X e (evX X ci)) (P:Rp X F mem g s)
  (h:evX X ci F.fr F.cl mem fun vs mem=>oneK vs fun v=>intK v fun i=>(0≤i∧i≤1000)∧k (rngL i.toNat) mem)
  (kk:∀ (n:Nat) mem' s' (g':GS X.w) r,n≤1000→k (rngL n) mem'→Rp X F mem' g' s'→Ext g g'→St X.w X.T.hE X.s₀ [] X.R₀ (rng r n::.frm X.L F.m::(F.cc++(g'.chs++F.rest))) g'.R s'→Q (.ref r) s') :
  WP X (eval (.Call (.Name y p) [e] [] q) X.env) Q E s:=by
 refine Call_ (nm_res ok.V hk hg P.st (PyProof.Rows.callWith_type1 (sl_cons hb hi sl_nil q E _ s F mem g (fun vl mem=>oneK vl fun v=>intK v fun i=>(0≤i∧i≤1000)∧k (rngL i.toNat) mem) P h fun vl mem1 ul s1 g1 h P1 X1 hvl=>?_) (is_of hb _ _))) rfl
 obtain ⟨v,rfl,h⟩:=oneK_of h
 obtain ⟨u,_,rfl,hv,rfl⟩:=hvl.1
 obtain ⟨i,t,_,rfl,⟨h0,h1⟩,h⟩:=intK_of (k:=fun i=>(0≤i∧i≤1000)∧k (rngL i.toNat) mem1) hv h
 obtain ⟨n,rfl⟩:∃ n:Nat,i=n:=⟨i.toNat,(Int.toNat_of_nonneg h0).symm⟩
 exact c_range P1.st fun s2 r _ S2=>kk n mem1 s2 g1 r (Int.ofNat_le.mp h1) h (P1.step (thin S2 (List.sublist_cons_self _ _))) X1 S2
theorem rng_nth {n i:Nat} {t:Tok} (h:i<n):∃ l',(rngL n).drop i=.t (.int i)::l'∧AR g0 (.t (.int i)) (.int i t):=⟨_,rng_drop h,t,rfl⟩
theorem rng_end {n:Nat}:(rngL n).drop n=[]:=List.drop_eq_nil_of_le (by simp)
theorem so_comp (ok:X.Ok) {ci:CE} (hit:(okIt iter).isSome=true) (K:CompOk X elt target ifs scope tg one ce cd) (hi:SEx X iter (evX X ci)):SEx X (.ListComp elt [⟨target,iter,ifs,0⟩] scope pos) (evX X (.comp ce tg one false ci cd)):=by
 intro E Q s F mem g k P h kk
 obtain ⟨h1,cl,q1,q2,q3⟩:=ckSc_of ok K.sc
 refine lc ok.V q1 K.kind h1 (hi E _ s F mem g _ P h fun vs mem1 u s1 g1 h P1 X1 hv=>?_) (is_of hit _)
 obtain ⟨v,rfl,hv⟩:=hv
 obtain ⟨l,a,us,h,hz,hl,rfl,hin⟩:=srcL_of (k:=fun l=>compL (TurnT X F tg one ce cd) l [] mem1 fun acc mem=>k [.t (.lst acc)] mem) hv h
 have j0:CJ X F g1 (TurnT X F tg one ce cd) l (fun acc mem=>k [.t (.lst acc)] mem) 0 [] (F.cc++(g1.chs++F.rest)) g1.R:=⟨mem1,g1,[],rfl,rfl,.rfl,P1.mem,rfl,Nat.zero_le _,h⟩
 refine comp_list (vs:=us) _ ok.rm.h ok.V K.kind h1 hz P1.st j0 (fun i ys c R j=>.inr (.inl (j.sub hin))) (fun i v ys c R hv j=>?_) (fun D ys c R s j S=>?_)
 ·obtain ⟨av,l',hd,ha⟩:=drop_of hl hv
  exact comp_turn ok q3 q2 P1.cl K.tg (fun env L=>K.elt env L cl) (fun env L=>K.ifs env L cl) hd ha j
 ·exact comp_fin hz (drop_end hl) j S fun acc mem g' hk S' hm x' ht=>kk _ _ _ s g' hk ⟨S',P1.fr.mono x',P1.cl.mono x',hm⟩ (X1.trans x') ⟨_,rfl,ht⟩
theorem so_compH (ok:X.Ok) {ci:CE} (hit:(okIt iter).isSome=true) (K:CompOk X elt target ifs scope tg one ce cd) (hi:SEx X iter (evX X ci)):SEx X (.ListComp elt [⟨target,iter,ifs,0⟩] scope pos) (evX X (.compH ce tg one ci cd)):=by
 intro E Q s F mem g k P h kk
 obtain ⟨h1,cl,q1,q2,q3⟩:=ckSc_of ok K.sc
 refine lc ok.V q1 K.kind h1 (hi E _ s F mem g _ P h fun vs mem1 u s1 g1 h P1 X1 hv=>?_) (is_of hit _)
 obtain ⟨v,rfl,hv⟩:=hv
 cases v with
 | t _=>exact h.elim
 | ref n =>
  obtain ⟨o,ho,h⟩:=nthK_of h
  obtain ⟨a',ha',rfl⟩:=hv
  cases o with
  | lst l =>
   obtain ⟨us,pre,post,hz,hl,r3,r4⟩:=P1.mem.focusL ho ha'
   have h:=setK_of h
   let g2:GS X.w:=⟨pre++post,g1.al,g1.R⟩
   let F2:Fx:=⟨.lst a' us::F.rest,F.fr,F.cl,F.m,F.cc⟩
   have X2:Ext g1 g2:=⟨fun _ h=>h,[],(List.append_nil _).symm⟩
   have pm:∀ {pre post rest:List Ch} {p:Ch},((pre++([p]++post))++rest).Perm ((pre++post)++(p::rest)):=fun {pre post rest p}=>by
    rw [List.append_assoc,List.append_assoc,List.append_assoc]
    exact .append_left _ ((List.perm_middle (l₁:=post) (l₂:=rest) (a:=p)).symm)
   have S2:=P1.st
   rw [r3] at S2
   have S2:=S2.perm (.cons _ (.append_left F.cc pm))
   have j0:CJ X F2 g2 (TurnT X F2 tg one ce cd) l (fun acc mem=>setK mem n (.lst l) fun mem=>k [.t (.lst acc)] mem) 0 [] (F2.cc++(g2.chs++F2.rest)) g2.R:=⟨mem1.set n .dead,g2,[],rfl,rfl,.rfl,r4 g2 X2 .dead [] rfl,rfl,Nat.zero_le _,h⟩
   refine comp_list (vs:=us) _ ok.rm.h ok.V K.kind h1 hz S2 j0 (fun i ys c R j=>.inl (j.own (.head _))) (fun i v ys c R hv j=>?_) (fun D ys c R s j S=>?_)
   ·obtain ⟨av,l',hd,ha⟩:=drop_of (g0:=g2) (hl.mono X2) hv
    exact comp_turn ok q3 q2 (P1.cl.mono X2) K.tg (fun env L=>K.elt env L cl) (fun env L=>K.ifs env L cl) hd ha j
   ·refine comp_fin (F:=F2) hz (drop_end (hl.mono X2)) j S fun acc mem g' hk S' hm x' ht=>?_
    obtain ⟨l2,e2⟩:=x'.al
    have ha2:g'.al[n]?=some a':=by rw [e2,List.getElem?_append_left (List.getElem?_eq_some_iff.mp ha').1];exact ha'
    have hn:n<mem.length:=by rw [← hm.len];exact (List.getElem?_eq_some_iff.mp ha2).1
    obtain ⟨c3,pre',post',_,t3,t4⟩:=hm.focusA (List.getElem?_eq_getElem hn) ha2
    let g3:GS X.w:=⟨pre'++([.lst a' us]++post'),g'.al,g'.R⟩
    have X3:Ext g' g3:=⟨fun _ h=>h,[],(List.append_nil _).symm⟩
    have S3:=S'
    rw [t3] at S3
    have sub:(pre'++post').Sublist (pre'++(c3++post')):=(List.Sublist.refl _).append (List.sublist_append_right _ _)
    have S3:=(thin S3 (.cons_cons _ ((List.Sublist.refl F.cc).append (sub.append (List.Sublist.refl F2.rest))))).perm (.cons _ (.append_left F.cc pm.symm))
    exact kk _ _ _ s g3 (setK_of hk) ⟨S3,P1.fr.mono (X2.trans (x'.trans X3)),P1.cl.mono (X2.trans (x'.trans X3)),t4 g3 X3 _ _ ⟨us,rfl,hz,hl.mono (X2.trans (x'.trans X3))⟩⟩ (X1.trans (X2.trans (x'.trans X3))) ⟨_,rfl,TR.mono X3.R ht⟩
  | _=>exact h.elim
theorem st_comp (ok:X.Ok) {ci:CE} {x:Nat} {py p:Pos} (hit:(okIt iter).isSome=true) (K:CompOk X elt target ifs scope tg one ce cd) (hi:SEx X iter (evX X ci)) (hy:X.kinds.lookup (nameOf x)=some .local)
  (hl:(py.line==pos.line&&!(scope.names.any fun (n,k)=>n==nameOf x&&(k==.local||k==.cell)))=true)
  (E:Value→Shared→Prop) (Q:Flow→Shared→Prop) (s:Shared) (F:Fx) (mem:Mem) (g:GS X.w) (k:Fr→Mem→Prop) (P:Rp X F mem g s) (h:evX X (.comp ce tg one false ci cd) F.fr F.cl mem fun vs mem=>oneK vs fun v=>putK F.fr x v fun fr=>k fr mem)
  (kk:∀ fr mem' s' g' m,k fr mem'→Rp X (F.at fr m) mem' g' s'→Ext g g'→Q .next s'):WP X (exec (.Assign [.Name (nameOf x) py] (.ListComp elt [⟨target,iter,ifs,0⟩] scope pos) p) X.env) Q E s:=by
 obtain ⟨h1,cl,q1,q2,q3⟩:=ckSc_of ok K.sc
 refine lc_assign ok.V q1 K.kind h1 hy hl (hi E _ s F mem g _ P h fun vs mem1 u s1 g1 h P1 X1 hv=>?_) (is_of hit _)
 obtain ⟨v,rfl,hv⟩:=hv
 let k2:List TV→Mem→Prop:=fun acc mem=>putK F.fr x (.t (.lst acc)) fun fr=>k fr mem
 obtain ⟨l,a,us,h,hz,hl,rfl,hin⟩:=srcL_of (k:=fun l=>compL (TurnT X F tg one ce cd) l [] mem1 k2) hv h
 have j0:CJ X F g1 (TurnT X F tg one ce cd) l k2 0 [] (F.cc++(g1.chs++F.rest)) g1.R:=⟨mem1,g1,[],rfl,rfl,.rfl,P1.mem,rfl,Nat.zero_le _,h⟩
 refine comp_list_as (vs:=us) _ ok.rm.h ok.V K.kind h1 hy hz P1.st j0 (fun i ys c R j=>.inr (.inl (j.sub hin))) (fun i v ys c R hv j=>?_) (fun D ys c R s j S=>?_)
 ·obtain ⟨av,l',hd,ha⟩:=drop_of hl hv
  exact comp_turn ok q3 q2 P1.cl K.tg (fun env L=>K.elt env L cl) (fun env L=>K.ifs env L cl) hd ha j
 ·exact comp_fin hz (drop_end hl) j S fun acc mem g' hk S' hm x' ht=>kk _ _ s g' _ (putK_of hk) ⟨S',(P1.fr.mono x').put (v:=.t (.lst acc)) ht,P1.cl.mono x',hm⟩ (X1.trans x')
theorem so_compR (ok:X.Ok) {ci:CE} {e:Expr} {y:Str} {p q:Pos} (hk:X.kinds.lookup y=some .globalImplicit) (hg:Res X.T.hE y (.type "range")) (hb:(okArg e).isSome=true) (K:CompOk X elt target ifs scope tg one ce cd) (hi:SEx X e (evX X ci)) :
  SEx X (.ListComp elt [⟨target,.Call (.Name y p) [e] [] q,ifs,0⟩] scope pos) (evX X (.comp ce tg one true ci cd)):=by
 intro E Q s F mem g k P h kk
 obtain ⟨h1,cl,q1,q2,q3⟩:=ckSc_of ok K.sc
 refine lc ok.V q1 K.kind h1 (so_range ok (k:=fun l mem=>compL (TurnT X F tg one ce cd) l [] mem fun acc mem=>k [.t (.lst acc)] mem) hk hg hb hi P h fun n mem1 s1 g1 r hz h P1 X1 S1=>?_) (fun _=>rfl)
 have j0:CJ X F g1 (TurnT X F tg one ce cd) (rngL n) (fun acc mem=>k [.t (.lst acc)] mem) 0 [] (F.cc++(g1.chs++F.rest)) g1.R:=⟨mem1,g1,[],rfl,rfl,.rfl,P1.mem,rfl,Nat.zero_le _,h⟩
 refine comp_range (n:=n) _ ok.rm.h ok.V K.kind h1 rfl hz S1 (fun h=>(nomatch h)) j0 (fun i t ys c R hi j=>?_) (fun D ys c R s j S=>?_)
 ·obtain ⟨l',hd,ha⟩:=rng_nth (g0:=g1) (t:=t) hi
  exact comp_turn ok q3 q2 P1.cl K.tg (fun env L=>K.elt env L cl) (fun env L=>K.ifs env L cl) hd ha j
 ·exact comp_fin hz rng_end j S fun acc mem g' hk S' hm x' ht=>kk _ _ _ s g' hk ⟨S',P1.fr.mono x',P1.cl.mono x',hm⟩ (X1.trans x') ⟨_,rfl,ht⟩
theorem st_compR (ok:X.Ok) {ci:CE} {x:Nat} {py p:Pos} {e:Expr} {y:Str} {p' q:Pos} (hk:X.kinds.lookup y=some .globalImplicit) (hg:Res X.T.hE y (.type "range")) (hb:(okArg e).isSome=true) (K:CompOk X elt target ifs scope tg one ce cd) (hi:SEx X e (evX X ci)) (hy:X.kinds.lookup (nameOf x)=some .local)
  (hl:(py.line==pos.line&&!(scope.names.any fun (n,k)=>n==nameOf x&&(k==.local||k==.cell)))=true)
  (E:Value→Shared→Prop) (Q:Flow→Shared→Prop) (s:Shared) (F:Fx) (mem:Mem) (g:GS X.w) (k:Fr→Mem→Prop) (P:Rp X F mem g s) (h:evX X (.comp ce tg one true ci cd) F.fr F.cl mem fun vs mem=>oneK vs fun v=>putK F.fr x v fun fr=>k fr mem)
  (kk:∀ fr mem' s' g' m,k fr mem'→Rp X (F.at fr m) mem' g' s'→Ext g g'→Q .next s'):WP X (exec (.Assign [.Name (nameOf x) py] (.ListComp elt [⟨target,.Call (.Name y p') [e] [] q,ifs,0⟩] scope pos) p) X.env) Q E s:=by
 obtain ⟨h1,cl,q1,q2,q3⟩:=ckSc_of ok K.sc
 let k2:List TV→Mem→Prop:=fun acc mem=>putK F.fr x (.t (.lst acc)) fun fr=>k fr mem
 refine lc_assign ok.V q1 K.kind h1 hy hl (so_range ok (k:=fun l mem=>compL (TurnT X F tg one ce cd) l [] mem k2) hk hg hb hi P h fun n mem1 s1 g1 r hz h P1 X1 S1=>?_) (fun _=>rfl)
 have j0:CJ X F g1 (TurnT X F tg one ce cd) (rngL n) k2 0 [] (F.cc++(g1.chs++F.rest)) g1.R:=⟨mem1,g1,[],rfl,rfl,.rfl,P1.mem,rfl,Nat.zero_le _,h⟩
 refine comp_range_as (n:=n) _ ok.rm.h ok.V K.kind h1 hy rfl hz S1 (fun h=>(nomatch h)) j0 (fun i t ys c R hi j=>?_) (fun D ys c R s j S=>?_)
 ·obtain ⟨l',hd,ha⟩:=rng_nth (g0:=g1) (t:=t) hi
  exact comp_turn ok q3 q2 P1.cl K.tg (fun env L=>K.elt env L cl) (fun env L=>K.ifs env L cl) hd ha j
 ·exact comp_fin hz rng_end j S fun acc mem g' hk S' hm x' ht=>kk _ _ s g' _ (putK_of hk) ⟨S',(P1.fr.mono x').put (v:=.t (.lst acc)) ht,P1.cl.mono x',hm⟩ (X1.trans x')
end
noncomputable def updM:Nt.Loc→Str→Value→Nt.Loc
 | [],x,v=>[(x,v)]
 | (y,u)::m,x,v=>if y=x then (y,v)::m else (y,u)::updM m x v
theorem lookup_ne {α:Type} {z x:Str} {b:α} {l:List (Str×α)} (h:z≠x):((x,b)::l).lookup z=l.lookup z:=by rw [List.lookup_cons,beq_false_of_ne h]
theorem lookup_eq {α:Type} {x:Str} {b:α} {l:List (Str×α)}:((x,b)::l).lookup x=some b:=by rw [List.lookup_cons,BEq.rfl]
theorem updM_look {x y:Str} {v:Value} {m:Nt.Loc}:look (updM m x v) y=if y=x then some v else look m y:=by
 induction m with
 | nil =>
  show List.lookup y [(x,v)]=_
  by_cases h:y=x
  ·rw [if_pos h,h,lookup_eq]
  ·rw [if_neg h,lookup_ne h];rfl
 | cons q m ih =>
  obtain ⟨z,u⟩:=q
  show List.lookup y (if z=x then (z,v)::m else (z,u)::updM m x v)=if y=x then some v else List.lookup y ((z,u)::m)
  by_cases hz:z=x
  ·rw [if_pos hz]
   by_cases h:y=x
   ·rw [if_pos h,h,hz,lookup_eq]
   ·rw [if_neg h,lookup_ne (hz▸h),lookup_ne (hz▸h)]
  ·rw [if_neg hz]
   by_cases h:y=z
   ·rw [h,lookup_eq,if_neg hz,lookup_eq]
   ·rw [lookup_ne h,lookup_ne h];exact ih
theorem updM_len0 {x:Str} {v:Value} {m:Nt.Loc} (h:look m x=none):(updM m x v).length=m.length+1:=by
 induction m with
 | nil=>rfl
 | cons q m ih =>
  obtain ⟨z,w⟩:=q
  show (if z=x then (z,v)::m else (z,w)::updM m x v).length=_
  by_cases hz:z=x
  ·cases hz;cases lookup_eq.symm.trans h
  ·rw [if_neg hz];exact congrArg Nat.succ (ih ((lookup_ne fun e=>hz e.symm).symm.trans h))
theorem updM_len1 {x:Str} {v u:Value} {m:Nt.Loc} (h:look m x=some u):(updM m x v).length=m.length:=by
 induction m with
 | nil=>cases h
 | cons q m ih =>
  obtain ⟨z,w⟩:=q
  show (if z=x then (z,v)::m else (z,w)::updM m x v).length=_
  by_cases hz:z=x
  ·rw [if_pos hz];rfl
  ·rw [if_neg hz];exact congrArg Nat.succ (ih ((lookup_ne fun e=>hz e.symm).symm.trans h))
theorem updM_le {x:Str} {v:Value} {m:Nt.Loc}:(updM m x v).length≤m.length+1:=by
 cases h:look m x with
 | none=>exact Nat.le_of_eq (updM_len0 h)
 | some _=>exact Nat.le_trans (Nat.le_of_eq (updM_len1 h)) (Nat.le_succ _)
theorem len_putL1 (name:Str) (hsh:Int) (k v:Value) (es:List DictEntry) (h:(es.find? (·.key.isStr name)).isSome=true):(putL name hsh k v es).length=es.length:=by
 induction es with
 | nil=>cases h
 | cons e r ih =>
  rw [List.find?_cons] at h
  show (if e.key.isStr name then (⟨e.hash,e.key,v⟩:DictEntry)::r else e::putL name hsh k v r).length=_
  cases q:e.key.isStr name with
  | true=>rfl
  | false=>rw [q] at h;exact congrArg Nat.succ (ih h)
theorem Ents.put1 {es:List DictEntry} {fs:Nt.Loc} (h:Ents es fs) (name:Str) (hsh:Int) (t:Tok) (v:Value):Ents (putL name hsh (.str name t) v es) (updM fs name v):=by
 have h2:=h.put name hsh t v
 refine ⟨fun x=>?_,?_⟩
 ·rw [h2.at_,updM_look]
  by_cases e:x=name
  ·subst e;rw [look_hd,if_pos rfl]
  ·rw [if_neg e]
   have nn:(x==name)=false:=by simpa using e
   simp only [look,List.lookup_cons,nn]
 ·have hl:=h.len
  cases q:look fs name with
  | none =>
   have:=len_putL name hsh (.str name t) v es
   rw [updM_len0 q];exact Nat.le_trans this (Nat.succ_le_succ hl)
  | some z =>
   have hq:=h.at_ name
   rw [q] at hq
   delta getL at hq
   rw [h.noref] at hq
   have:(es.find? (·.key.isStr name)).isSome=true:=by
    cases q2:es.find? (·.key.isStr name) with
    | none=>rw [q2] at hq;simp at hq
    | some e=>rfl
   rw [len_putL1 name hsh _ v es this,updM_len1 q]
   exact hl
section
variable {prog:Program} {w:World} {A:Around} {E:Value→Shared→Prop} {s:Shared} {K:Frag} {x dx C:Addr} {names:List Str} {fs:Nt.Loc} {name:Str} {v:Value}
theorem set_attr1 {Q:Unit→Shared→Prop} (X:K.In s.heap) (I:(Ch.inst x dx C fs).At w s.heap) (hne:x≠dx) (ci:CI K C names) (hn:names.contains name=true) (hz:fs.length≤900)
  (h:∀ s',(Ch.inst x dx C (updM fs name v)).At w s'.heap→Heap.SameBut dx s.heap s'.heap→s'.gens=s.gens→s'.os=s.os→s'.drawn=s.drawn→Q () s') :
  wpAny (model prog w) A (setAttr (.ref x) name v) Q E s:=by
 obtain ⟨hh,g,dr,t,os⟩:=s
 obtain ⟨es,n,he,ia,hdx⟩:=instAt I
 dsimp only at X ia hdx
 refine set_plain X ia ci.sa ?_
 refine osa_open X ia ci.po (by delta takerIn;rw [ci.none _ hn];rfl) fun b=>?_
 obtain ⟨cd,hc,hd'⟩:=any_some ci.hd
 refine wpAny_bind (wpAny_pure (wpAny_bind (wpAny_bind (wpAny_loadPart ia.at_ (wpAny_bind ((looks_clsIn X hc).at ?_))))))
 rw [hd']
 refine wpAny_pure (a:=some dx) (wpAny_bind (wpAny_pure (wpAny_bind ?_)))
 delta nsSet
 refine wpAny_bind (wpAny_bind (wpAny_askSetting (wpAny_pure (wpAny_bind (wpAny_mkText (wpAny_bind (wpAny_loadPart hdx ?_)))))))
 dsimp only
 have c:(!es.toArray.any (·.key.isStr name)&&es.toArray.any (·.refKey))=false:=by
  rw [← Array.any_toList,← Array.any_toList]
  show (!es.any _&&es.any (·.refKey))=false
  rw [he.noref,Bool.and_false]
 rw [aRefKeyMayBeTheName_at,c]
 refine wpAny_updatePart hdx ?_
 have e1:=putName_dict name (PyData.keyHash w.params name) (.str name (t+1)) v es n
 have E2:=Ents.put1 he name (PyData.keyHash w.params name) (t+1) v
 have D':(hh.update dx (Obj.putName name (PyData.keyHash w.params name) (.str name (t+1)) v)).get? dx=some (dictOf (putL name (PyData.keyHash w.params name) (.str name (t+1)) v es) (putN name es n)):=by
  rw [← e1];exact Heap.get?_update_self _ hdx (by rw [e1];rfl)
 refine wpAny_bind (wpAny_lookBehind D' (pastItsLine_dict (by rw [List.size_toArray,sizeLine_eq];have:=E2.len;have:=updM_le (x:=name) (v:=v) (m:=fs);lia)) ?_)
 refine wpAny_pure (h _ ⟨?_,_,_,D',E2⟩ (Heap.SameBut.update ..) rfl rfl rfl)
 exact (Heap.get?_update_other _ _ (Ne.symm hne)).trans ia.at_
end
section
variable {prog:Program} {w:World} {A:Around} {E:Value→Shared→Prop} {hE:Heap} {s₀ s:Shared} {mods:List Addr} {R₀ c c' R:List Ch} {K:Frag} {x:Str} {v:Value}
theorem at_set1 {y dx C:Addr} {names:List Str} {fs:Nt.Loc} {Q:Unit→Shared→Prop} (G:Gl K hE Nt.gs Nt.bs) (S:St w hE s₀ mods R₀ c R s) (U:Upd1 (.inst y dx C fs) (.inst y dx C (updM fs x v)) c c') (ci:CI K C names) (hn:names.contains x=true) (hz:fs.length≤900)
  (h:∀ s',St w hE s₀ mods R₀ c' R s'→Q () s'):wpAny (model prog w) A (setAttr (.ref y) x v) Q E s:=by
 have hne:y≠dx:=by
  obtain ⟨a',b',rfl,_⟩:=U.split
  have nd:=S.nd
  rw [fps,List.flatMap_append,List.flatMap_cons] at nd
  have n2:=(List.nodup_append.mp (List.nodup_append.mp nd).2.1).1
  simp only [Ch.fp,List.nodup_cons,List.mem_singleton] at n2
  exact n2.1
 refine set_attr1 (G.X.keeps S.base) (S.own _ U.mem) hne ci hn hz fun s' hi hs hg ho hd=>h s' ?_
 exact S.upd U rfl (fun b o hb e=>(hs.2 b fun q=>hb (by rw [q];simp [Ch.fp])).trans e) hi hg ho hd
end
noncomputable def Cells:List (Str×Addr)→List Ch→Prop
 | [],cc=>cc=[]
 | q::l,cc=>∃ v cc',cc=.cell q.2 v::cc'∧Cells l cc'
theorem Cells.sub:∀ {l:List (Str×Addr)} {c:List Ch} {z:Str} {d:Addr},Cells l c→l.lookup z=some d→d∈fps c:=fun {l}=>by
 induction l with
 | nil=>exact fun _ h=>nomatch h
 | cons q l ih =>
  intro c z d hc h
  obtain ⟨y,a⟩:=q
  obtain ⟨v,cc,rfl,hc⟩:=hc
  rw [List.lookup_cons] at h
  show d∈a::fps cc
  cases hz:z==y with
  | true=>rw [hz] at h;exact Option.some.inj h▸.head _
  | false=>rw [hz] at h;exact .tail _ (ih hc h)
noncomputable def CellR (cells:List (Str×Addr)) (cc:List Ch) (y:Str) (a:Addr) (v' v:Option Value) (cc':List Ch):Prop :=
  Upd1 (.cell a v) (.cell a v') cc cc'∧Cells cells cc'∧Ch.cell a v'∈cc'∧∀ z b u,cells.lookup z=some b→z≠y→Ch.cell b u∈cc→Ch.cell b u∈cc'
theorem Cells.get {cells:List (Str×Addr)} {cc:List Ch} {y:Str} {a:Addr} {v':Option Value} (hc:Cells cells cc) (nd:(fps cc).Nodup) (h:cells.lookup y=some a):∃ v cc',CellR cells cc y a v' v cc':=by
 induction cells generalizing cc with
 | nil=>cases h
 | cons p l ih =>
  obtain ⟨v,cc,rfl,hc⟩:=hc
  obtain ⟨x,b⟩:=p
  have hnd:b∉fps cc∧(fps cc).Nodup:=List.nodup_cons.mp nd
  by_cases hy:y=x
  ·cases hy
   cases lookup_eq.symm.trans h
   refine ⟨v,_,.hd,⟨_,cc,rfl,hc⟩,.head _,fun z d u hz hne hm=>?_⟩
   cases hm with
   | head=>exact absurd (hc.sub ((lookup_ne hne).symm.trans hz)) hnd.1
   | tail _ hm=>exact .tail _ hm
  ·obtain ⟨v2,cc',q1,q2,q3,q4⟩:=ih hc hnd.2 ((lookup_ne hy).symm.trans h)
   refine ⟨v2,_,.tl q1,⟨v,cc',rfl,q2⟩,.tail _ q3,fun z d u hz hne hm=>?_⟩
   cases hm with
   | head=>exact .head _
   | tail _ hm =>
    refine .tail _ (q4 z d u ?_ hne hm)
    by_cases hzx:z=x
    ·cases hzx
     cases lookup_eq.symm.trans hz
     exact absurd (mem_fps hm (List.mem_singleton.mpr (Eq.refl _))) hnd.1
    ·exact (lookup_ne hzx).symm.trans hz
noncomputable def Sg (X:Cx) (p:Value→Sem Unit) (tr:AV→Fr→Fr→Mem→(Fr→Fr→Mem→Prop)→Prop):Prop :=
 ∀ (E:Value→Shared→Prop) (Q:Unit→Shared→Prop) (s:Shared) (F:Fx) (mem:Mem) (g:GS X.w) (v:AV) (uv:Value) (k:Fr→Fr→Mem→Prop),Rp X F mem g s→Cells X.cells F.cc→AR g v uv→tr v F.fr F.cl mem k →
  (∀ fr cl mem' s' g' m cc,k fr cl mem'→Rp X ⟨F.rest,fr,cl,m,cc⟩ mem' g' s'→Cells X.cells cc→Ext g g'→Q () s')→WP X (p uv) Q E s
section
variable {X:Cx} {e e':Expr} {pos:Pos} {x:Nat} {c c':CE} {F:Fx} {mem:Mem} {g:GS X.w} {s s':Shared} {E:Value→Shared→Prop} {v u:AV} {uv vv:Value} {a:Addr}
theorem updM_self {m:Nt.Loc} {x:Str} {v:Value}:look (updM m x v) x=some v:=updM_look.trans (if_pos rfl)
theorem updM_ne {m:Nt.Loc} {x y:Nat} {v:Value} (h:y≠x):look (updM m (nameOf x) v) (nameOf y)=look m (nameOf y):=updM_look.trans (if_neg fun e=>h (nameOf_inj e))
theorem sn_nm (ok:X.Ok) (hk:X.kinds.lookup (nameOf x)=some .local):Sg X (storeName X.env (nameOf x)) (storeK X.T X.r (.nm x)):=by
 intro E Q s F mem g v uv k P hc hv h kk
 exact st_loc ok.V hk P.st fun s1 S1=>kk _ F.cl mem s1 g _ F.cc (putK_of h) (P.put hv S1) hc .rfl
theorem sn_nc (ok:X.Ok) (hk:X.kinds.lookup (nameOf x)=some .cell):Sg X (storeName X.env (nameOf x)) (storeK X.T X.r (.nc x)):=by
 intro E Q s F mem g v uv k P hc hv h kk
 obtain ⟨a,ha⟩:=ok.cel _ hk
 have nd:(fps F.cc).Nodup:=by
  have sub:∀ {c c':List Ch},c'.Sublist c→(fps c').Sublist (fps c):=fun h=>by
   induction h with
   | slnil=>exact .slnil
   | cons a h ih=>exact ih.trans (List.sublist_append_right _ _)
   | cons_cons a h ih=>exact List.Sublist.append (.refl _) ih
  exact (sub ((List.sublist_append_left F.cc (g.chs++F.rest)).trans (List.sublist_cons_self _ _))).nodup P.st.nd
 obtain ⟨v0,cc',U,q2,q3,q4⟩:=hc.get (v':=some uv) nd ha
 refine st_cell ok.V hk P.st ha (.tl (upd_inl U)) fun s1 S1=>kk F.fr _ mem s1 g F.m cc' (putK_of h) ⟨S1,P.fr,fun y z b e e'=>?_,P.mem⟩ q2 .rfl
 rw [lookup_put] at e
 by_cases hy:y=x
 ·subst hy;rw [if_pos rfl] at e;cases e;rw [ha] at e';cases e';exact ⟨uv,q3,hv⟩
 ·rw [if_neg hy] at e
  obtain ⟨u,h1,h2⟩:=P.cl y z b e e'
  exact ⟨u,q4 _ b _ e' (fun e=>hy (nameOf_inj e)) h1,h2⟩
theorem L2.upd {m:Nt.Loc} {y:Nat} {u:Value}:∀ {zs:List Nat} {ws:List Value},y∉zs→L2 (fun x u=>look m (nameOf x)=some u) zs ws→L2 (fun z w=>look (updM m (nameOf y) u) (nameOf z)=some w) zs ws:=by
 intro zs
 induction zs with
 | nil=>exact fun _ h=>h
 | cons z zs ih =>
  intro ws hz ⟨b,m',e1,e2,e3⟩
  exact ⟨b,m',e1,(updM_ne fun e=>hz (List.mem_cons.mpr (.inl e.symm))).trans e2,ih (fun h=>hz (.tail _ h)) e3⟩
noncomputable def PutR (g:GS w) (m:Nt.Loc) (x:Nat) (u:Value) (xs:List Nat) (xs':List Nat) (l':List AV):Prop:=∃ us',L2 (fun y z=>look (updM m (nameOf x) u) (nameOf y)=some z) xs' us'∧L2 (AR g) l' us'∧xs'.Nodup∧(∀ y,y∈xs'→y=x∨y∈xs)∧(xs'.length=xs.length∧(∃ z,look m (nameOf x)=some z)∨xs'.length=xs.length+1)
theorem PutR.cons {g:GS w} {m:Nt.Loc} {x y:Nat} {u u1:Value} {av:AV} {xs xs':List Nat} {l':List AV} (hne:y≠x) (h1:look m (nameOf y)=some u1) (h3:AR g av u1) (hn:y∉xs) (h:PutR g m x u xs xs' l'):PutR g m x u (y::xs) (y::xs') (av::l'):=by
 obtain ⟨us',r2,r3,r4,r5,r6⟩:=h
 exact ⟨u1::us',⟨_,_,rfl,(updM_ne hne).trans h1,r2⟩,⟨_,_,rfl,h3,r3⟩,List.nodup_cons.mpr ⟨fun hy=>(r5 y hy).elim hne hn,r4⟩,fun z hz=>(List.mem_cons.mp hz).elim (fun e=>.inr (e▸.head _)) (fun hz=>(r5 z hz).imp id (.tail _)),r6.imp (fun q=>⟨congrArg Nat.succ q.1,q.2⟩) (congrArg Nat.succ)⟩
theorem putF_of {g:GS w} {m:Nt.Loc} {x:Nat} {v:AV} {u:Value} (hv:AR g v u):∀ {xs:List Nat} {l:List AV} {us:List Value} {k:List Nat→List AV→Prop},putF xs l x v k→L2 (fun x u=>look m (nameOf x)=some u) xs us→L2 (AR g) l us→xs.Nodup →
  ∃ xs' l',k xs' l'∧PutR g m x u xs xs' l':=by
 intro xs
 induction xs with
 | nil =>
  intro l us k h hx hl hn
  cases l with
  | nil=>exact ⟨[x],[v],h,[u],⟨u,[],rfl,updM_self,rfl⟩,⟨u,[],rfl,hv,rfl⟩,List.nodup_cons.mpr ⟨(fun h=>nomatch h),List.nodup_nil⟩,fun y hy=>.inl (List.mem_singleton.mp hy),.inr rfl⟩
  | cons _ _=>exact h.elim
 | cons y xs ih =>
  intro l us k h ⟨u1,us1,e,h1,h2⟩ hl hn
  cases l with
  | nil=>exact h.elim
  | cons av l =>
   subst e
   obtain ⟨_,_,e,h3,h4⟩:=hl
   obtain ⟨rfl,rfl⟩:=List.cons.inj e
   have hn:=List.nodup_cons.mp hn
   rcases brN_of h with ⟨q,h⟩ | ⟨q,h⟩
   ·have q:=Nat.eq_of_beq_eq_true q
    refine ⟨_,_,h,u::us1,⟨_,_,rfl,q▸updM_self,?_⟩,⟨_,_,rfl,hv,h4⟩,List.nodup_cons.mpr hn,fun z hz=>.inr hz,.inl ⟨rfl,_,q▸h1⟩⟩
    exact q▸L2.upd hn.1 h2
   ·obtain ⟨xs',l',r1,r⟩:=ih (k:=fun xs us'=>k (y::xs) (av::us')) h h2 h4 hn.2
    exact ⟨_,_,r1,r.cons (Nat.ne_of_beq_eq_false q) h1 h3 hn.1⟩
theorem at_mn:∀ C x,x∈atI C→x∉mnames C:=by
 intro C x hx hm
 have key:((ctab.map (·.1)).all fun C=>(atI C).all fun x=>!(mnames C).contains x)=true:=by decide +kernel
 have hC:C∈ctab.map (·.1):=by
  obtain ⟨q,hq,_⟩:=List.mem_map.mp hm
  obtain ⟨h1,h2⟩:=List.mem_filter.mp hq
  rw [← Nat.eq_of_beq_eq_true h2];exact (mtab_ok q h1).1
 have:=List.all_eq_true.mp (List.all_eq_true.mp key C hC) x hx
 simp at this
 exact this hm
theorem atSt_of (ok:X.Ok) {Q:Unit→Shared→Prop} {k:Mem→Prop} (P:Rp X F mem g s) (hu:AR g u uv) (hv:AR g v vv) (h:atStK mem x u v k)
  (kk:∀ mem' s' g',k mem'→Rp X F mem' g' s'→Ext g g'→Q () s'):WP X (setAttr uv (nameOf x) vv) Q E s:=by
 cases u with
 | t _=>exact h.elim
 | ref n =>
  obtain ⟨o,ho,h⟩:=nthK_of h
  cases o with
  | inst C xs l =>
   obtain ⟨hx,h⟩:=brT h
   obtain ⟨hsh,h⟩:=brT h
   have hx:=memN_of hx
   obtain ⟨a,ha,rfl⟩:=hu
   obtain ⟨c0,pre,post,q2,q3,q4⟩:=P.mem.focusA ho ha
   obtain ⟨dx,m,us,rfl,hml,hnd,hf,hl⟩:=q2
   obtain ⟨xs',l',h,us',r2,r3,r4,r5,r6⟩:=putF_of hv h hf.at_ hl hnd
   obtain ⟨c1,c2⟩:=ci_of ok hx
   have hat:∀ y∈xs',y∈atI C:=fun y hy=>(r5 y hy).elim (fun e=>e▸hx) (hf.has y)
   have hz:m.length≤900:=Nat.le_trans hml (Nat.le_trans (shortK_of hsh) (by decide))
   have U:Upd1 (.inst a dx C m) (.inst a dx C (updM m (nameOf x) vv)) g.chs (pre++([.inst a dx C (updM m (nameOf x) vv)]++post)):=by rw [q3];exact upd_at
   refine at_set1 ok.W.G P.st (.tl (upd_inr (upd_inl U))) c1 c2 hz fun s1 S1=>?_
   have ab:Abs C (updM m (nameOf x) vv):=fun i hi=>(updM_ne fun (e:i=x)=>at_mn C x hx (e▸hi)).trans (hf.ab i hi)
   have hlen:(updM m (nameOf x) vv).length≤xs'.length:=by
    rcases r6 with ⟨e,z,hz⟩ | e
    ·rw [updM_len1 hz,e];exact hml
    ·exact Nat.le_trans updM_le (Nat.le_trans (Nat.succ_le_succ hml) (Nat.le_of_eq e.symm))
   exact kk _ s1 _ (setK_of h) (P.new S1 (q4 _ GS.ext _ _ ⟨dx,_,us',rfl,hlen,r4,⟨ab,hat,r2⟩,r3.mono GS.ext⟩)) GS.ext
  | _=>exact h.elim
theorem stored_hd {y:Int} {u z:Value} {ks:List Int} {us:List Value} (h:(ks.any fun z=>decide (z=y))=false):stored ((y::ks).zip (z::us)) y u=(y::ks).zip (u::us):=by
 have hm:(ks.zip us).map (fun kv=>if kv.1=y then (kv.1,u) else kv)=ks.zip us:=by
  conv=>rhs;rw [← List.map_id (ks.zip us)]
  exact List.map_congr_left fun q hq=>if_neg fun e=>by have:=List.any_eq_false.mp h q.1 (List.of_mem_zip hq).1;simp [e] at this
 simp [stored,hm]
theorem stored_tl {y i:Int} {u z:Value} {l:List (Int×Value)} (e:y≠i):stored ((y,z)::l) i u=(y,z)::stored l i u:=by
 delta stored
 simp only [List.any_cons,decide_eq_false e,Bool.false_or,List.map_cons,if_neg e]
 split<;>rfl
theorem dstoreK_of {i:Int} {u:Value} (hv:AR g v u):∀ {ks:List Int} {l:List AV} {us:List Value} {k:List Int→List AV→Prop},dstoreK ks l i v k→L2 (AR g) l us→us.length=ks.length →
  ∃ ks' l' us',k ks' l'∧stored (ks.zip us) i u=ks'.zip us'∧L2 (AR g) l' us'∧us'.length=ks'.length:=fun {ks}=>by
 induction ks with
 | nil =>
  intro l us k h hl hz
  cases l with
  | nil=>obtain rfl:us=[]:=hl;exact ⟨[i],[v],[u],h,rfl,⟨u,[],rfl,hv,rfl⟩,rfl⟩
  | cons _ _=>exact h.elim
 | cons y ks ih =>
  intro l us k h hl hz
  cases l with
  | nil=>exact h.elim
  | cons w l =>
   obtain ⟨z,us1,rfl,h1,h2⟩:=hl
   rcases brK_of h with ⟨e,h⟩ | ⟨e,h⟩
   ·have e:=of_decide_eq_true e
    rcases brK_of h with ⟨_,h⟩ | ⟨e2,h⟩
    ·exact h.elim
    ·exact ⟨_,_,u::us1,h,e▸stored_hd (e▸e2),L2.cons hv h2,hz⟩
   ·obtain ⟨ks',l',us',q1,q2,q3,q4⟩:=ih (k:=fun ks us'=>k (y::ks) (w::us')) h h2 (Nat.succ.inj hz)
    exact ⟨_,_,z::us',q1,(stored_tl (of_decide_eq_false e)).trans (congrArg _ q2),L2.cons h1 q3,congrArg Nat.succ q4⟩
theorem subSt_of {Q:Unit→Shared→Prop} {j:AV} {jv:Value} {k:Mem→Prop} (P:Rp X F mem g s) (hu:AR g u uv) (hj:AR g j jv) (hv:AR g v vv) (h:subStK mem u j v k)
  (kk:∀ mem' s' g',k mem'→Rp X F mem' g' s'→Ext g g'→Q () s'):WP X (setItem uv jv vv) Q E s:=by
 obtain ⟨i,t,_,rfl,h⟩:=intK_of hj h
 cases u with
 | t _=>exact h.elim
 | ref n =>
  obtain ⟨o,ho,h⟩:=nthK_of h
  obtain ⟨a,ha,rfl⟩:=hu
  obtain ⟨c0,pre,post,q2,q3,q4⟩:=P.mem.focusA ho ha
  cases o with
  | dic ks l =>
   obtain ⟨hs,h⟩:=brT h
   obtain ⟨us,rfl,hz,hl⟩:=q2
   obtain ⟨ks',l',us',h,r1,r2,r3⟩:=dstoreK_of hv h hl hz
   have U:Upd1 (Nt.dic a (ks.zip us)) (Nt.dic a (stored (ks.zip us) i vv)) g.chs (pre++([Nt.dic a (stored (ks.zip us) i vv)]++post)):=by rw [q3];exact upd_at
   have hzl:(ks.zip us).length≤1000:=by rw [List.length_zip];exact Nat.le_trans (Nat.min_le_left _ _) (Nat.le_trans (shortK_of hs) (by decide))
   refine d_set P.st (.tl (upd_inr (upd_inl U))) hzl fun s1 S1=>?_
   exact kk _ s1 _ (setK_of h) (P.new S1 (q4 _ GS.ext _ _ ⟨us',by rw [r1],r3,r2.mono GS.ext⟩)) GS.ext
  | pool =>
   cases q2
   obtain ⟨b,t2,_,rfl,h⟩:=intK_of hv h
   obtain ⟨i0,t0,j0,u0,hl,hj0⟩:=P.st.own (.pool a) (.tail _ (List.mem_append_right _ (List.mem_append_left _ (by rw [q3];exact List.mem_append_right _ (List.mem_append_left _ (.head _))))))
   have U1:∀ {p p':Ch},Upd1 p p' (.frm X.L F.m::(F.cc++((pre++([p]++post))++F.rest))) (.frm X.L F.m::(F.cc++((pre++([p']++post))++F.rest))):=.tl (upd_inr (upd_inl upd_at))
   have S0:=P.st
   rw [q3] at S0
   have S1:=S0.upd (s':=s) (p':=.lis a [.int i0 t0,.int j0 u0]) U1 rfl (fun _ _ _ e=>e) hl rfl rfl rfl
   have fin:∀ {vs:List Value} {i1 j1:Int} {t1 u1:Tok} {s':Shared},vs=[.int i1 t1,.int j1 u1]→(0≤j1∧j1<2147483647)→k mem→St X.w X.T.hE X.s₀ [] X.R₀ (.frm X.L F.m::(F.cc++((pre++([.lis a vs]++post))++F.rest))) g.R s'→Q () s':=by
    intro vs i1 j1 t1 u1 s' e hj hk S
    have S2:=S.upd (s':=s') (p':=.pool a) U1 rfl (fun _ _ _ e=>e) (by
     have hl:=S.own (.lis a vs) (.tail _ (List.mem_append_right _ (List.mem_append_left _ (List.mem_append_right _ (List.mem_append_left _ (.head _))))))
     subst e;exact ⟨i1,t1,j1,u1,hl,hj⟩) rfl rfl rfl
    rw [← q3] at S2
    exact kk mem s' g hk (P.step S2) .rfl
   rcases poolI_of h with ⟨rfl,h⟩ | ⟨rfl,h⟩
   ·exact lis_set S1 U1 (by decide) (by decide) (show _<((2:Nat):Int) by decide) fun s2 S2=>fin (i1:=b) (t1:=t2) (j1:=j0) (u1:=u0) rfl hj0 h S2
   ·exact lis_set S1 U1 (by decide) (by decide) (show _<((2:Nat):Int) by decide) fun s2 S2=>fin (i1:=i0) (t1:=t0) (j1:=b) (u1:=t2) rfl h.1 h.2 S2
  | _=>exact h.elim
end
noncomputable def FlR {w:World} (g:GS w):Fl→Flow→Prop
 | .next,f=>f=.next
 | .brk,f=>f=.brk
 | .cont,f=>f=.cont
 | .ret v,f=>∃ u,f=.ret u∧AR g v u
noncomputable def Ss (X:Cx) (p:Sem Flow) (tr:Fr→Fr→Mem→(Fl→Fr→Fr→Mem→Prop)→Prop):Prop :=
 ∀ (E:Value→Shared→Prop) (Q:Flow→Shared→Prop) (s:Shared) (F:Fx) (mem:Mem) (g:GS X.w) (k:Fl→Fr→Fr→Mem→Prop),Rp X F mem g s→Cells X.cells F.cc→tr F.fr F.cl mem k →
  (∀ f fr cl mem' u s' g' m cc,k f fr cl mem'→Rp X ⟨F.rest,fr,cl,m,cc⟩ mem' g' s'→Cells X.cells cc→Ext g g'→FlR g' f u→Q u s')→WP X p Q E s
section
variable {w:World} {g:GS w} {mem:Mem} {n:Nat}
theorem nrmK_of {as:List Addr} {chs:List Ch} (hm:MemL g g.al mem chs) {v:AV} {k:AV→Prop} (h:nrmK n mem v k):∃ v',k v'∧∀ u,AR g v u→AR (⟨[],g.al.take n,g.R⟩:GS w) v' u:=by
 cases v with
 | t t=>exact ⟨.t t,h,fun u hu=>hu⟩
 | ref i =>
  obtain ⟨o,ho,h⟩:=nthK_of h
  obtain ⟨a,c,pre,post,h1,h2,_⟩:=hm.focus ho
  have old:brK (Nat.blt i n) (k (.ref i)) False→∃ v',k v'∧∀ u,AR g (.ref i) u→AR (⟨[],g.al.take n,g.R⟩:GS w) v' u:=fun h=>by
   obtain ⟨hi,h⟩:=brT h
   have hi:i<n:=Nat.le_of_ble_eq_true hi
   exact ⟨.ref i,h,fun u ⟨b,hb,e⟩=>⟨b,by show (g.al.take n)[i]?=_;rw [List.getElem?_take];simp [hi,hb],e⟩⟩
  cases o with
  | fz t=>exact ⟨.t t,h,fun u ⟨b,hb,e⟩=>by rw [h1] at hb;cases hb;subst e;exact h2.2⟩
  | _=>exact old h
theorem nrmL_of {chs:List Ch} (hm:MemL g g.al mem chs):∀ {l:List AV} {k:List AV→Prop},nrmL n mem l k→∃ l',k l'∧∀ us,L2 (AR g) l us→L2 (AR (⟨[],g.al.take n,g.R⟩:GS w)) l' us:=fun {l}=>by
 induction l with
 | nil=>exact fun {k} h=>⟨[],h,fun us h=>h⟩
 | cons v l ih =>
  intro k h
  obtain ⟨v',h,q1⟩:=nrmK_of (as:=[]) hm h
  obtain ⟨l',h,q2⟩:=ih h
  exact ⟨v'::l',h,fun us h=>Exists.imp (fun u h=>Exists.imp (fun us' h=>⟨h.1,q1 u h.2.1,q2 us' h.2.2⟩) h) h⟩
theorem nrmF_of {chs:List Ch} (hm:MemL g g.al mem chs):∀ {fr:Fr} {k:Fr→Prop},nrmF n mem fr k→∃ fr',k fr'∧∀ x v',fr'.lookup x=some v'→∃ v,fr.lookup x=some v∧∀ u,AR g v u→AR (⟨[],g.al.take n,g.R⟩:GS w) v' u:=fun {fr}=>by
 induction fr with
 | nil=>exact fun {k} h=>⟨[],h,fun x v' h=>by cases h⟩
 | cons p l ih =>
  intro k h
  obtain ⟨v',h,q1⟩:=nrmK_of (as:=[]) hm h
  obtain ⟨l',h,q2⟩:=ih h
  refine ⟨(p.1,v')::l',h,fun x z hz=>?_⟩
  show ∃ v,List.lookup x ((p.1,p.2)::l)=some v∧_
  rw [List.lookup_cons] at hz ⊢
  cases q:x==p.1 with
  | true=>rw [q] at hz;exact ⟨p.2,rfl,Option.some.inj hz▸q1⟩
  | false=>rw [q] at hz;exact q2 x z hz
theorem nrmM_of {chs:List Ch} (hm:MemL g g.al mem chs) {a:Addr} {c:List Ch} {o:MO} {k:MO→Prop} (h:nrmM n mem o k) (ho:OR g a o c):∃ o',k o'∧OR (⟨[],g.al.take n,g.R⟩:GS w) a o' c:=by
 cases o with
 | lst l=>obtain ⟨l',h,q⟩:=nrmL_of (k:=fun l=>k (.lst l)) hm h;obtain ⟨vs,e,z,hl⟩:=ho;exact ⟨_,h,vs,e,z,q vs hl⟩
 | inst C xs l=>obtain ⟨l',h,q⟩:=nrmL_of (k:=fun l=>k (.inst C xs l)) hm h;obtain ⟨dx,m,vs,e,z1,z2,z3,hl⟩:=ho;exact ⟨_,h,dx,m,vs,e,z1,z2,z3,q vs hl⟩
 | dic ks l=>obtain ⟨l',h,q⟩:=nrmL_of (k:=fun l=>k (.dic ks l)) hm h;obtain ⟨vs,e,z,hl⟩:=ho;exact ⟨_,h,vs,e,z,q vs hl⟩
 | pool=>exact ⟨_,h,ho⟩
 | fz v=>exact ⟨_,h,ho⟩
 | dead=>exact ⟨_,h,ho⟩
 | _=>exact h.elim
theorem cutK_of {chs0:List Ch} (hm:MemL g g.al mem chs0):∀ {i:Nat} {m0:Mem} {as:List Addr} {chs:List Ch} {k:Mem→Prop},MemL g as m0 chs→cutK n mem i m0 k→∃ mem' chs',k mem'∧chs'.Sublist chs∧MemL (⟨[],g.al.take n,g.R⟩:GS w) (as.take i) mem' chs':=fun {i}=>by
 induction i with
 | zero=>exact fun {m0 as chs k} _ h=>⟨[],[],h,List.nil_sublist _,List.take_zero,rfl⟩
 | succ i ih =>
  intro m0 as chs k hq h
  cases m0 with
  | nil=>exact h.elim
  | cons o m0 =>
   obtain ⟨a,as',c,chs',e1,e2,ho,hr⟩:=hq
   obtain ⟨o',h,q⟩:=nrmM_of hm h ho
   obtain ⟨mem',chs2,h,q1,q2⟩:=ih hr h
   exact ⟨_,_,h,by rw [e2];exact List.Sublist.append (.refl c) q1,a,as'.take i,c,chs2,by rw [e1];rfl,rfl,q,q2⟩
end
section
variable {X:Cx} {pos:Pos} {x:Nat} {F:Fx} {mem:Mem} {g:GS X.w} {s s':Shared} {E:Value→Shared→Prop} {v u:AV} {uv vv:Value} {a:Addr}
theorem gcK_of {n:Nat} {g0:GS X.w} {k:Fr→Fr→Mem→Prop} (P:Rp X F mem g s) (x:Ext g0 g) (hn:n=0∨g0.al.length=n) (h:gcK n F.fr F.cl mem k):∃ fr cl mem' g',k fr cl mem'∧Rp X ⟨F.rest,fr,cl,F.m,F.cc⟩ mem' g' s∧Ext g0 g':=by
 cases n with
 | zero=>exact ⟨F.fr,F.cl,mem,g,h,P,x⟩
 | succ n =>
  have hn:g0.al.length=n+1:=hn.resolve_left (by simp)
  obtain ⟨fr,h,q1⟩:=nrmF_of P.mem h
  obtain ⟨cl,h,q2⟩:=nrmF_of P.mem h
  obtain ⟨mem',chs',h,q3,q4⟩:=cutK_of P.mem P.mem h
  let g':GS X.w:=⟨chs',g.al.take (n+1),g.R⟩
  have x1:Ext (⟨[],g.al.take (n+1),g.R⟩:GS X.w) g':=⟨fun _ h=>h,[],(List.append_nil _).symm⟩
  obtain ⟨l,el⟩:=x.al
  refine ⟨fr,cl,mem',g',h,⟨thin P.st ?_,fun y z e=>?_,fun y z b e e'=>?_,q4.mono x1⟩,fun p hp=>x.R p hp,[],?_⟩
  ·exact .cons_cons _ (List.Sublist.append (.refl _) (List.Sublist.append q3 (.refl _)))
  ·obtain ⟨v,e1,q⟩:=q1 y z e
   obtain ⟨u,e2,hu⟩:=P.fr y v e1
   exact ⟨u,e2,(q u hu).mono x1⟩
  ·obtain ⟨v,e1,q⟩:=q2 y z e
   obtain ⟨u,e2,hu⟩:=P.cl y v b e1 e'
   exact ⟨u,e2,(q u hu).mono x1⟩
  ·show g.al.take (n+1)=_
   rw [el,← hn,List.take_left,List.append_nil]
noncomputable def JL (X:Cx) (rest:List Ch) (g0:GS X.w) (p:Fr→Fr→Mem→Prop) (m:Nt.Loc) (c R:List Ch):Prop :=
 ∃ fr cl mem cc,∃ g:GS X.w,c=cc++(g.chs++rest)∧R=g.R∧Ext g0 g∧FrR g fr m∧ClR g X.cells cl cc∧MemL g g.al mem g.chs∧Cells X.cells cc∧p fr cl mem
theorem JL.sub {X:Cx} {rest:List Ch} {g0:GS X.w} {p:Fr→Fr→Mem→Prop} {m:Nt.Loc} {c R:List Ch} (j:JL X rest g0 p m c R) {q:Ch} (h:q∈g0.R):q∈R:=by
 obtain ⟨_,_,_,_,g,_,e,x,_⟩:=j;exact e▸x.R _ h
theorem JL.imp {X:Cx} {rest:List Ch} {g0:GS X.w} {p p':Fr→Fr→Mem→Prop} {m:Nt.Loc} {c R:List Ch} (j:JL X rest g0 p m c R) (h:∀ fr cl mem,p fr cl mem→p' fr cl mem):JL X rest g0 p' m c R:=by
 obtain ⟨_,_,_,_,g,e,e2,x,e3,e4,e5,e6,e7⟩:=j;exact ⟨_,_,_,_,g,e,e2,x,e3,e4,e5,e6,h _ _ _ e7⟩
theorem JL.of {X:Cx} {rest:List Ch} {g0 g:GS X.w} {p:Fr→Fr→Mem→Prop} {m:Nt.Loc} {fr cl:Fr} {mem:Mem} {cc:List Ch} {s:Shared} (P:Rp X ⟨rest,fr,cl,m,cc⟩ mem g s) (hc:Cells X.cells cc) (x:Ext g0 g) (h:p fr cl mem):JL X rest g0 p m (cc++(g.chs++rest)) g.R:=⟨fr,cl,mem,cc,g,rfl,rfl,x,P.fr,P.cl,P.mem,hc,h⟩
theorem JL.get {X:Cx} {rest:List Ch} {g0:GS X.w} {p:Fr→Fr→Mem→Prop} {m:Nt.Loc} {c R:List Ch} {s:Shared} (j:JL X rest g0 p m c R) (S:St X.w X.T.hE X.s₀ [] X.R₀ (.frm X.L m::c) R s) :
  ∃ fr cl mem cc,∃ g:GS X.w,Rp X ⟨rest,fr,cl,m,cc⟩ mem g s∧Ext g0 g∧Cells X.cells cc∧p fr cl mem:=by
 obtain ⟨fr,cl,mem,cc,g,rfl,rfl,x,e3,e4,e5,e6,e7⟩:=j
 exact ⟨fr,cl,mem,cc,g,⟨S,e3,e4,e5⟩,x,e6,e7⟩
theorem perm_ck {p ck:Ch} {cc chs rest:List Ch}:(p::ck::(cc++(chs++rest))).Perm (p::(cc++(chs++(ck::rest)))):=by
 refine .cons _ ?_
 rw [← List.append_assoc,← List.append_assoc];exact List.perm_middle.symm
theorem sub_ck {p ck:Ch} {cc chs rest:List Ch}:(p::(cc++(chs++rest))).Sublist (p::(cc++(chs++(ck::rest)))) :=
 .cons_cons _ (List.Sublist.append (.refl _) (List.Sublist.append (.refl _) (.cons _ (.refl _))))
theorem for_turn (ok:X.Ok) {gc:Nat} {tg:Expr} {one:Bool} {xs:List Nat} {l l':List AV} {av:AV} {ck:Ch} {i:Nat} {c R:List Ch} {m:Nt.Loc} {body:List Stmt} {E':Value→Shared→Prop} {rest:List Ch} {g0:GS X.w} {k:Fl→Fr→Fr→Mem→Prop} {ts:Fr→Fr→Mem→(Fl→Fr→Fr→Mem→Prop)→Prop}
  {B:Nt.Loc→List Ch→List Ch→Prop} {J:Nat→Nt.Loc→List Ch→List Ch→Prop} {G:Flow→Shared→Prop} {Rr:Flow→Shared→Prop} (hgc:gc=0∨g0.al.length=gc)
  (hc:ckTg X.kinds one xs tg=true) (hb:Ss X (execs body X.env) ts)
  (hJ:∀ i,J i=JL X rest g0 fun fr cl mem=>forL gc (fun v fr cl mem k=>tgK mem xs one v fr fun fr=>ts fr cl mem k) (l.drop i) fr cl mem k) (hB:B=JL X rest g0 fun fr cl mem=>k .next fr cl mem)
  (hR:∀ fr cl mem v u s' m cc g',k (.ret v) fr cl mem→Rp X ⟨rest,fr,cl,m,cc⟩ mem g' s'→Cells X.cells cc→Ext g0 g'→AR g' v u→Rr (.ret u) s')
  (kl:Imp (LE X.w X.T.hE X.s₀ [] X.R₀ X.L ck (J (i+1)) B Rr) G) {v:Value} (hd:l.drop i=av::l') (ha:AR g0 av v) (j:J i m c R) (S:St X.w X.T.hE X.s₀ [] X.R₀ (.frm X.L m::ck::c) R s) :
  WP X (assign tg X.env v) (fun _ s₂=>WP X (execs body X.env) G E' s₂) E' s:=by
 rw [hJ] at j
 obtain ⟨fr,cl,mem,cc,g,rfl,rfl,x0,hf,hcl,hm,hce,h⟩:=j
 have hd':l.drop (i+1)=l':=by rw [← List.drop_drop,hd];rfl
 rw [hd] at h
 let F':Fx:=⟨ck::rest,fr,cl,m,cc⟩
 have P:Rp X F' mem g s:=⟨S.perm perm_ck,hf,hcl,hm⟩
 refine tg_of ok hc P (ha.mono x0) h fun fr1 s1 m1 h P1=>?_
 refine hb E' G s1 (F'.at fr1 m1) mem g _ P1 hce h fun f fr2 cl2 mem2 fl s2 g2 m2 cc2 h P2 hce2 x2 hfl=>?_
 have nxt:gcK gc fr2 cl2 mem2 (fun fr cl mem=>forL gc (fun v fr cl mem k=>tgK mem xs one v fr fun fr=>ts fr cl mem k) l' fr cl mem k)→∃ m c R,J (i+1) m c R∧St X.w X.T.hE X.s₀ [] X.R₀ (.frm X.L m::ck::c) R s2:=fun h=>by
  obtain ⟨fr3,cl3,mem3,g3,h,P3,x3⟩:=gcK_of P2 (x0.trans x2) hgc h
  refine ⟨m2,_,_,?_,P3.st.perm perm_ck.symm⟩
  rw [hJ]
  exact ⟨fr3,cl3,mem3,cc2,g3,rfl,rfl,x3,P3.fr,P3.cl,P3.mem,hce2,by rw [hd'];exact h⟩
 cases f with
 | next=>cases hfl;exact kl _ _ (nxt h)
 | cont=>cases hfl;exact kl _ _ (nxt h)
 | brk=>cases hfl;exact kl _ _ ⟨m2,_,_,by rw [hB];exact ⟨fr2,cl2,mem2,cc2,g2,rfl,rfl,x0.trans x2,P2.fr,P2.cl,P2.mem,hce2,h⟩,P2.st.perm perm_ck.symm⟩
 | ret z=>obtain ⟨y,rfl,hy⟩:=hfl;exact kl _ _ (hR fr2 cl2 mem2 z y s2 m2 cc2 g2 h ⟨thin P2.st sub_ck,P2.fr,P2.cl,P2.mem⟩ hce2 (x0.trans x2) hy)
theorem gcOk_of {gc:Nat} {p:Prop} (P:Rp X F mem g s) (h:gcOk gc mem p):p∧(gc=0∨g.al.length=gc):=by
 cases gc with
 | zero=>exact ⟨h,.inl rfl⟩
 | succ n=>obtain ⟨e,h⟩:=brT h;exact ⟨h,.inr (P.mem.len.trans (Nat.eq_of_beq_eq_true e))⟩
theorem ss_for (ok:X.Ok) {gc:Nat} {tg it:Expr} {one:Bool} {xs:List Nat} {ci:CE} {body:List Stmt} {b:CS} (hi:(okIt it).isSome=true) (hc:ckTg X.kinds one xs tg=true) (h1:SEx X it (evX X ci)) (hb:Ss X (execs body X.env) (sx X.T X.r b)) :
  Ss X (exec (.For tg it body [] pos) X.env) (sx X.T X.r (.for_ gc xs one false ci b)):=by
 intro E Q s F mem g k P hce h kk
 refine wpAny_For (h1 E _ s F mem g _ P h fun vs mem1 u s1 g1 h P1 X1 hv=>?_) (is_of hi _)
 obtain ⟨v,rfl,hv⟩:=hv
 obtain ⟨l,a,us,h,hz,hl,rfl,hin⟩:=srcK_of (k:=fun l=>gcOk gc mem1 (forL gc (fun v fr cl mem k=>tgK mem xs one v fr fun fr=>sx X.T X.r b fr cl mem k) l F.fr F.cl mem1 k)) P1 hv h
 obtain ⟨h,hgc⟩:=gcOk_of P1 h
 let p:Nat→Fr→Fr→Mem→Prop:=fun i fr cl mem=>forL gc (fun v fr cl mem k=>tgK mem xs one v fr fun fr=>sx X.T X.r b fr cl mem k) (l.drop i) fr cl mem k
 have j0:JL X F.rest g1 (p 0) F.m (F.cc++(g1.chs++F.rest)) g1.R:=JL.of P1 hce .rfl h
 have step:∀ i v m c R s E' ck G,Imp (LE X.w X.T.hE X.s₀ [] X.R₀ X.L ck (JL X F.rest g1 (p (i+1))) (JL X F.rest g1 fun fr cl mem=>k .next fr cl mem) fun f s₃=>(fun r s'=>match r with | .ok f=>Q f s' | .error e=>cameBackBy (mo X.w) X.A X.env E e s') (Except.ok f) s₃) G→us[i]?=some v→JL X F.rest g1 (p i) m c R→St X.w X.T.hE X.s₀ [] X.R₀ (.frm X.L m::ck::c) R s →
   WP X (assign tg X.env v) (fun _ s₂=>WP X (execs body X.env) G E' s₂) E' s:=fun i v m c R s E' ck G kl hv j S=>by
  obtain ⟨av,l',hd,ha⟩:=drop_of hl hv
  exact for_turn ok (J:=fun i=>JL X F.rest g1 (p i)) hgc hc hb (fun _=>rfl) rfl (fun fr cl mem v u s' m cc g' hk P' hce' x' hv=>kk (.ret v) fr cl mem _ s' g' m cc hk P' hce' (X1.trans x') ⟨u,rfl,hv⟩) kl hd ha j S
 have done:∀ m c R,JL X F.rest g1 (p us.length) m c R→JL X F.rest g1 (fun fr cl mem=>k .next fr cl mem) m c R:=by
  exact fun m c R j=>j.imp fun fr cl mem (h:forL gc _ (l.drop us.length) fr cl mem k)=>by rw [drop_end hl] at h;exact h
 have fin:∀ m c R s,JL X F.rest g1 (fun fr cl mem=>k .next fr cl mem) m c R→St X.w X.T.hE X.s₀ [] X.R₀ (.frm X.L m::c) R s→(fun r s'=>match r with | .ok f=>Q f s' | .error e=>cameBackBy (mo X.w) X.A X.env E e s') (Except.ok Flow.next) s:=by
  intro m c R s j S
  obtain ⟨fr,cl,mem,cc,g,P,x,hc,h⟩:=j.get S
  exact kk .next fr cl mem _ s g m cc h P hc (X1.trans x) rfl
 rcases hin with hin | hin
 ·exact for_list (vs:=us) (fun i=>JL X F.rest g1 (p i)) _ ok.rm.h P1.st j0 (fun i m c R j=>.inr (.inl (j.sub hin))) step done fin
 ·exact for_tuple (vs:=us) (fun i=>JL X F.rest g1 (p i)) _ ok.rm.h P1.st j0 (fun i m c R j=>.inr (.inl (j.sub hin))) step done fin
theorem ss_forR (ok:X.Ok) {gc:Nat} {tg e:Expr} {one:Bool} {xs:List Nat} {ci:CE} {body:List Stmt} {b:CS} {y:Str} {p0 q:Pos} (hk:X.kinds.lookup y=some .globalImplicit) (hg:Res X.T.hE y (.type "range")) (ho:(okArg e).isSome=true) (hc:ckTg X.kinds one xs tg=true) (h1:SEx X e (evX X ci)) (hb:Ss X (execs body X.env) (sx X.T X.r b)) :
  Ss X (exec (.For tg (.Call (.Name y p0) [e] [] q) body [] pos) X.env) (sx X.T X.r (.for_ gc xs one true ci b)):=by
 intro E Q s F mem g k P hce h kk
 refine wpAny_For (so_range ok (k:=fun l mem=>gcOk gc mem (forL gc (fun v fr cl mem k=>tgK mem xs one v fr fun fr=>sx X.T X.r b fr cl mem k) l F.fr F.cl mem k)) hk hg ho h1 P h fun n mem1 s1 g1 r hz h P1 X1 S1=>?_) (fun _=>rfl)
 obtain ⟨h,hgc⟩:=gcOk_of P1 h
 let p:Nat→Fr→Fr→Mem→Prop:=fun i fr cl mem=>forL gc (fun v fr cl mem k=>tgK mem xs one v fr fun fr=>sx X.T X.r b fr cl mem k) ((rngL n).drop i) fr cl mem k
 have j0:JL X F.rest g1 (p 0) F.m (F.cc++(g1.chs++F.rest)) g1.R:=JL.of P1 hce .rfl h
 refine for_range (n:=n) (fun i=>JL X F.rest g1 (p i)) (JL X F.rest g1 fun fr cl mem=>k .next fr cl mem) ok.rm.h S1 (fun h=>(nomatch h)) rfl hz j0 (fun i t m c R s E' ck G kl hi j S=>?_) ?_ ?_
 ·obtain ⟨l',hd,ha⟩:=rng_nth (g0:=g1) (t:=t) hi
  exact for_turn ok (J:=fun i=>JL X F.rest g1 (p i)) hgc hc hb (fun _=>rfl) rfl (fun fr cl mem v u s' m cc g' hk P' hce' x' hv=>kk (.ret v) fr cl mem _ s' g' m cc hk P' hce' (X1.trans x') ⟨u,rfl,hv⟩) kl hd ha j S
 ·exact fun m c R j=>j.imp fun fr cl mem (h:forL gc _ ((rngL n).drop n) fr cl mem k)=>by rw [rng_end] at h;exact h
 ·intro m c R s j S
  obtain ⟨fr,cl,mem,cc,g,P,x,hc,h⟩:=j.get S
  exact kk .next fr cl mem _ s g m cc h P hc (X1.trans x) rfl
theorem ss_wh (ok:X.Ok) {t:Expr} {ct:CE} {body:List Stmt} {b:CS} (h1:ST X t (evX X ct)) (hb:Ss X (execs body X.env) (sx X.T X.r b)):Ss X (exec (.While t body [] pos) X.env) (sx X.T X.r (.wh ct b)):=by
 intro E Q s F mem g k P hce ⟨n,h⟩ kk
 let W:Nat→Fr→Fr→Mem→Prop:=fun n fr cl mem=>whL (fun fr cl mem k=>ev X.T X.r ct fr cl mem fun vs mem=>bitK vs fun d=>k d mem) (fun fr cl mem k=>sx X.T X.r b fr cl mem k) n fr cl mem k
 refine while_it (fun n=>JL X F.rest g (W n)) (JL X F.rest g fun fr cl mem=>k .next fr cl mem) n P.st (JL.of P hce .rfl h) ?_ ?_
 ·intro n m c R s E' G G0 hG hG0 j S
  obtain ⟨fr,cl,mem,cc,g1,P1,x1,hce1,h⟩:=j.get S
  cases n with
  | zero=>exact h.elim
  | succ n =>
   refine h1 _ (.inr rfl) E' _ s ⟨F.rest,fr,cl,m,cc⟩ mem g1 _ P1 h fun vs mem2 d s2 g2 h P2 x2 hv=>?_
   cases hv
   cases d with
   | false=>exact hG0.ap ⟨m,_,_,JL.of P2 hce1 (x1.trans x2) h,P2.st⟩
   | true =>
    refine hb E' G s2 ⟨F.rest,fr,cl,m,cc⟩ mem2 g2 _ P2 hce1 h fun f fr3 cl3 mem3 fl s3 g3 m3 cc3 h P3 hce3 x3 hfl=>?_
    have xx:=(x1.trans x2).trans x3
    cases f with
    | next=>cases hfl;exact hG.ap ⟨n,m3,_,_,Nat.lt_succ_self n,JL.of P3 hce3 xx h,P3.st⟩
    | cont=>cases hfl;exact hG.ap ⟨n,m3,_,_,Nat.lt_succ_self n,JL.of P3 hce3 xx h,P3.st⟩
    | brk=>cases hfl;exact hG.ap ⟨m3,_,_,JL.of P3 hce3 xx h,P3.st⟩
    | ret z=>obtain ⟨y,rfl,hy⟩:=hfl;exact hG.ap (kk (.ret z) fr3 cl3 mem3 _ s3 g3 m3 cc3 h P3 hce3 xx ⟨y,rfl,hy⟩)
 ·intro m c R s j S
  obtain ⟨fr,cl,mem,cc,g,P,x,hc,h⟩:=j.get S
  exact kk .next fr cl mem _ s g m cc h P hc x rfl
end
noncomputable abbrev Rp1 (l:List Expr) :=Subtype (fun x=>l=[x])
noncomputable def p1 (l:List Expr) :Option (Rp1 l):=match l with | [x]=>some ⟨x,rfl⟩ | _=>none
noncomputable abbrev Rp2 (l:List Expr) :=Subtype (fun q:Expr×Expr=>l=[q.1,q.2])
noncomputable def p2 (l:List Expr) :Option (Rp2 l):=match l with | [x,y]=>some ⟨(x,y),rfl⟩ | _=>none
noncomputable def pNil (l:List Expr):Is? (l=[]):=match l with | []=>some ⟨rfl⟩ | _=>none
noncomputable def isNilC (c:CE):Is? (c=.nil):=match c with | .nil=>some ⟨rfl⟩ | _=>none
noncomputable def isNegO (o:O1):Is? (o=.neg):=match o with | .neg=>some ⟨rfl⟩ | _=>none
noncomputable def isUpO (o:O2):Is? (o=.upto):=match o with | .upto=>some ⟨rfl⟩ | _=>none
noncomputable def isChrO (o:O2):Is? (o=.chr):=match o with | .chr=>some ⟨rfl⟩ | _=>none
noncomputable def core1 (o:O1) (op:CmpOp) (b:Expr):Bool:=match o with
 | .isN=>op==.Is&&(pNo b).isSome
 | .isNN=>op==.IsNot&&(pNo b).isSome
 | .enil=>op==.Eq&&(pLi b).any fun l=>(pNil l.1).isSome
 | .nnil=>op==.NotEq&&(pLi b).any fun l=>(pNil l.1).isSome
 | _=>false
section
variable {X:Cx} {e e' a b:Expr} {c c':CE} {pos:Pos}
theorem core1_of (ok:X.Ok) {op:CmpOp} (o:O1) (h:core1 o op b=true) (h1:SEx X a (evX X c)):SC X a op b (evX X (.o1 o c)):=by
 cases o with
 | isN=>obtain ⟨h2,h3⟩:=and_of h;obtain ⟨j,p,rfl⟩:=is_of h3;rw [beq_iff_eq.mp h2];exact sc_isN false h1
 | isNN=>obtain ⟨h2,h3⟩:=and_of h;obtain ⟨j,p,rfl⟩:=is_of h3;rw [beq_iff_eq.mp h2];exact sc_isN true h1
 | enil=>obtain ⟨h2,h3⟩:=and_of h;obtain ⟨⟨l,p,rfl⟩,h4⟩:=any_of h3;obtain rfl:=is_of h4;rw [beq_iff_eq.mp h2];exact sc_nil ok false h1
 | nnil=>obtain ⟨h2,h3⟩:=and_of h;obtain ⟨⟨l,p,rfl⟩,h4⟩:=any_of h3;obtain rfl:=is_of h4;rw [beq_iff_eq.mp h2];exact sc_nil ok true h1
 | _=>cases h
noncomputable def isG (kinds:Kinds) (f:Value) (e:Expr):Is? (∃ y p,e=.Name y p∧kinds.lookup y=some .globalImplicit∧globV y f=true):=match pNm e with
 | some ⟨y,h⟩=>if q:(isGl kinds y&&globV y f)=true then some ⟨y,h.elim fun p hp=>⟨p,hp,beq_iff_eq.mp (and_of q).1,(and_of q).2⟩⟩ else none
 | none=>none
theorem so_fn1 (ok:X.Ok) {o:O1} {f:Value} {y:Str} {p:Pos} (hf:fn1 o=some f) (hk:X.kinds.lookup y=some .globalImplicit) (hg:globV y f=true) (ho:(okArg e).isSome=true) (h1:SEx X e (evX X c)):SEx X (.Call (.Name y p) [e] [] pos) (evX X (.o1 o c)):=by
 refine so_fn ok ?_ hk (globV_res ok.W hg) (by show ((okArg e).isSome&&true)=true;rw [ho];rfl) fun E Q s F mem g k P h kk=>?_
 ·cases o<;>cases hf<;>first | exact .inl ⟨_,rfl⟩ | exact .inr ⟨_,rfl⟩
 ·refine sl_cons ho h1 sl_nil pos E _ s F mem g (fun vl mem=>oneK vl fun v=>op1 o mem v fun t=>k [.t t] mem) P h fun vl mem1 us s1 g1 h P1 X1 hvs=>?_
  obtain ⟨v,rfl,h⟩:=oneK_of h
  obtain ⟨u,_,rfl,hv,rfl⟩:=hvs.1
  exact s_fn1 (k:=fun t=>k [.t t] mem1) ok.rm.h o hf P1 hv h (Fin.of kk X1)
theorem so_isT (ok:X.Ok) (int:Bool) {y z:Str} {p q:Pos} (hk:X.kinds.lookup y=some .globalImplicit) (hg:globV y (.builtin "isinstance")=true) (hk2:X.kinds.lookup z=some .globalImplicit) (hg2:globV z (.type (if int then "int" else "str"))=true) (ho:(okArg e).isSome=true) (h1:SEx X e (evX X c)) :
  SEx X (.Call (.Name y p) [e,.Name z q] [] pos) (evX X (.o1 (if int then .isInt else .isStr) c)):=by
 refine so_fn ok (.inl ⟨_,rfl⟩) hk (globV_res ok.W hg) (by show ((okArg e).isSome&&true)=true;rw [ho];rfl) fun E Q s F mem g k P h kk=>?_
 refine PyProof.Rows.spliced_more (h1 E _ s F mem g _ P h fun vs mem1 u s1 g1 h P1 X1 hv=>?_) (is_of ho _ _)
 obtain ⟨v,rfl,hv⟩:=hv
 refine PyProof.Rows.spliced_more (nm_res ok.V hk2 (globV_res ok.W hg2) P1.st (PyProof.Rows.spliced_none ?_)) rfl
 exact s_isT (k:=fun t=>k [.t t] mem1) int P1 hv (by cases int<;>exact h) (Fin.of kk X1)
noncomputable def S2 (o:O2) (f:String):Prop:=∀ (X:Cx) (F:Fx) (mem:Mem) (g:GS X.w) (s:Shared) (E:Value→Shared→Prop) (Q:Value→Shared→Prop) (v u:AV) (uv vv:Value) (k:TV→Prop),X.Ok→Rp X F mem g s→AR g u uv→AR g v vv→op2 o mem u v k→Fin X F mem g k Q→WP X (PySem.call (.builtin f) [uv,vv]) Q E s
noncomputable def fn2 (o:O2):Sub? (S2 o):=match o with
 | .max=>some ⟨"max",fun X F mem g s E Q v u uv vv k ok P hu hv h kk=>s_mx ok.rm.h true P hu hv h kk⟩
 | .min=>some ⟨"min",fun X F mem g s E Q v u uv vv k ok P hu hv h kk=>s_mx ok.rm.h false P hu hv h kk⟩
 | .isi=>some ⟨"isinstance",fun X F mem g s E Q v u uv vv k ok P hu hv h kk=>s_isi ok P hu hv h kk⟩
 | _=>none
theorem so_fn2 (ok:X.Ok) {o:O2} {f:String} {y:Str} {p:Pos} (hf:S2 o f) (hk:X.kinds.lookup y=some .globalImplicit) (hg:globV y (.builtin f)=true) (ho:(okArg e).isSome=true) (ho':(okArg e').isSome=true) (h1:SEx X e (evX X c)) (h2:SEx X e' (evX X c')):SEx X (.Call (.Name y p) [e,e'] [] pos) (evX X (.o2 o c c')):=by
 refine so_fn ok (.inl ⟨_,rfl⟩) hk (globV_res ok.W hg) (by show ((okArg e).isSome&&((okArg e').isSome&&true))=true;rw [ho,ho'];rfl) fun E Q s F mem g k P h kk=>?_
 refine sl_cons ho h1 (sl_cons ho' h2 sl_nil) pos E _ s F mem g (fun vl mem=>two vl fun v u=>op2 o mem v u fun t=>k [.t t] mem) P h fun vl mem1 us s1 g1 h P1 X1 hvs=>?_
 obtain ⟨v,w,rfl,h⟩:=two_of h
 obtain ⟨u,_,rfl,hv,u2,_,rfl,hw,rfl⟩:=hvs.1
 exact hf X F mem1 g1 s1 E Q w v u u2 (fun t=>k [.t t] mem1) ok P1 hv hw h (Fin.of kk X1)
end
noncomputable def eqBo (a b:Bool):Is? (a=b):=if h:a=b then some ⟨h⟩ else none
noncomputable abbrev dB (b:Bool):Is? (b=true):=if h:b=true then some ⟨h⟩ else none
noncomputable def eqN (a b:Nat):Is? (a=b):=if h:Nat.beq a b=true then some ⟨Nat.eq_of_beq_eq_true h⟩ else none
noncomputable def eqS (a b:Str):Is? (a=b):=if h:(a==b)=true then some ⟨beq_iff_eq.mp h⟩ else none
noncomputable def lkI (kinds:Kinds) (y:Str) (k:NameKind):Is? (kinds.lookup y=some k):=if h:(kinds.lookup y==some k)=true then some ⟨beq_iff_eq.mp h⟩ else none
noncomputable def eqC (a b:CmpOp):Is? (a=b):=if h:(a==b)=true then some ⟨beq_iff_eq.mp h⟩ else none
noncomputable def eqB (a b:Operator):Is? (a=b):=if h:(a==b)=true then some ⟨beq_iff_eq.mp h⟩ else none
noncomputable def eqU (a b:UnaryOp):Is? (a=b):=if h:(a==b)=true then some ⟨beq_iff_eq.mp h⟩ else none
noncomputable def eqL (a b:BoolOp):Is? (a=b):=if h:(a==b)=true then some ⟨beq_iff_eq.mp h⟩ else none
noncomputable def eqK (a b:ScopeKind):Is? (a=b):=if h:(a==b)=true then some ⟨beq_iff_eq.mp h⟩ else none
noncomputable def isTtC (c:CE):Is? (c=.tt):=match c with | .tt=>some ⟨rfl⟩ | _=>none
noncomputable def nilOk (l:List Expr) (c:CE):Is? (l=[]→c=.nil):=match l with | []=>(match isNilC c with | some h=>some ⟨fun _=>h.down⟩ | none=>none) | _::_=>some ⟨fun h=>nomatch h⟩
noncomputable abbrev RpCons (l:List Expr) :=Subtype (fun q:Expr×List Expr=>l=q.1::q.2)
noncomputable def pCons (l:List Expr) :Option (RpCons l):=match l with | x::l=>some ⟨(x,l),rfl⟩ | []=>none
noncomputable def md2 (md:Nat):Is? (md=0∨md=3):=match md with | 0=>some ⟨.inl rfl⟩ | 3=>some ⟨.inr rfl⟩ | _=>none
noncomputable def fnO (o:O1):Sub? fun f=>fn1 o=some f:=match h:fn1 o with | some f=>some ⟨f,rfl⟩ | none=>none
noncomputable def cmO (o:O2):Sub? fun f=>cm2 o=some f:=match h:cm2 o with | some f=>some ⟨f,rfl⟩ | none=>none
noncomputable def bnO (o:O2):Sub? fun f=>bn2 o=some f:=match h:bn2 o with | some f=>some ⟨f,rfl⟩ | none=>none
noncomputable def isTO (o:O1):Sub? fun i:Bool=>o=if i then .isInt else .isStr:=match o with | .isInt=>some ⟨true,rfl⟩ | .isStr=>some ⟨false,rfl⟩ | _=>none
noncomputable def Snd (X:Cx) (c:CE):Nat→Expr→Prop
 | 0,e=>SEx X e (evX X c)
 | 1,e=>ST X e (evX X c)
 | 2,e=>∀ l,(∃ p,e=.List l p)→SL X l (evX X c)
 | 3,e=>∀ a op b,(∃ p,e=.Compare a [op] [b] p)→SC X a op b (evX X c)
 | _,_=>True
section
variable {X:Cx} {kinds:Kinds} {c c' c'':CE} {md:Nat} {e d d' d'':Expr} {x:Nat} {y:Str} {l:List Expr}
theorem w_nm (hm:md=0) (he:∃ p,e=.Name y p) (hy:nameOf x=y) (hl:kinds.lookup y=some .local) (ok:X.Ok) (hk:X.kinds=kinds):Snd X (.nm x) md e:=by obtain ⟨p,rfl⟩:=he;subst hm hy hk;exact so_nm ok hl
theorem w_nc (hm:md=0) (he:∃ p,e=.Name y p) (hy:nameOf x=y) (hl:kinds.lookup y=some .cell) (ok:X.Ok) (hk:X.kinds=kinds):Snd X (.nc x) md e:=by obtain ⟨p,rfl⟩:=he;subst hm hy hk;exact so_nc ok hl
theorem w_k {v:TV} (hm:md=0) (h:ckK kinds v e=true) (ok:X.Ok) (hk:X.kinds=kinds):Snd X (.k v) md e:=by subst hm hk;exact so_k ok h
theorem w_att {p:Pos} (hm:md=0) (he:e=.Attribute d y p) (hb:(okBase d).isSome=true) (hy:nameOf x=y) (ok:X.Ok) (h:Snd X c 0 d):Snd X (.att c x) md e:=by subst hm he hy;exact so_att ok hb h
theorem w_sub (hm:md=0) (he:∃ p,e=.Subscript d d' p) (hb:(okSl d').isSome=true) (h:Snd X c 0 d) (h':Snd X c' 0 d'):Snd X (.sub c c') md e:=by obtain ⟨p,rfl⟩:=he;subst hm;exact so_sub hb h h'
theorem w_turn (hm:md=0) (he:∃ p,e=.Subscript d d' p) (hg:∃ y p,d=.Name y p∧kinds.lookup y=some .globalImplicit∧globV y (.ref 540)=true) (hb:(okSl d').isSome=true) (ok:X.Ok) (hk:X.kinds=kinds) (h:Snd X c 0 d'):Snd X (.turn c) md e:=by
 obtain ⟨p,rfl⟩:=he;obtain ⟨z,q,rfl,h1,h2⟩:=hg;subst hm hk;exact so_turn ok h1 (globV_res ok.W h2) hb h
theorem w_core {op:CmpOp} (hm:md=0∨md=3) (he:∃ p,e=.Compare d [op] [d'] p) (hb:(!behindInMarks op d')=true) (h:SC X d op d' (evX X c)):Snd X c md e:=by
 obtain ⟨p,rfl⟩:=he
 have hb:behindInMarks op d'=false:=by simpa using hb
 rcases hm with rfl | rfl
 ·exact so_cm hb h
 ·rintro a' op' b' ⟨p',e⟩;cases e;exact h
theorem w_c1 {o:O1} {op:CmpOp} (hm:md=0∨md=3) (he:∃ p,e=.Compare d [op] [d'] p) (hb:(!behindInMarks op d')=true) (h1:core1 o op d'=true) (ok:X.Ok) (h:Snd X c 0 d):Snd X (.o1 o c) md e:=w_core hm he hb (core1_of ok o h1 h)
theorem w_neg {o:O1} {u:UnaryOp} (hm:md=0) (ho:o=.neg) (he:∃ p,e=.UnaryOp u d p) (hu:u=.USub) (h:Snd X c 0 d):Snd X (.o1 o c) md e:=by obtain ⟨p,rfl⟩:=he;subst hm ho hu;exact so_neg h
theorem w_fn1 {o:O1} {f:Value} {p:Pos} (hm:md=0) (hf:fn1 o=some f) (he:e=.Call d l [] p) (hg:∃ y p,d=.Name y p∧kinds.lookup y=some .globalImplicit∧globV y f=true) (hl:l=[d']) (ho:(okArg d').isSome=true) (ok:X.Ok) (hk:X.kinds=kinds) (h:Snd X c 0 d'):Snd X (.o1 o c) md e:=by
 obtain ⟨z,q,rfl,h1,h2⟩:=hg;subst hm hl he hk;exact so_fn1 ok hf h1 h2 ho h
theorem w_isT {o:O1} (int:Bool) {p:Pos} (hm:md=0) (hf:o=if int then .isInt else .isStr) (he:e=.Call d l [] p) (hg:∃ y p,d=.Name y p∧kinds.lookup y=some .globalImplicit∧globV y (.builtin "isinstance")=true) (hl:l=[d',d'']) (ho:(okArg d').isSome=true)
  (hg2:∃ y p,d''=.Name y p∧kinds.lookup y=some .globalImplicit∧globV y (.type (if int then "int" else "str"))=true) (ok:X.Ok) (hk:X.kinds=kinds) (h:Snd X c 0 d'):Snd X (.o1 o c) md e:=by
 obtain ⟨z,q,rfl,h1,h2⟩:=hg;obtain ⟨z',q',rfl,h3,h4⟩:=hg2;subst hm hl he hk hf;exact so_isT ok int h1 h2 h3 h4 ho h
theorem w_c2 {o:O2} {op op':CmpOp} (hm:md=0∨md=3) (he:∃ p,e=.Compare d [op] [d'] p) (hb:(!behindInMarks op d')=true) (h1:cm2 o=some op') (ho:op'=op) (ok:X.Ok) (h:Snd X c 0 d) (h':Snd X c' 0 d'):Snd X (.o2 o c c') md e:=w_core hm he hb (sc_o2 ok o (ho▸h1) h h')
theorem w_b2 {o:O2} {op op':Operator} (hm:md=0) (he:∃ p,e=.BinOp d op d' p) (h1:bn2 o=some op') (ho:op'=op) (h:Snd X c 0 d) (h':Snd X c' 0 d'):Snd X (.o2 o c c') md e:=by obtain ⟨p,rfl⟩:=he;subst hm ho;exact so_bin o h1 h h'
theorem w_f2 {o:O2} {f:String} {d1 d2:Expr} {p:Pos} (hm:md=0) (hf:S2 o f) (he:e=.Call d l [] p) (hg:∃ y p,d=.Name y p∧kinds.lookup y=some .globalImplicit∧globV y (.builtin f)=true) (hl:l=[d1,d2]) (ho:(okArg d1).isSome=true) (ho':(okArg d2).isSome=true) (ok:X.Ok) (hk:X.kinds=kinds) (h:Snd X c 0 d1) (h':Snd X c' 0 d2):Snd X (.o2 o c c') md e:=by
 obtain ⟨z,q,rfl,h1,h2⟩:=hg;subst hm hl he hk;exact so_fn2 ok hf h1 h2 ho ho' h h'
theorem w_up {o:O2} {u:Expr} (hm:md=0) (ho:o=.upto) (he:∃ p,e=.Subscript d d' p) (hd:∃ p,d=.Name y p) (hu:∃ p,d'=.Slice none (some u) none p) (h:Snd X c 0 d) (h':Snd X c' 0 u):Snd X (.o2 o c c') md e:=by
 obtain ⟨p,rfl⟩:=he;obtain ⟨q,rfl⟩:=hd;obtain ⟨r,rfl⟩:=hu;subst hm ho;exact so_upto h h'
theorem w_chr {o:O2} (hm:md=0) (ho:o=.chr) (he:∃ p,e=.Subscript d d' p) (hb:(okSl d').isSome=true) (h:Snd X c 0 d) (h':Snd X c' 0 d'):Snd X (.o2 o c c') md e:=by obtain ⟨p,rfl⟩:=he;subst hm ho;exact so_chr hb h h'
theorem w_bo2 {o:BoolOp} {p:Pos} (b:Bool) (hm:md=0) (he:e=.BoolOp o l p) (ho:o=if b then .And else .Or) (hl:l=[d,d']) (h:Snd X c 0 d) (h':Snd X c' 0 d'):Snd X (if b then .and c c' else .or c c') md e:=by
 subst hm hl ho he;cases b
 ·exact so_or h (so_one h')
 ·exact so_and h (so_one h')
theorem w_bo3 {o:BoolOp} {p:Pos} (b:Bool) (hm:md=0) (he:e=.BoolOp o l p) (ho:o=if b then .And else .Or) {l2:List Expr} (hl:l=d::l2) {l3:List Expr} (hl2:l2=d'::l3) (h:Snd X c 0 d) (h':Snd X c' 0 (.BoolOp (if b then .And else .Or) l2 p)):Snd X (if b then .and c c' else .or c c') md e:=by
 subst hm hl2 hl ho he;cases b
 ·exact so_or h h'
 ·exact so_and h h'
theorem w_ife (hm:md=0) (he:∃ p,e=.IfExp d d' d'' p) (h:Snd X c 1 d) (h':Snd X c' 0 d') (h'':Snd X c'' 0 d''):Snd X (.ife c c' c'') md e:=by obtain ⟨p,rfl⟩:=he;subst hm;exact so_ife h h' h''
theorem w_tb {o:BoolOp} {p:Pos} (b:Bool) (hm:md=1) (he:e=.BoolOp o l p) (ho:o=if b then .And else .Or) {l2:List Expr} (hl:l=d::l2) (h:Snd X c 1 d) (h':Snd X c' 1 (.BoolOp (if b then .And else .Or) l2 p)):Snd X (if b then .tand c c' else .tor c c') md e:=by
 subst hm hl ho he;cases b
 ·exact st_or h h'
 ·exact st_and h h'
theorem w_t0 {o:BoolOp} {p:Pos} (b:Bool) (hm:md=1) (he:e=.BoolOp o l p) (ho:o=if b then .And else .Or) (hl:l=[]):Snd X (if b then .tt else .ff) md e:=by
 subst hm hl ho he;cases b
 ·exact st_or0
 ·exact st_and0
theorem w_not {u:UnaryOp} (hm:md=1) (he:∃ p,e=.UnaryOp u d p) (hu:u=.Not) (h:Snd X c 1 d):Snd X (.tnot c) md e:=by obtain ⟨p,rfl⟩:=he;subst hm hu;exact st_not h
theorem w_te (hm:md=1) (hb:(okPlain e).isSome=true) (h:Snd X c 0 e):Snd X (.te c) md e:=by subst hm;exact st_te hb h
theorem w_tc {op:CmpOp} (hm:md=1) (he:∃ p,e=.Compare d [op] [d'] p) (hb:(!behindInMarks op d')=true) (h:Snd X c 3 e):Snd X (.te c) md e:=by obtain ⟨p,rfl⟩:=he;subst hm;exact st_cm (by simpa using hb) (h _ _ _ ⟨p,rfl⟩)
theorem w_nil (hm:md=2) (he:∃ p,e=.List l p) (hl:l=[]):Snd X .nil md e:=by obtain ⟨p,rfl⟩:=he;subst hm hl;rintro l ⟨p',e⟩;cases e;exact sl_nil
theorem w_cons {l2:List Expr} (hm:md=2) (he:∃ p,e=.List l p) (hl:l=d::l2) (ho:(okArg d).isSome=true) (h:Snd X c 0 d) (h':Snd X c' 2 (.List l2 ⟨0,0,0,0⟩)):Snd X (.cons c c') md e:=by
 obtain ⟨p,rfl⟩:=he;subst hm hl;rintro l ⟨p',e⟩;cases e;exact sl_cons ho h (h' _ ⟨_,rfl⟩)
theorem w_list (hm:md=0) (he:∃ p,e=.List l p) (hz:Nat.ble l.length 500=true) (h:Snd X c 2 e):Snd X (.list c) md e:=by obtain ⟨p,rfl⟩:=he;subst hm;exact so_list (Nat.le_of_ble_eq_true hz) (h _ ⟨_,rfl⟩)
theorem w_lstF (hm:md=0) (he:∃ p,e=.List l p) (hz:Nat.ble l.length 500=true) (h:Snd X c 2 e):Snd X (.lstF c) md e:=by obtain ⟨p,rfl⟩:=he;subst hm;exact so_lstF (Nat.le_of_ble_eq_true hz) (h _ ⟨_,rfl⟩)
theorem w_tup (hm:md=0) (he:∃ j p,e=.Tuple l j p) (hz:Nat.ble l.length 500=true) (h:Snd X c 2 (.List l ⟨0,0,0,0⟩)):Snd X (.tup c) md e:=by obtain ⟨j,p,rfl⟩:=he;subst hm;exact so_tup (Nat.le_of_ble_eq_true hz) (h _ ⟨_,rfl⟩)
theorem w_tupM (hm:md=0) (he:∃ j p,e=.Tuple l j p) (hz:Nat.ble l.length 500=true) (h:Snd X c 2 (.List l ⟨0,0,0,0⟩)):Snd X (.tupM c) md e:=by obtain ⟨j,p,rfl⟩:=he;subst hm;exact so_tupM (Nat.le_of_ble_eq_true hz) (h _ ⟨_,rfl⟩)
theorem w_dict (hm:md=0) (he:∃ p,e=.Dict [] [] p) (ok:X.Ok):Snd X .dict md e:=by obtain ⟨p,rfl⟩:=he;subst hm;exact so_dict ok
theorem w_call {p:Pos} {f:Nat} (hm:md=0) (he:e=.Call d l [] p) (hg:∃ y p,d=.Name y p∧kinds.lookup y=some .globalImplicit∧globV y (.ref f)=true) (hf:okF f=true) (ha:okAs l=true) (hn:l=[]→c=.nil) (ok:X.Ok) (hk:X.kinds=kinds) (h:Snd X c 2 (.List l ⟨0,0,0,0⟩)):Snd X (.call f c) md e:=by
 obtain ⟨z,q,rfl,h1,h2⟩:=hg;subst hm he hk;exact so_call ok h1 (globV_res ok.W h2) hf ha hn (h _ ⟨_,rfl⟩)
theorem w_fcall {p:Pos} {q:Bool} {f:Nat} (hm:md=0) (he:e=.Call d l [] p) (hg:∃ y p,d=.Name y p∧kinds.lookup y=some .globalImplicit∧globV y (.ref f)=true) (hf:okF f=true) (ha:okAs l=true) (hn:l=[]→c=.nil) (ok:X.Ok) (hk:X.kinds=kinds) (h:Snd X c 2 (.List l ⟨0,0,0,0⟩)):Snd X (.fcall q f c) md e:=by
 obtain ⟨z,q,rfl,h1,h2⟩:=hg;subst hm he hk;exact so_fcall ok h1 (globV_res ok.W h2) hf ha hn (h _ ⟨_,rfl⟩)
theorem w_meth (b:Bool) {p ap:Pos} (hm:md=0) (he:e=.Call d l [] p) (hd:d=.Attribute d' y ap) (ho:(okMo d').isSome=true) (hy:nameOf x=y) (ha:okAs l=true) (hz:Nat.blt l.length 30=true) (hp:(ap.endLine==p.line)=true) (hn:l=[]→c'=.nil) (ok:X.Ok) (h:Snd X c 0 d') (h':Snd X c' 2 (.List l ⟨0,0,0,0⟩)):Snd X (if b then .fmeth c x c' else .meth c x c') md e:=by
 subst hm hy hd he;cases b
 ·exact so_meth ok ho ha (Nat.le_of_ble_eq_true hz) hp hn h (h' _ ⟨_,rfl⟩)
 ·exact so_fmeth ok ho ha (Nat.le_of_ble_eq_true hz) hp hn h (h' _ ⟨_,rfl⟩)
theorem w_app {p ap:Pos} (hm:md=0) (he:e=.Call d l [] p) (hd:d=.Attribute d' y ap) (ho:(okMo d').isSome=true) (hy:("append":Str)=y) (hp:(ap.endLine==p.line)=true) (hl:l=[d'']) (ha:(okArg d'').isSome=true) (h:Snd X c 0 d') (h':Snd X c' 0 d''):Snd X (.app c c') md e:=by subst hm hy hl hd he;exact so_app ho ha hp h h'
theorem w_pop {p ap:Pos} (hm:md=0) (he:e=.Call d l [] p) (hd:d=.Attribute d' y ap) (ho:(okMo d').isSome=true) (hy:("pop":Str)=y) (hp:(ap.endLine==p.line)=true) (hl:l=[]) (h:Snd X c 0 d'):Snd X (.pop c) md e:=by subst hm hy hl hd he;exact so_pop ho hp h
theorem w_dget {p ap:Pos} {d3:Expr} {l3:List Expr} (hm:md=0) (he:e=.Call d l [] p) (hd:d=.Attribute d' y ap) (ho:(okMo d').isSome=true) (hy:("get":Str)=y) (hp:(ap.endLine==p.line)=true) (hl:l=[d'',d3]) (ha:(okArg d'').isSome=true) (h3:∃ p,d3=.List l3 p) (hl3:l3=[]) (h:Snd X c 0 d') (h':Snd X c' 0 d''):Snd X (.dget c c') md e:=by
 obtain ⟨q,rfl⟩:=h3;subst hm hy hl3 hl hd he;exact so_dget ho ha hp h h'
theorem w_mkp (hm:md=0) (h:Snd X c 0 e):Snd X (.mkp c) md e:=by subst hm;exact so_mkp h
theorem w_fz (hm:md=0) (h:Snd X c 0 e):Snd X (.fz c) md e:=by subst hm;exact so_fz h
theorem w_stop1 (hm:md=1):Snd X .stop md e:=by subst hm;intro wh hw E Q s F mem g k P hk kk;exact hk.elim
theorem w_stop (hm:md=0):Snd X .stop md e:=by subst hm;intro E Q s F mem g k P hk kk;exact hk.elim
theorem w_compH {elt target iter:Expr} {ifs:List Expr} {sc:Scope} {p:Pos} {tg:List Nat} {one:Bool} {it cd:CE} (hm:md=0) (he:e=.ListComp elt [⟨target,iter,ifs,0⟩] sc p) (h1:sc.kind=.function) (h2:ckSc kinds sc.names=true) (h3:ckTg (relK sc.names kinds) one tg target=true)
  (h4:∀ X:Cx,X.Ok→X.kinds=relK sc.names kinds→Snd X c 0 elt) (h5:ifs=[]∧cd=.tt) (ok:X.Ok) (hk:X.kinds=kinds) (hi:(okIt iter).isSome=true) (h6:Snd X it 0 iter):Snd X (.compH c tg one it cd) md e:=by
 subst hm he hk
 obtain ⟨rfl,rfl⟩:=h5
 exact so_compH ok hi ⟨h1,h2,h3,fun env L cl ok'=>h4 _ ok' rfl,fun env L cl ok'=>.nil⟩ h6
theorem w_comp {rg0:Bool} (rg:Bool) (hr:rg0=rg) {elt target iter:Expr} {ifs:List Expr} {sc:Scope} {p:Pos} {tg:List Nat} {one:Bool} {it cd:CE} (hm:md=0) (he:e=.ListComp elt [⟨target,iter,ifs,0⟩] sc p) (h1:sc.kind=.function) (h2:ckSc kinds sc.names=true) (h3:ckTg (relK sc.names kinds) one tg target=true)
  (h4:∀ X:Cx,X.Ok→X.kinds=relK sc.names kinds→Snd X c 0 elt) (h5:(ifs=[]∧cd=.tt)∨∃ t,ifs=[t]∧∀ X:Cx,X.Ok→X.kinds=relK sc.names kinds→Snd X cd 1 t) (ok:X.Ok) (hk:X.kinds=kinds)
  (h6:if rg then ∃ d l q,iter=.Call d l [] q∧(∃ y p,d=.Name y p∧kinds.lookup y=some .globalImplicit∧globV y (.type "range")=true)∧∃ z,l=[z]∧(okArg z).isSome=true∧Snd X it 0 z else (okIt iter).isSome=true∧Snd X it 0 iter):Snd X (.comp c tg one rg0 it cd) md e:=by
 subst hm he hk hr
 have K:CompOk X elt target ifs sc tg one c cd:=⟨h1,h2,h3,fun env L cl ok'=>h4 _ ok' rfl,fun env L cl ok'=>by
  rcases h5 with ⟨rfl,rfl⟩ | ⟨t,rfl,h5⟩
  ·exact .nil
  ·exact .one (h5 _ ok' rfl)⟩
 cases rg0 with
 | false=>exact so_comp ok h6.1 K h6.2
 | true=>obtain ⟨d,l,q,rfl,⟨y,yp,rfl,hy,hg⟩,z,rfl,hz,h⟩:=h6;exact so_compR ok hy (globV_res ok.W hg) hz K h
end
structure CkT (c:CE) (K:Kinds) (md:Nat) (e:Expr):Type where
 down:∀ X:Cx,X.Ok→X.kinds=K→Snd X c md e
noncomputable def ckF (ck:(c:CE)→(kinds:Kinds)→(md:Nat)→(e:Expr)→Option (CkT c kinds md e)):(c:CE)→(kinds:Kinds)→(md:Nat)→(e:Expr)→Option (CkT c kinds md e)
 | .nm x,K,md,e=>do let hm ← eqN md 0;let q ← pNm e;let hy ← eqS (nameOf x) q.1;let hl ← lkI K q.1 .local;some ⟨fun X ok hk=>w_nm hm.down q.2 hy.down hl.down ok hk⟩
 | .nc x,K,md,e=>do let hm ← eqN md 0;let q ← pNm e;let hy ← eqS (nameOf x) q.1;let hl ← lkI K q.1 .cell;some ⟨fun X ok hk=>w_nc hm.down q.2 hy.down hl.down ok hk⟩
 | .k v,K,md,e=>do let hm ← eqN md 0;let h ← dB (ckK K v e);some ⟨fun X ok hk=>w_k hm.down h.down ok hk⟩
 | .att c x,K,md,e=>do let hm ← eqN md 0;let q ← pAt e;let hb ← dB (okBase q.1.1).isSome;let hy ← eqS (nameOf x) q.1.2.1;let h ← ck c K 0 q.1.1;some ⟨fun X ok hk=>w_att hm.down q.2 hb.down hy.down ok (h.down X ok hk)⟩
 | .sub c i,K,md,e=>do let hm ← eqN md 0;let q ← pSu e;let hb ← dB (okSl q.1.2).isSome;let h ← ck c K 0 q.1.1;let h' ← ck i K 0 q.1.2;some ⟨fun X ok hk=>w_sub hm.down q.2 hb.down (h.down X ok hk) (h'.down X ok hk)⟩
 | .turn c,K,md,e=>do let hm ← eqN md 0;let q ← pSu e;let hg ← isG K (.ref 540) q.1.1;let hb ← dB (okSl q.1.2).isSome;let h ← ck c K 0 q.1.2;some ⟨fun X ok hk=>w_turn hm.down q.2 hg.down hb.down ok hk (h.down X ok hk)⟩
 | .o1 o a,K,md,e =>
  (do let hm ← md2 md;let q ← pCm e;let hb ← dB (!behindInMarks q.1.2.1 q.1.2.2);let h1 ← dB (core1 o q.1.2.1 q.1.2.2);let h ← ck a K 0 q.1.1;some ⟨fun X ok hk=>w_c1 hm.down q.2 hb.down h1.down ok (h.down X ok hk)⟩)
  <|> (do let hm ← eqN md 0;let ho ← isNegO o;let q ← pUn e;let hu ← eqU q.1.1 .USub;let h ← ck a K 0 q.1.2;some ⟨fun X ok hk=>w_neg hm.down ho.down q.2 hu.down (h.down X ok hk)⟩)
  <|> (do let hm ← eqN md 0;let f ← fnO o;let q ← pCa e;let hg ← isG K f.1 q.1.1;let x ← p1 q.1.2.1;let ho ← dB (okArg x.1).isSome;let h ← ck a K 0 x.1;some ⟨fun X ok hk=>w_fn1 hm.down f.2 q.2 hg.down x.2 ho.down ok hk (h.down X ok hk)⟩)
  <|> (do let hm ← eqN md 0;let f ← isTO o;let q ← pCa e;let hg ← isG K (.builtin "isinstance") q.1.1;let x ← p2 q.1.2.1;let ho ← dB (okArg x.1.1).isSome;let hg2 ← isG K (.type (if f.1 then "int" else "str")) x.1.2;let h ← ck a K 0 x.1.1;some ⟨fun X ok hk=>w_isT f.1 hm.down f.2 q.2 hg.down x.2 ho.down hg2.down ok hk (h.down X ok hk)⟩)
 | .o2 o a b,K,md,e =>
  (do let hm ← md2 md;let c ← cmO o;let q ← pCm e;let hb ← dB (!behindInMarks q.1.2.1 q.1.2.2);let ho ← eqC c.1 q.1.2.1;let h ← ck a K 0 q.1.1;let h' ← ck b K 0 q.1.2.2;some ⟨fun X ok hk=>w_c2 hm.down q.2 hb.down c.2 ho.down ok (h.down X ok hk) (h'.down X ok hk)⟩)
  <|> (do let hm ← eqN md 0;let c ← bnO o;let q ← pBi e;let ho ← eqB c.1 q.1.2.1;let h ← ck a K 0 q.1.1;let h' ← ck b K 0 q.1.2.2;some ⟨fun X ok hk=>w_b2 hm.down q.2 c.2 ho.down (h.down X ok hk) (h'.down X ok hk)⟩)
  <|> (do let hm ← eqN md 0;let f ← fn2 o;let q ← pCa e;let hg ← isG K (.builtin f.1) q.1.1;let x ← p2 q.1.2.1;let ho ← dB (okArg x.1.1).isSome;let ho' ← dB (okArg x.1.2).isSome;let h ← ck a K 0 x.1.1;let h' ← ck b K 0 x.1.2;some ⟨fun X ok hk=>w_f2 hm.down f.2 q.2 hg.down x.2 ho.down ho'.down ok hk (h.down X ok hk) (h'.down X ok hk)⟩)
  <|> (do let hm ← eqN md 0;let ho ← isUpO o;let q ← pSu e;let n ← pNm q.1.1;let u ← pSl q.1.2;let h ← ck a K 0 q.1.1;let h' ← ck b K 0 u.1;some ⟨fun X ok hk=>w_up hm.down ho.down q.2 n.2 u.2 (h.down X ok hk) (h'.down X ok hk)⟩)
  <|> (do let hm ← eqN md 0;let ho ← isChrO o;let q ← pSu e;let hb ← dB (okSl q.1.2).isSome;let h ← ck a K 0 q.1.1;let h' ← ck b K 0 q.1.2;some ⟨fun X ok hk=>w_chr hm.down ho.down q.2 hb.down (h.down X ok hk) (h'.down X ok hk)⟩)
 | .and a b,K,md,e =>
  (do let hm ← eqN md 0;let q ← pBo e;let ho ← eqL q.1.1 .And;let x ← p2 q.1.2.1;let h ← ck a K 0 x.1.1;let h' ← ck b K 0 x.1.2;some ⟨fun X ok hk=>w_bo2 true hm.down q.2 ho.down x.2 (h.down X ok hk) (h'.down X ok hk)⟩)
  <|> (do let hm ← eqN md 0;let q ← pBo e;let ho ← eqL q.1.1 .And;let x ← pCons q.1.2.1;let y ← pCons x.1.2;let h ← ck a K 0 x.1.1;let h' ← ck b K 0 (.BoolOp .And x.1.2 q.1.2.2);some ⟨fun X ok hk=>w_bo3 true hm.down q.2 ho.down x.2 y.2 (h.down X ok hk) (h'.down X ok hk)⟩)
 | .or a b,K,md,e =>
  (do let hm ← eqN md 0;let q ← pBo e;let ho ← eqL q.1.1 .Or;let x ← p2 q.1.2.1;let h ← ck a K 0 x.1.1;let h' ← ck b K 0 x.1.2;some ⟨fun X ok hk=>w_bo2 false hm.down q.2 ho.down x.2 (h.down X ok hk) (h'.down X ok hk)⟩)
  <|> (do let hm ← eqN md 0;let q ← pBo e;let ho ← eqL q.1.1 .Or;let x ← pCons q.1.2.1;let y ← pCons x.1.2;let h ← ck a K 0 x.1.1;let h' ← ck b K 0 (.BoolOp .Or x.1.2 q.1.2.2);some ⟨fun X ok hk=>w_bo3 false hm.down q.2 ho.down x.2 y.2 (h.down X ok hk) (h'.down X ok hk)⟩)
 | .ife t a b,K,md,e=>do let hm ← eqN md 0;let q ← pIf e;let h ← ck t K 1 q.1.1;let h' ← ck a K 0 q.1.2.1;let h'' ← ck b K 0 q.1.2.2;some ⟨fun X ok hk=>w_ife hm.down q.2 (h.down X ok hk) (h'.down X ok hk) (h''.down X ok hk)⟩
 | .tand a b,K,md,e=>do let hm ← eqN md 1;let q ← pBo e;let ho ← eqL q.1.1 .And;let x ← pCons q.1.2.1;let h ← ck a K 1 x.1.1;let h' ← ck b K 1 (.BoolOp .And x.1.2 q.1.2.2);some ⟨fun X ok hk=>w_tb true hm.down q.2 ho.down x.2 (h.down X ok hk) (h'.down X ok hk)⟩
 | .tor a b,K,md,e=>do let hm ← eqN md 1;let q ← pBo e;let ho ← eqL q.1.1 .Or;let x ← pCons q.1.2.1;let h ← ck a K 1 x.1.1;let h' ← ck b K 1 (.BoolOp .Or x.1.2 q.1.2.2);some ⟨fun X ok hk=>w_tb false hm.down q.2 ho.down x.2 (h.down X ok hk) (h'.down X ok hk)⟩
 | .tnot a,K,md,e=>do let hm ← eqN md 1;let q ← pUn e;let hu ← eqU q.1.1 .Not;let h ← ck a K 1 q.1.2;some ⟨fun X ok hk=>w_not hm.down q.2 hu.down (h.down X ok hk)⟩
 | .tt,K,md,e=>do let hm ← eqN md 1;let q ← pBo e;let ho ← eqL q.1.1 .And;let hl ← pNil q.1.2.1;some ⟨fun X ok hk=>w_t0 true hm.down q.2 ho.down hl.down⟩
 | .ff,K,md,e=>do let hm ← eqN md 1;let q ← pBo e;let ho ← eqL q.1.1 .Or;let hl ← pNil q.1.2.1;some ⟨fun X ok hk=>w_t0 false hm.down q.2 ho.down hl.down⟩
 | .te a,K,md,e =>
  (do let hm ← eqN md 1;let hb ← dB (okPlain e).isSome;let h ← ck a K 0 e;some ⟨fun X ok hk=>w_te hm.down hb.down (h.down X ok hk)⟩)
  <|> (do let hm ← eqN md 1;let q ← pCm e;let hb ← dB (!behindInMarks q.1.2.1 q.1.2.2);let h ← ck a K 3 e;some ⟨fun X ok hk=>w_tc hm.down q.2 hb.down (h.down X ok hk)⟩)
 | .nil,K,md,e=>do let hm ← eqN md 2;let q ← pLi e;let hl ← pNil q.1;some ⟨fun X ok hk=>w_nil hm.down q.2 hl.down⟩
 | .cons a b,K,md,e=>do let hm ← eqN md 2;let q ← pLi e;let x ← pCons q.1;let ho ← dB (okArg x.1.1).isSome;let h ← ck a K 0 x.1.1;let h' ← ck b K 2 (.List x.1.2 ⟨0,0,0,0⟩);some ⟨fun X ok hk=>w_cons hm.down q.2 x.2 ho.down (h.down X ok hk) (h'.down X ok hk)⟩
 | .list a,K,md,e=>do let hm ← eqN md 0;let q ← pLi e;let hz ← dB (Nat.ble q.1.length 500);let h ← ck a K 2 e;some ⟨fun X ok hk=>w_list hm.down q.2 hz.down (h.down X ok hk)⟩
 | .lstF a,K,md,e=>do let hm ← eqN md 0;let q ← pLi e;let hz ← dB (Nat.ble q.1.length 500);let h ← ck a K 2 e;some ⟨fun X ok hk=>w_lstF hm.down q.2 hz.down (h.down X ok hk)⟩
 | .tup a,K,md,e=>do let hm ← eqN md 0;let q ← pTu e;let hz ← dB (Nat.ble q.1.length 500);let h ← ck a K 2 (.List q.1 ⟨0,0,0,0⟩);some ⟨fun X ok hk=>w_tup hm.down q.2 hz.down (h.down X ok hk)⟩
 | .tupM a,K,md,e=>do let hm ← eqN md 0;let q ← pTu e;let hz ← dB (Nat.ble q.1.length 500);let h ← ck a K 2 (.List q.1 ⟨0,0,0,0⟩);some ⟨fun X ok hk=>w_tupM hm.down q.2 hz.down (h.down X ok hk)⟩
 | .dict,K,md,e=>do let hm ← eqN md 0;let q ← pDi e;some ⟨fun X ok hk=>w_dict hm.down q.down ok⟩
 | .comp c tg one rg it cd,K,md,e=>do
  let hm ← eqN md 0;let q ← pLc e;let h1 ← eqK q.1.2.2.2.2.1.kind .function;let h2 ← dB (ckSc K q.1.2.2.2.2.1.names);let h3 ← dB (ckTg (relK q.1.2.2.2.2.1.names K) one tg q.1.2.1);let h4 ← ck c (relK q.1.2.2.2.2.1.names K) 0 q.1.1
  let h5 ← ((do let h ← pNil q.1.2.2.2.1;let h' ← isTtC cd;some ⟨.inl ⟨h.down,h'.down⟩⟩) <|> (do let x ← p1 q.1.2.2.2.1;let h ← ck cd (relK q.1.2.2.2.2.1.names K) 1 x.1;some ⟨.inr ⟨x.1,x.2,h.down⟩⟩):Option (PLift ((q.1.2.2.2.1=[]∧cd=.tt)∨∃ t,q.1.2.2.2.1=[t]∧∀ X:Cx,X.Ok→X.kinds=relK q.1.2.2.2.2.1.names K→Snd X cd 1 t)))
  (do let hr ← eqBo rg false;let hi ← dB (okIt q.1.2.2.1).isSome;let h ← ck it K 0 q.1.2.2.1;some ⟨fun X ok hk=>w_comp false hr.down hm.down q.2 h1.down h2.down h3.down h4.down h5.down ok hk ⟨hi.down,h.down X ok hk⟩⟩)
   <|> (do let hr ← eqBo rg true;let r ← pCa q.1.2.2.1;let hg ← isG K (.type "range") r.1.1;let x ← p1 r.1.2.1;let ho ← dB (okArg x.1).isSome;let h ← ck it K 0 x.1;some ⟨fun X ok hk=>w_comp true hr.down hm.down q.2 h1.down h2.down h3.down h4.down h5.down ok hk ⟨_,_,_,r.2,hg.down,x.1,x.2,ho.down,h.down X ok hk⟩⟩)
 | .compH c tg one it cd,K,md,e=>do
  let hm ← eqN md 0;let q ← pLc e;let h1 ← eqK q.1.2.2.2.2.1.kind .function;let h2 ← dB (ckSc K q.1.2.2.2.2.1.names);let h3 ← dB (ckTg (relK q.1.2.2.2.2.1.names K) one tg q.1.2.1);let h4 ← ck c (relK q.1.2.2.2.2.1.names K) 0 q.1.1
  let h ← pNil q.1.2.2.2.1;let h' ← isTtC cd;let hi ← dB (okIt q.1.2.2.1).isSome;let h6 ← ck it K 0 q.1.2.2.1;some ⟨fun X ok hk=>w_compH hm.down q.2 h1.down h2.down h3.down h4.down ⟨h.down,h'.down⟩ ok hk hi.down (h6.down X ok hk)⟩
 | .call f a,K,md,e=>do let hm ← eqN md 0;let q ← pCa e;let hg ← isG K (.ref f) q.1.1;let hf ← dB (okF f);let ha ← dB (okAs q.1.2.1);let hn ← nilOk q.1.2.1 a;let h ← ck a K 2 (.List q.1.2.1 ⟨0,0,0,0⟩);some ⟨fun X ok hk=>w_call hm.down q.2 hg.down hf.down ha.down hn.down ok hk (h.down X ok hk)⟩
 | .fcall p f a,K,md,e=>do let hm ← eqN md 0;let q ← pCa e;let hg ← isG K (.ref f) q.1.1;let hf ← dB (okF f);let ha ← dB (okAs q.1.2.1);let hn ← nilOk q.1.2.1 a;let h ← ck a K 2 (.List q.1.2.1 ⟨0,0,0,0⟩);some ⟨fun X ok hk=>w_fcall hm.down q.2 hg.down hf.down ha.down hn.down ok hk (h.down X ok hk)⟩
 | .meth c x a,K,md,e=>do let hm ← eqN md 0;let q ← pCa e;let r ← pAt q.1.1;let ho ← dB (okMo r.1.1).isSome;let hy ← eqS (nameOf x) r.1.2.1;let ha ← dB (okAs q.1.2.1);let hz ← dB (Nat.blt q.1.2.1.length 30);let hp ← dB (r.1.2.2.endLine==q.1.2.2.line);let hn ← nilOk q.1.2.1 a;let h ← ck c K 0 r.1.1;let h' ← ck a K 2 (.List q.1.2.1 ⟨0,0,0,0⟩);some ⟨fun X ok hk=>w_meth false hm.down q.2 r.2 ho.down hy.down ha.down hz.down hp.down hn.down ok (h.down X ok hk) (h'.down X ok hk)⟩
 | .fmeth c x a,K,md,e=>do let hm ← eqN md 0;let q ← pCa e;let r ← pAt q.1.1;let ho ← dB (okMo r.1.1).isSome;let hy ← eqS (nameOf x) r.1.2.1;let ha ← dB (okAs q.1.2.1);let hz ← dB (Nat.blt q.1.2.1.length 30);let hp ← dB (r.1.2.2.endLine==q.1.2.2.line);let hn ← nilOk q.1.2.1 a;let h ← ck c K 0 r.1.1;let h' ← ck a K 2 (.List q.1.2.1 ⟨0,0,0,0⟩);some ⟨fun X ok hk=>w_meth true hm.down q.2 r.2 ho.down hy.down ha.down hz.down hp.down hn.down ok (h.down X ok hk) (h'.down X ok hk)⟩
 | .app c a,K,md,e=>do let hm ← eqN md 0;let q ← pCa e;let r ← pAt q.1.1;let ho ← dB (okMo r.1.1).isSome;let hy ← eqS "append" r.1.2.1;let hp ← dB (r.1.2.2.endLine==q.1.2.2.line);let x ← p1 q.1.2.1;let ha ← dB (okArg x.1).isSome;let h ← ck c K 0 r.1.1;let h' ← ck a K 0 x.1;some ⟨fun X ok hk=>w_app hm.down q.2 r.2 ho.down hy.down hp.down x.2 ha.down (h.down X ok hk) (h'.down X ok hk)⟩
 | .pop c,K,md,e=>do let hm ← eqN md 0;let q ← pCa e;let r ← pAt q.1.1;let ho ← dB (okMo r.1.1).isSome;let hy ← eqS "pop" r.1.2.1;let hp ← dB (r.1.2.2.endLine==q.1.2.2.line);let hl ← pNil q.1.2.1;let h ← ck c K 0 r.1.1;some ⟨fun X ok hk=>w_pop hm.down q.2 r.2 ho.down hy.down hp.down hl.down (h.down X ok hk)⟩
 | .dget c i,K,md,e=>do let hm ← eqN md 0;let q ← pCa e;let r ← pAt q.1.1;let ho ← dB (okMo r.1.1).isSome;let hy ← eqS "get" r.1.2.1;let hp ← dB (r.1.2.2.endLine==q.1.2.2.line);let x ← p2 q.1.2.1;let ha ← dB (okArg x.1.1).isSome;let y ← pLi x.1.2;let hl ← pNil y.1;let h ← ck c K 0 r.1.1;let h' ← ck i K 0 x.1.1;some ⟨fun X ok hk=>w_dget hm.down q.2 r.2 ho.down hy.down hp.down x.2 ha.down y.2 hl.down (h.down X ok hk) (h'.down X ok hk)⟩
 | .mkp c,K,md,e=>do let hm ← eqN md 0;let h ← ck c K 0 e;some ⟨fun X ok hk=>w_mkp hm.down (h.down X ok hk)⟩
 | .fz c,K,md,e=>do let hm ← eqN md 0;let h ← ck c K 0 e;some ⟨fun X ok hk=>w_fz hm.down (h.down X ok hk)⟩
 | .stop,K,md,e=>(do let hm ← eqN md 0;some ⟨fun X ok hk=>w_stop hm.down⟩) <|> (do let hm ← eqN md 1;some ⟨fun X ok hk=>w_stop1 hm.down⟩)
noncomputable def ckG:Nat→(c:CE)→(kinds:Kinds)→(md:Nat)→(e:Expr)→Option (CkT c kinds md e)
 | 0,_,_,_,_=>none
 | n+1,c,K,md,e=>ckF (ckG n) c K md e
noncomputable abbrev ck:(c:CE)→(kinds:Kinds)→(md:Nat)→(e:Expr)→Option (CkT c kinds md e):=ckG 40
noncomputable abbrev swpG {α:Type} (N:α) (U S:List Str→α) (f:Expr→Bool) (g:Expr→Option Str) (ts vs:List Expr) (kinds:Kinds):α :=
 if (!(ts.length==2||ts.length==3)||vs.length != ts.length||(envK kinds).blockKind != .function)=true then N
 else if vs.any f=true then N
 else if ((ts.filterMap g).length != ts.length||(ts.filterMap g).eraseDups.length != (ts.filterMap g).length)=true then N
 else if vs.all (foldedForSure 8)=true then N
 else if vs.all (constantsAlone 8)=true then U (ts.filterMap g)
 else S (ts.filterMap g)
noncomputable def nmL (ts:List Expr) (kinds:Kinds) (e:Expr):Option Str:=(pNm2 e).bind fun q=>if (envK kinds).kindOf q.1.1==some .local&&q.1.2.line==(ts.head?.map (·.pos.line)).getD 0 then some q.1.1 else none
noncomputable def swpB (ts vs:List Expr) (kinds:Kinds):Option (Option (List Str)):=swpG (some none) (fun _=>none) (fun l=>some (some l)) (fun e=>Nat.beq e.ctorIdx 22) (nmL ts kinds) ts vs kinds
noncomputable def swp (ts:List Expr) (value:Expr) (kinds:Kinds):Option (Option (List Str)):=if Nat.beq value.ctorIdx 25=true then (pTu value).bind fun q=>swpB ts q.1 kinds else some none
theorem iteS {c:Prop} [Decidable c] {α β:Type} {o:α} {x:α→β} {a b:Option α} {A B:β} (h:(if c then a else b)=some o) (ha:a=some o→A=x o) (hb:b=some o→B=x o):(if c then A else B)=x o:=if q:c then (if_pos q).trans (ha ((if_pos q).symm.trans h)) else (if_neg q).trans (hb ((if_neg q).symm.trans h))
theorem iteN {α β:Type} {o o':α} {x:α→β} (h:some o=some o'):x o=x o':=congrArg x (Option.some.inj h)
theorem iteT {c c':Prop} [Decidable c] [Decidable c'] {α β:Type} {o:α} {x:α→β} {a b:Option α} {A B:β} (e:c=c') (h:(if c' then a else b)=some o) (ha:a=some o→A=x o) (hb:b=some o→B=x o):(if c then A else B)=x o:=by
 cases e
 exact if q:c then (if_pos q).trans (ha ((if_pos q).symm.trans h)) else (if_neg q).trans (hb ((if_neg q).symm.trans h))
theorem swpB_of {ts vs:List Expr} {kinds:Kinds} {o:Option (List Str)} {k j:Nat} {p q:Pos} (h:swpB ts vs kinds=some o):swappedStores [.Tuple ts k p] (.Tuple vs j q) (envK kinds)=pure o:=by
 refine iteS (x:=fun o=>(pure o:Sem _)) h iteN fun h=>iteT (x:=fun o=>(pure o:Sem _)) (congrArg (fun f=>vs.any f=true) (funext fun e=>?_)) h iteN fun h=>iteT (x:=fun o=>(pure o:Sem _)) (congrArg (fun g:Expr→Option Str=>((ts.filterMap g).length != ts.length||(ts.filterMap g).eraseDups.length != (ts.filterMap g).length)=true) (funext fun e=>?_)) h iteN fun h=>iteS (x:=fun o=>(pure o:Sem _)) h iteN fun h=>iteS (x:=fun o=>(pure o:Sem _)) h (fun h=>by cases h) fun h=>(congrArg (fun g=>(pure (some (ts.filterMap g)):Sem _)) (funext fun e=>?_)).trans (iteN h)
 all_goals cases e<;>rfl
theorem swp_no {ts:List Expr} {value:Expr} {kinds:Kinds} {k:Nat} {p:Pos}:Nat.beq value.ctorIdx 25=false→swappedStores [.Tuple ts k p] value (envK kinds)=pure none:=by
 cases value<;>first | exact fun _=>rfl | exact fun h=>(Bool.false_ne_true h.symm).elim
theorem swp_of {ts:List Expr} {value:Expr} {kinds:Kinds} {o:Option (List Str)} {k:Nat} {p:Pos} (h:swp ts value kinds=some o):swappedStores [.Tuple ts k p] value (envK kinds)=pure o:=by
 delta swp at h
 by_cases q:Nat.beq value.ctorIdx 25=true
 ·rw [if_pos q] at h
  obtain ⟨⟨vs,j,p',e⟩,_,h⟩:=Option.bind_eq_some_iff.mp h
  rw [e];exact swpB_of h
 ·rw [if_neg q] at h;rw [swp_no (Bool.eq_false_iff.mpr q),Option.some.inj h]
noncomputable abbrev RpAs (s:Stmt) :=Subtype (fun q:Expr×Expr×Pos=>s=.Assign [q.1] q.2.1 q.2.2)
noncomputable def pAs (s:Stmt) :Option (RpAs s):=met s.ctorIdx 5 fun h=>Stmt.Assign.elim (motive_2:=fun s=>Sub? fun q:Expr×Expr×Pos=>s=.Assign [q.1] q.2.1 q.2.2) s h fun ts e p=>l1 ts fun t h1=>some ⟨(t,e,p),by rw [h1]⟩
noncomputable abbrev RpEx (s:Stmt) :=Subtype (fun q:Expr=>∃ p,s=.Expr q p)
noncomputable def pEx (s:Stmt) :Option (RpEx s):=met s.ctorIdx 24 fun h=>Stmt.Expr.elim (motive_2:=fun s=>Sub? fun q:Expr=>∃ p,s=.Expr q p) s h fun e p=>some ⟨e,p,rfl⟩
noncomputable abbrev RpIfS (s:Stmt) :=Subtype (fun q:Expr×List Stmt×List Stmt=>∃ p,s=.If q.1 q.2.1 q.2.2 p)
noncomputable def pIfS (s:Stmt) :Option (RpIfS s):=met s.ctorIdx 12 fun h=>Stmt.If.elim (motive_2:=fun s=>Sub? fun q:Expr×List Stmt×List Stmt=>∃ p,s=.If q.1 q.2.1 q.2.2 p) s h fun t a b p=>some ⟨(t,a,b),p,rfl⟩
noncomputable abbrev RpFo (s:Stmt) :=Subtype (fun q:Expr×Expr×List Stmt=>∃ p,s=.For q.1 q.2.1 q.2.2 [] p)
noncomputable def pFo (s:Stmt) :Option (RpFo s):=met s.ctorIdx 9 fun h=>Stmt.For.elim (motive_2:=fun s=>Sub? fun q:Expr×Expr×List Stmt=>∃ p,s=.For q.1 q.2.1 q.2.2 [] p) s h fun t i b o p=>l0 o fun h1=>some ⟨(t,i,b),p,by rw [h1]⟩
noncomputable abbrev RpWh (s:Stmt) :=Subtype (fun q:Expr×List Stmt=>∃ p,s=.While q.1 q.2 [] p)
noncomputable def pWh (s:Stmt) :Option (RpWh s):=met s.ctorIdx 11 fun h=>Stmt.While.elim (motive_2:=fun s=>Sub? fun q:Expr×List Stmt=>∃ p,s=.While q.1 q.2 [] p) s h fun t b o p=>l0 o fun h1=>some ⟨(t,b),p,by rw [h1]⟩
noncomputable abbrev RpRt (s:Stmt) :=Subtype (fun q:Option Expr=>∃ p,s=.Return q p)
noncomputable def pRt (s:Stmt) :Option (RpRt s):=met s.ctorIdx 3 fun h=>Stmt.Return.elim (motive_2:=fun s=>Sub? fun q:Option Expr=>∃ p,s=.Return q p) s h fun e p=>some ⟨e,p,rfl⟩
noncomputable abbrev RpRe (s:Stmt) :=Subtype (fun q:Expr=>∃ p,s=.Return (some q) p)
noncomputable def pRe (s:Stmt) :Option (RpRe s):=(pRt s).bind fun q=>o1 q.1 fun e h1=>some ⟨e,by have:=q.2;rw [h1] at this;exact this⟩
noncomputable def pR0 (s:Stmt):Is? (∃ p,s=.Return none p):=(pRt s).bind fun q=>o0 q.1 fun h1=>some ⟨by have:=q.2;rw [h1] at this;exact this⟩
noncomputable def pBr (s:Stmt):Is? (∃ p,s=.Break p):=met s.ctorIdx 26 fun h=>Stmt.Break.elim (motive_2:=fun s=>Is? (∃ p,s=.Break p)) s h fun p=>some ⟨p,rfl⟩
noncomputable def pCo (s:Stmt):Is? (∃ p,s=.Continue p):=met s.ctorIdx 27 fun h=>Stmt.Continue.elim (motive_2:=fun s=>Is? (∃ p,s=.Continue p)) s h fun p=>some ⟨p,rfl⟩
noncomputable def pS0 (l:List Stmt):Is? (l=[]):=match l with | []=>some ⟨rfl⟩ | _=>none
noncomputable abbrev RpS1 (l:List Stmt) :=Subtype (fun s=>l=[s])
noncomputable def pS1 (l:List Stmt) :Option (RpS1 l):=match l with | [s]=>some ⟨s,rfl⟩ | _=>none
noncomputable abbrev RpSc (l:List Stmt) :=Subtype (fun q:Stmt×List Stmt=>l=q.1::q.2)
noncomputable def pSc (l:List Stmt) :Option (RpSc l):=match l with | s::l=>some ⟨(s,l),rfl⟩ | _=>none
theorem okSw_all (e:Expr) (h:memN [23,20,19,16,15,2,3,0,5,21,24,25,6] e.ctorIdx=true):∀ t n env,swapsWith e t n env=pure false:=by
 cases e<;>first | exact (Bool.false_ne_true h).elim | exact fun _ _ _=>rfl
noncomputable def okSw (e:Expr):Is? (∀ t n env,swapsWith e t n env=pure false):=if h:memN [23,20,19,16,15,2,3,0,5,21,24,25,6] e.ctorIdx=true then some ⟨okSw_all e h⟩ else none
theorem okSwA_all (e:Expr) (h:Nat.beq e.ctorIdx 8=true):∀ a y p n env,swapsWith e (some (.Attribute a y p)) n env=pure false:=by
 cases e<;>first | exact (Bool.false_ne_true h).elim | exact fun _ _ _ _ _=>rfl
noncomputable def okSwA (e:Expr):Is? (∀ a y p n env,swapsWith e (some (.Attribute a y p)) n env=pure false):=if h:Nat.beq e.ctorIdx 8=true then some ⟨okSwA_all e h⟩ else (okSw e).map fun h=>⟨fun a y p n env=>h.down _ n env⟩
theorem okTg_all (t:Expr) (h:memN [23,20] t.ctorIdx=true):∀ ts env,assignEach (t::ts) env=(false,assign t env)::assignEach ts env:=by
 cases t<;>first | exact (Bool.false_ne_true h).elim | exact fun _ _=>rfl
noncomputable def okTg (t:Expr):Is? (∀ ts env,assignEach (t::ts) env=(false,assign t env)::assignEach ts env):=if h:memN [23,20] t.ctorIdx=true then some ⟨okTg_all t h⟩ else none
noncomputable def eqW (a b:Option (Option (List Str))):Is? (a=b):=if h:(a==b)=true then some ⟨beq_iff_eq.mp h⟩ else none
section
variable {X:Cx} {e e' t:Expr} {es ts:List Expr} {pos:Pos} {x:Nat} {c c':CE} {F:Fx} {mem:Mem} {g:GS X.w} {s s':Shared} {E:Value→Shared→Prop} {v u:AV} {uv vv:Value} {a:Addr} {st:Stmt} {sts sts':List Stmt} {b b':CS}
noncomputable abbrev sX (X:Cx) (c:CS):=sx X.T X.r c
theorem tg_nm (ok:X.Ok) {p:Pos} (hk:X.kinds.lookup (nameOf x)=some .local):Sg X (assign (.Name (nameOf x) p) X.env) (storeK X.T X.r (.nm x)):=fun E Q s F mem g v uv k P hc hv h kk=>assign_Name (sn_nm ok hk E Q s F mem g v uv k P hc hv h kk)
theorem tg_nc (ok:X.Ok) {p:Pos} (hk:X.kinds.lookup (nameOf x)=some .cell):Sg X (assign (.Name (nameOf x) p) X.env) (storeK X.T X.r (.nc x)):=fun E Q s F mem g v uv k P hc hv h kk=>assign_Name (sn_nc ok hk E Q s F mem g v uv k P hc hv h kk)
theorem tg_at (ok:X.Ok) {p:Pos} (h1:SEx X e (evX X c)):Sg X (assign (.Attribute e (nameOf x) p) X.env) (storeK X.T X.r (.att c x)):=by
 intro E Q s F mem g v uv k P hc hv h kk
 refine as_attr (h1 E _ s F mem g _ P h fun vs mem1 u s1 g1 h P1 X1 hu=>?_)
 obtain ⟨o,rfl,ho⟩:=hu
 exact atSt_of ok P1 ho (hv.mono X1) h fun mem2 s2 g2 h P2 X2=>kk _ _ _ s2 g2 _ _ h P2 hc (X1.trans X2)
noncomputable def Sgs (X:Cx) (p:List Value→Sem Unit) (tr:List AV→Fr→Fr→Mem→(Fr→Fr→Mem→Prop)→Prop):Prop :=
 ∀ (E:Value→Shared→Prop) (Q:Unit→Shared→Prop) (s:Shared) (F:Fx) (mem:Mem) (g:GS X.w) (vs:List AV) (us:List Value) (k:Fr→Fr→Mem→Prop),Rp X F mem g s→Cells X.cells F.cc→L2 (AR g) vs us→tr vs F.fr F.cl mem k →
  (∀ fr cl mem' s' g' m cc,k fr cl mem'→Rp X ⟨F.rest,fr,cl,m,cc⟩ mem' g' s'→Cells X.cells cc→Ext g g'→Q () s')→WP X (p us) Q E s
noncomputable abbrev asEach (X:Cx) (ts:List Expr) (us:List Value):Sem Unit:=assignInOrder ((assignEach ts X.env).map (·.2)) us
theorem gs_nil:Sgs X (asEach X []) (storesK X.T X.r .nil):=by
 intro E Q s F mem g vs us k P hc hv h kk
 cases vs with
 | nil=>rw [show us=[] from hv];exact assignInOrder_nil (kk _ _ _ s g _ _ h P hc .rfl)
 | cons _ _=>exact h.elim
theorem gs_cons (ho:(okTg t).isSome=true) (h1:Sg X (assign t X.env) (storeK X.T X.r c)) (h2:Sgs X (asEach X ts) (storesK X.T X.r c')):Sgs X (asEach X (t::ts)) (storesK X.T X.r (.cons c c')):=by
 intro E Q s F mem g vs us k P hc hv h kk
 cases vs with
 | nil=>exact h.elim
 | cons v vs =>
  obtain ⟨u,us,rfl,hv,hvs⟩:=hv
  show WP X (assignInOrder ((assignEach (t::ts) X.env).map (·.2)) (u::us)) Q E s
  rw [is_of ho]
  refine assignInOrder_cons (h1 E _ s F mem g v u _ P hc hv h fun fr cl mem1 s1 g1 m cc h P1 hc1 X1=>?_)
  exact h2 E Q s1 _ mem1 g1 vs us k P1 hc1 (hvs.mono X1) h fun fr2 cl2 mem2 s2 g2 m2 cc2 h P2 hc2 X2=>kk _ _ _ s2 g2 _ _ h P2 hc2 (X1.trans X2)
theorem asEach_len {ts:List Expr} (h:(ts.all fun t=>(okTg t).isSome)=true):(assignEach ts X.env).length=ts.length∧(assignEach ts X.env).findIdx? (·.1)=none:=by
 induction ts with
 | nil=>exact ⟨rfl,rfl⟩
 | cons t ts ih =>
  obtain ⟨h1,h2⟩:=and_of h
  obtain ⟨a,b⟩:=ih h2
  rw [is_of h1,List.findIdx?_cons,b]
  exact ⟨congrArg Nat.succ a,rfl⟩
theorem gs_bind (ok:X.Ok):∀ {xs:List Nat},(xs.all fun x=>X.kinds.lookup (nameOf x)==some .local)=true→Sgs X (assignInOrder (xs.map fun x=>bindName X.env (nameOf x))) (storesK X.T X.r (xs.foldr (fun x c=>.cons (.nm x) c) .nil)):=fun {xs}=>by
 induction xs with
 | nil =>
  intro _ E Q s F mem g vs us k P hc hv h kk
  cases vs with
  | nil=>rw [show us=[] from hv];exact assignInOrder_nil (kk _ _ _ s g _ _ h P hc .rfl)
  | cons _ _=>exact h.elim
 | cons x xs ih =>
  intro hk E Q s F mem g vs us k P hc hv h kk
  obtain ⟨h1,h2⟩:=and_of hk
  cases vs with
  | nil=>exact h.elim
  | cons v vs =>
   obtain ⟨u,us',e,hv,hvs⟩:=hv
   rw [e]
   refine assignInOrder_cons (wpAny_bindName (sn_nm ok (beq_iff_eq.mp h1) E _ s F mem g v u _ P hc hv h fun fr cl mem1 s1 g1 m cc h P1 hc1 X1=>?_))
   exact ih h2 E Q s1 _ mem1 g1 vs us' k P1 hc1 (hvs.mono X1) h fun fr2 cl2 mem2 s2 g2 m2 cc2 h P2 hc2 X2=>kk _ _ _ s2 g2 _ _ h P2 hc2 (X1.trans X2)
theorem ss_nil:Ss X (execs [] X.env) (sX X .nil):=fun E Q s F mem g k P hc h kk=>wpAny_execs_nil (kk .next _ _ mem _ s g _ _ h P hc .rfl rfl)
theorem ss_cons (h1:Ss X (exec st X.env) (sX X b)) (h2:Ss X (execs sts X.env) (sX X b')):Ss X (execs (st::sts) X.env) (sX X (.cons b b')):=by
 intro E Q s F mem g k P hc h kk
 refine wpAny_execs_cons (h1 E _ s F mem g _ P hc h fun f fr cl mem1 u s1 g1 m cc h P1 hc1 X1 hf=>?_)
 cases f with
 | next=>cases hf;exact h2 E Q s1 _ mem1 g1 _ P1 hc1 h fun f fr2 cl2 mem2 u s2 g2 m2 cc2 h P2 hc2 X2 hf=>kk f _ _ _ u s2 g2 _ _ h P2 hc2 (X1.trans X2) hf
 | brk=>cases hf;exact kk .brk _ _ _ _ s1 g1 _ _ h P1 hc1 X1 rfl
 | cont=>cases hf;exact kk .cont _ _ _ _ s1 g1 _ _ h P1 hc1 X1 rfl
 | ret v=>obtain ⟨z,rfl,hz⟩:=hf;exact kk (.ret v) _ _ _ _ s1 g1 _ _ h P1 hc1 X1 ⟨z,rfl,hz⟩
noncomputable def Gh (X:Cx) (c:CS):Prop:=∀ (s:Shared) (F:Fx) (mem:Mem) (g:GS X.w) (k:Fl→Fr→Fr→Mem→Prop),Rp X F mem g s→sX X c F.fr F.cl mem k→∃ fr cl mem' g',k .next fr cl mem'∧Rp X ⟨F.rest,fr,cl,F.m,F.cc⟩ mem' g' s∧Ext g g'
theorem ss_gh (h1:Gh X b) (h2:Ss X (execs sts X.env) (sX X b')):Ss X (execs sts X.env) (sX X (.cons b b')):=by
 intro E Q s F mem g k P hc h kk
 obtain ⟨fr,cl,mem1,g1,h,P1,X1⟩:=h1 s F mem g _ P h
 exact h2 E Q s _ mem1 g1 _ P1 hc h fun f fr2 cl2 mem2 u s2 g2 m2 cc2 h P2 hc2 X2 hf=>kk f _ _ _ u s2 g2 _ _ h P2 hc2 (X1.trans X2) hf
theorem keepK_of {fr:Fr}:∀ {xs:List Nat} {k:Fr→Prop},keepK xs fr k→∃ fr',k fr'∧∀ x v,fr'.lookup x=some v→fr.lookup x=some v:=fun {xs}=>by
 induction xs with
 | nil=>exact fun {k} h=>⟨[],h,fun x v e=>by cases e⟩
 | cons x xs ih =>
  intro k h
  obtain ⟨v,hv,h⟩:=lookK_of h
  obtain ⟨fr',h,q⟩:=ih h
  refine ⟨_,h,fun y z e=>?_⟩
  rw [List.lookup_cons] at e
  cases r:y==x with
  | true=>rw [r] at e;exact beq_iff_eq.mp r▸Option.some.inj e▸hv
  | false=>rw [r] at e;exact q y z e
theorem gh_kp {xs:List Nat}:Gh X (.kp xs):=fun s F mem g k P h=>by
 obtain ⟨fr,h,q⟩:=keepK_of h
 exact ⟨fr,F.cl,mem,g,h,⟨P.st,fun y v e=>P.fr y v (q y v e),P.cl,P.mem⟩,.rfl⟩
theorem gh_kc {xs:List Nat}:Gh X (.kc xs):=fun s F mem g k P h=>by
 obtain ⟨cl,h,q⟩:=keepK_of h
 exact ⟨F.fr,cl,mem,g,h,⟨P.st,P.fr,fun y v a e ha=>P.cl y v a (q y v e) ha,P.mem⟩,.rfl⟩
theorem gh_fzv:Gh X (.fzv x):=fun s F mem g k P h=>by
 obtain ⟨v,hv,h⟩:=lookK_of h
 obtain ⟨u,h1,h2⟩:=P.fr x v hv
 obtain ⟨t,mem1,h,g1,M1,X1,ht⟩:=fzK_of 9 P.ms h2 h
 have P1:=P.back M1 X1
 refine ⟨_,F.cl,mem1,g1,putK_of h,⟨P1.st,fun y z e=>?_,P1.cl,P1.mem⟩,X1⟩
 rw [lookup_put] at e
 by_cases hy:y=x
 ·subst hy;rw [if_pos rfl] at e;cases e;exact ⟨u,h1,ht⟩
 ·rw [if_neg hy] at e;exact P1.fr y z e
theorem gh_fzn {n:Nat}:Gh X (.fzn n):=fun s F mem g k P h=>by
 obtain ⟨o,ho,_⟩:=nthK_of (k:=fun o=>fzc (fzK 8) (kids o) mem fun mem=>nthK mem n fun o=>resO mem o fun t=>setK mem n (.fz t) fun mem=>k .next F.fr F.cl mem) h
 obtain ⟨a,_,_,_,ha,_⟩:=P.ms.get ho
 obtain ⟨t,mem1,h,g1,M1,X1,ht⟩:=fzK_of 9 P.ms (v:=.ref n) (u:=.ref a) ⟨a,ha,rfl⟩ h
 exact ⟨F.fr,F.cl,mem1,g1,h,P.back M1 X1,X1⟩
theorem gh_shf:Gh X (.shf x):=fun s F mem g k P h=>by
 obtain ⟨v,hv,h⟩:=lookK_of h
 cases v with
 | t _=>exact h.elim
 | ref n =>
  obtain ⟨o,ho,h⟩:=nthK_of h
  cases o with
  | lst l =>
   obtain ⟨a,c0,pre,post,q1,q2,q3,q4⟩:=P.mem.focus ho
   obtain ⟨vs,rfl,hz,hl⟩:=q2
   have R1:∀ {ch:Ch} {pre q:List Ch},Rem1 ch (pre++([ch]++q)) (pre++q):=fun {ch pre q}=>by
    induction pre with
    | nil=>exact .hd
    | cons p pre ih=>exact .tl ih
   have S:=P.ms.st
   rw [q3,List.append_assoc,List.append_assoc] at S
   have S2:=S.freeze R1 fun _ h=>nomatch h
   rw [← List.append_assoc] at S2
   let g1:GS X.w:=⟨pre++([]++post),g.al,.lst a vs::g.R⟩
   have X1:Ext g g1:=⟨fun _ h=>.tail _ h,[],(List.append_nil _).symm⟩
   exact ⟨F.fr,F.cl,_,g1,setK_of h,P.back ⟨S2,q4 g1 X1 (.fl l) [] ⟨rfl,vs,.head _,hz,hl.mono X1⟩⟩ X1,X1⟩
  | _=>exact h.elim
noncomputable def pGh (c:CS):Is? (∀ X,Gh X c):=match c with | .kp _=>some ⟨fun _=>gh_kp⟩ | .kc _=>some ⟨fun _=>gh_kc⟩ | .fzv _=>some ⟨fun _=>gh_fzv⟩ | .fzn _=>some ⟨fun _=>gh_fzn⟩ | .shf _=>some ⟨fun _=>gh_shf⟩ | _=>none
theorem ss_asN {y:Str} {p:Pos} {t:CE} (hs:(okSw e).isSome=true) (h1:SEx X e (evX X c)) (h2:Sg X (storeName X.env y) (storeK X.T X.r t)):Ss X (exec (.Assign [.Name y p] e pos) X.env) (sX X (.as t c)):=by
 intro E Q s F mem g k P hc h kk
 refine wpAny_Assign_Name (h1 E _ s F mem g _ P h fun vs mem1 u s1 g1 h P1 X1 hv=>?_) (is_of hs _ _ _)
 obtain ⟨v,rfl,hv⟩:=hv
 exact h2 E _ s1 F mem1 g1 v u _ P1 hc hv h fun fr cl mem2 s2 g2 m cc h P2 hc2 X2=>kk .next _ _ _ _ s2 g2 _ _ h P2 hc2 (X1.trans X2) rfl
theorem swaps_cell (ok:X.Ok) {y:Str} (hk:X.kinds.lookup y=some .cell) {p:Pos} {n:Nat}:swapsWith e (some (.Name y p)) n X.env=pure false:=by
 have k1:X.env.kindOf y=some .cell:=by delta Env.kindOf;rw [ok.V.names];exact hk
 cases e<;>first | rfl | (show (pure (X.env.blockKind==.function&&X.env.kindOf y==some .local&&_&&_):Sem Bool)=_;rw [k1,show ((some NameKind.cell==some NameKind.local)=false) from rfl,Bool.and_false];rfl)
theorem ss_asC {y:Str} {p:Pos} {t:CE} (ok:X.Ok) (hk:X.kinds.lookup y=some .cell) (h1:SEx X e (evX X c)) (h2:Sg X (storeName X.env y) (storeK X.T X.r t)):Ss X (exec (.Assign [.Name y p] e pos) X.env) (sX X (.as t c)):=by
 intro E Q s F mem g k P hc h kk
 refine wpAny_Assign_Name (h1 E _ s F mem g _ P h fun vs mem1 u s1 g1 h P1 X1 hv=>?_) (swaps_cell ok hk)
 obtain ⟨v,rfl,hv⟩:=hv
 exact h2 E _ s1 F mem1 g1 v u _ P1 hc hv h fun fr cl mem2 s2 g2 m cc h P2 hc2 X2=>kk .next _ _ _ _ s2 g2 _ _ h P2 hc2 (X1.trans X2) rfl
theorem ss_asA (ok:X.Ok) {p:Pos} (hs:(okSwA e).isSome=true) (h1:SEx X e (evX X c)) (h2:SEx X e' (evX X c')):Ss X (exec (.Assign [.Attribute e' (nameOf x) p] e pos) X.env) (sX X (.as (.att c' x) c)):=by
 intro E Q s F mem g k P hc h kk
 refine plainObj_wpAny_Assign_Attribute (h1 E _ s F mem g _ P h fun vs mem1 u s1 g1 h P1 X1 hv=>?_) (is_of hs _ _ _ _ _)
 obtain ⟨v,rfl,hv⟩:=hv
 refine h2 E _ s1 F mem1 g1 _ P1 h fun vs mem2 u s2 g2 h P2 X2 hu=>?_
 obtain ⟨o,rfl,ho⟩:=hu
 exact atSt_of ok P2 ho (hv.mono X2) h fun mem3 s3 g3 h P3 X3=>kk .next _ _ _ _ s3 g3 _ _ h P3 hc ((X1.trans X2).trans X3) rfl
theorem ss_asS {p:Pos} {i:Expr} {ci:CE} (hs:(okSw e).isSome=true) (h1:SEx X e (evX X c)) (h2:SEx X e' (evX X c')) (h3:SEx X i (evX X ci)):Ss X (exec (.Assign [.Subscript e' i p] e pos) X.env) (sX X (.as (.sub c' ci) c)):=by
 intro E Q s F mem g k P hc h kk
 refine wpAny_Assign_Subscript (h1 E _ s F mem g _ P h fun vs mem1 u s1 g1 h P1 X1 hv=>?_) (is_of hs _ _ _)
 obtain ⟨v,rfl,hv⟩:=hv
 refine h2 E _ s1 F mem1 g1 _ P1 h fun vs mem2 u s2 g2 h P2 X2 hu=>?_
 obtain ⟨o,rfl,ho⟩:=hu
 refine h3 E _ s2 F mem2 g2 _ P2 h fun vs mem3 u s3 g3 h P3 X3 hj=>?_
 obtain ⟨j,rfl,hj⟩:=hj
 exact subSt_of P3 (ho.mono X3) hj ((hv.mono X2).mono X3) h fun mem4 s4 g4 h P4 X4=>kk .next _ _ _ _ s4 g4 _ _ h P4 hc (((X1.trans X2).trans X3).trans X4) rfl
theorem ss_un (ok:X.Ok) {j:Nat} {p:Pos} {ct:CE} (hw:swp ts e X.kinds=some none) (hs:(okSw e).isSome=true) (ho:(ts.all fun t=>(okTg t).isSome)=true) (hl:lenC ct=ts.length) (h1:SEx X e (evX X c)) (h2:Sgs X (asEach X ts) (storesK X.T X.r ct)):Ss X (exec (.Assign [.Tuple ts j p] e pos) X.env) (sX X (.un ct c)):=by
 intro E Q s F mem g k P hc h kk
 refine Assign_tp ok.V (swp_of hw) (show swapsWith e (some (.Tuple ts j p)) pos.line X.env=pure false from is_of hs _ _ _) (h1 E _ s F mem g _ P h fun vs mem1 u s1 g1 h P1 X1 hv=>?_)
 obtain ⟨v,rfl,hv⟩:=hv
 obtain ⟨l,a,us,h,rfl,I,hus⟩:=tupK_of (k:=fun l=>brK (Nat.beq (lenC ct) l.length) (storesK X.T X.r ct l F.fr F.cl mem1 fun fr cl mem=>k .next fr cl mem) False) P1 hv h
 obtain ⟨hz,h⟩:=brT h
 obtain ⟨q1,q2⟩:=asEach_len (X:=X) ho
 refine as_tup ok.rm.h P1.st I (by rw [q1,← hl,Nat.eq_of_beq_eq_true hz,hus.len]) q2 fun s2 S2=>?_
 exact h2 E _ s2 F mem1 g1 l us _ (P1.step S2) hc hus h fun fr cl mem2 s3 g2 m cc h P2 hc2 X2=>kk .next _ _ _ _ s3 g2 _ _ h P2 hc2 (X1.trans X2) rfl
theorem ss_unt (ok:X.Ok) {j j':Nat} {p q:Pos} {ct:CE} (hw:swp ts (.Tuple es j' q) X.kinds=some none) (hz:es.length≤500) (ho:(ts.all fun t=>(okTg t).isSome)=true) (hl:es.length=ts.length) (h1:SL X es (evX X c)) (h2:Sgs X (asEach X ts) (storesK X.T X.r ct)) :
  Ss X (exec (.Assign [.Tuple ts j p] (.Tuple es j' q) pos) X.env) (sX X (.unt false ct c)):=by
 intro E Q s F mem g k P hc h kk
 refine Assign_tp ok.V (swp_of hw) rfl (ev_tup (h1 q E _ s F mem g _ P h fun vs mem1 us s1 g1 h P1 X1 hvs=>?_))
 have hz':us.length≤1000:=by rw [hvs.1.len,hvs.2];exact Nat.le_trans hz (by decide)
 refine tup_mk P1.st hz' fun s2 a S2=>?_
 obtain ⟨q1,q2⟩:=asEach_len (X:=X) ho
 refine as_tup ok.rm.h S2 (.inl (.head _)) (by rw [q1,← hl,← hvs.2,hvs.1.len]) q2 fun s3 S3=>?_
 exact h2 E _ s3 F mem1 g1 vs us _ (P1.step (thin S3 (List.sublist_cons_self _ _))) hc hvs.1 h fun fr cl mem2 s3 g2 m cc h P2 hc2 X2=>kk .next _ _ _ _ s3 g2 _ _ h P2 hc2 (X1.trans X2) rfl
theorem ss_asw (ok:X.Ok) {j j':Nat} {p q:Pos} {xs:List Nat} (hw:swp ts (.Tuple es j' q) X.kinds=some (some (xs.reverse.map nameOf))) (hz:es.length≤500) (hk:(xs.all fun x=>X.kinds.lookup (nameOf x)==some .local)=true) (hl:es.length=xs.length) (h1:SL X es (evX X c)) :
  Ss X (exec (.Assign [.Tuple ts j p] (.Tuple es j' q) pos) X.env) (sX X (.unt true (xs.foldr (fun x c=>.cons (.nm x) c) .nil) c)):=by
 intro E Q s F mem g k P hc h kk
 refine Assign_sw ok.V (swp_of hw) rfl (ev_tup (h1 q E _ s F mem g _ P h fun vs mem1 us s1 g1 h P1 X1 hvs=>?_))
 have hz':us.length≤1000:=by rw [hvs.1.len,hvs.2];lia
 refine tup_mk P1.st hz' fun s2 a S2=>?_
 refine un_tup ok.rm.h S2 (.inl (.head _)) (by rw [List.length_map,List.length_reverse,← hl,← hvs.2,hvs.1.len]) fun s3 S3=>?_
 have e:((xs.reverse.map nameOf).reverse.map fun n=>bindName X.env n)=xs.map fun x=>bindName X.env (nameOf x):=by
  rw [← List.map_reverse,List.reverse_reverse,List.map_map];rfl
 rw [e]
 exact gs_bind ok hk E _ s3 F mem1 g1 vs.reverse us.reverse _ (P1.step (thin S3 (List.sublist_cons_self _ _))) hc hvs.1.rev h fun fr cl mem2 s3 g2 m cc h P2 hc2 X2=>kk .next _ _ _ _ s3 g2 _ _ h P2 hc2 (X1.trans X2) rfl
theorem ss_ex (ok:X.Ok) (hs:(okSw e).isSome=true) (h1:SEx X e (evX X c)):Ss X (exec (.Expr e pos) X.env) (sX X (.ex c)):=fun E Q s F mem g k P hc h kk =>
 ex_expr ok.V (h1 E _ s F mem g _ P h fun vs mem1 u s1 g1 h P1 X1 hv=>kk .next _ _ _ _ s1 g1 _ _ h P1 hc X1 rfl) (is_of hs _ _ _)
theorem ss_if (h1:ST X e (evX X c)) (h2:Ss X (execs sts X.env) (sX X b)) (h3:Ss X (execs sts' X.env) (sX X b')):Ss X (exec (.If e sts sts' pos) X.env) (sX X (.ifs c b b')):=by
 intro E Q s F mem g k P hc h kk
 refine wpAny_If (h1 _ (.inr rfl) E _ s F mem g _ P h fun vs mem1 d s1 g1 h P1 X1 hv=>?_)
 cases hv
 cases d with
 | true=>exact h2 E Q s1 F mem1 g1 k P1 hc h fun f fr cl mem2 u s2 g2 m cc h P2 hc2 X2 hf=>kk f _ _ _ u s2 g2 _ _ h P2 hc2 (X1.trans X2) hf
 | false=>exact h3 E Q s1 F mem1 g1 k P1 hc h fun f fr cl mem2 u s2 g2 m cc h P2 hc2 X2 hf=>kk f _ _ _ u s2 g2 _ _ h P2 hc2 (X1.trans X2) hf
theorem ss_ret (h1:SEx X e (evX X c)):Ss X (exec (.Return (some e) pos) X.env) (sX X (.ret c)):=fun E Q s F mem g k P hc h kk =>
 wpAny_Return_some (h1 E _ s F mem g _ P h fun vs mem1 u s1 g1 h P1 X1 hv=>by obtain ⟨v,rfl,hv⟩:=hv;exact kk (.ret v) _ _ _ _ s1 g1 _ _ h P1 hc X1 ⟨u,rfl,hv⟩)
theorem ss_ret0:Ss X (exec (.Return none pos) X.env) (sX X .ret0):=fun E Q s F mem g k P hc h kk=>wpAny_Return_none (kk _ _ _ mem _ s g _ _ h P hc .rfl ⟨_,rfl,rfl⟩)
theorem ss_brk:Ss X (exec (.Break pos) X.env) (sX X .brk):=fun E Q s F mem g k P hc h kk=>wpAny_Break (kk _ _ _ mem _ s g _ _ h P hc .rfl rfl)
theorem ss_cont:Ss X (exec (.Continue pos) X.env) (sX X .cont):=fun E Q s F mem g k P hc h kk=>wpAny_Continue (kk _ _ _ mem _ s g _ _ h P hc .rfl rfl)
theorem ss_stop {p:Sem Flow}:Ss X p (sX X .stop):=fun E Q s F mem g k P hc h kk=>h.elim
end
noncomputable def SndS (X:Cx) (c:CS):Bool→List Stmt→Prop
 | true,ss=>Ss X (execs ss X.env) (sX X c)
 | false,ss=>∀ st,ss=[st]→Ss X (exec st X.env) (sX X c)
section
variable {X:Cx} {K:Kinds} {c c':CE} {b b':CS} {e d d':Expr} {st:Stmt} {ss ss':List Stmt} {md:Bool} {x:Nat} {y:Str} {l ts:List Expr}
theorem t_nm (he:∃ p,e=.Name y p) (hy:nameOf x=y) (hl:K.lookup y=some .local) (ok:X.Ok) (hk:X.kinds=K):Sg X (assign e X.env) (storeK X.T X.r (.nm x)):=by obtain ⟨p,rfl⟩:=he;subst hy hk;exact tg_nm ok hl
theorem t_nc (he:∃ p,e=.Name y p) (hy:nameOf x=y) (hl:K.lookup y=some .cell) (ok:X.Ok) (hk:X.kinds=K):Sg X (assign e X.env) (storeK X.T X.r (.nc x)):=by obtain ⟨p,rfl⟩:=he;subst hy hk;exact tg_nc ok hl
theorem t_at {p:Pos} (he:e=.Attribute d y p) (hy:nameOf x=y) (ok:X.Ok) (h:Snd X c 0 d):Sg X (assign e X.env) (storeK X.T X.r (.att c x)):=by subst hy he;exact tg_at ok h
theorem v_nil (hl:ss=[]):SndS X .nil true ss:=by subst hl;exact ss_nil
theorem v_cons (hl:ss=st::ss') (h:SndS X b false [st]) (h':SndS X b' true ss'):SndS X (.cons b b') true ss:=by subst hl;exact ss_cons (h _ rfl) h'
theorem v_gh (h:Gh X b) (h':SndS X b' true ss):SndS X (.cons b b') true ss:=ss_gh h h'
theorem v_lab (h:SndS X b true ss):SndS X (.lab b) true ss:=fun E Q s F mem g k P hc hk kk=>h E Q s F mem g k P hc hk.run kk
theorem v_asN {t:CE} {p:Pos} (hl:ss=[st]) (hs:st=.Assign [d] e p) (hd:∃ p,d=.Name y p) (hw:(okSw e).isSome=true) (h:Snd X c 0 e) (ht:Sg X (storeName X.env y) (storeK X.T X.r t)):SndS X (.as t c) false ss:=by
 obtain ⟨q,rfl⟩:=hd;subst hl hs;rintro s' ⟨⟩;exact ss_asN hw h ht
theorem v_asL {p:Pos} (hl:ss=[st]) (hs:st=.Assign [d] e p) (hd:∃ p,d=.Name y p) (hw:(okSw e).isSome=true) (hy:nameOf x=y) (hk0:K.lookup y=some .local) (ok:X.Ok) (hk:X.kinds=K) (h:Snd X c 0 e):SndS X (.as (.nm x) c) false ss:=by
 subst hy hk;exact v_asN hl hs hd hw h (sn_nm ok hk0)
theorem v_asC {p:Pos} (hl:ss=[st]) (hs:st=.Assign [d] e p) (hd:∃ p,d=.Name y p) (hy:nameOf x=y) (hk0:K.lookup y=some .cell) (ok:X.Ok) (hk:X.kinds=K) (h:Snd X c 0 e):SndS X (.as (.nc x) c) false ss:=by
 obtain ⟨q,rfl⟩:=hd;subst hy hk hl hs;rintro s' ⟨⟩;exact ss_asC ok hk0 h (sn_nc ok hk0)
theorem v_asA {p q:Pos} (hl:ss=[st]) (hs:st=.Assign [d] e p) (hd:d=.Attribute d' y q) (hw:(okSwA e).isSome=true) (hy:nameOf x=y) (ok:X.Ok) (h:Snd X c 0 e) (h':Snd X c' 0 d'):SndS X (.as (.att c' x) c) false ss:=by
 subst hl hs hd hy;rintro s' ⟨⟩;exact ss_asA ok hw h h'
theorem v_asS {p:Pos} {i:Expr} {ci:CE} (hl:ss=[st]) (hs:st=.Assign [d] e p) (hd:∃ q,d=.Subscript d' i q) (hw:(okSw e).isSome=true) (h:Snd X c 0 e) (h':Snd X c' 0 d') (h'':Snd X ci 0 i):SndS X (.as (.sub c' ci) c) false ss:=by
 obtain ⟨q,rfl⟩:=hd;subst hl hs;rintro s' ⟨⟩;exact ss_asS hw h h' h''
theorem v_un {ct:CE} {p:Pos} (hl:ss=[st]) (hs:st=.Assign [d] e p) (hd:∃ j q,d=.Tuple ts j q) (hw:swp ts e K=some none) (hs':(okSw e).isSome=true) (ho:(ts.all fun t=>(okTg t).isSome)=true) (hn:lenC ct=ts.length) (ok:X.Ok) (hk:X.kinds=K) (h:Snd X c 0 e) (ht:Sgs X (asEach X ts) (storesK X.T X.r ct)):SndS X (.un ct c) false ss:=by
 obtain ⟨j,q,rfl⟩:=hd;subst hl hs hk;rintro s' ⟨⟩;exact ss_un ok hw hs' ho hn h ht
theorem v_unt {ct:CE} {p:Pos} (hl:ss=[st]) (hs:st=.Assign [d] e p) (hd:∃ j q,d=.Tuple ts j q) (he:∃ j q,e=.Tuple l j q) (hw:swp ts e K=some none) (hz:Nat.ble l.length 500=true) (ho:(ts.all fun t=>(okTg t).isSome)=true) (hn:l.length=ts.length) (ok:X.Ok) (hk:X.kinds=K) (h:Snd X c 2 (.List l ⟨0,0,0,0⟩)) (ht:Sgs X (asEach X ts) (storesK X.T X.r ct)):SndS X (.unt false ct c) false ss:=by
 obtain ⟨j,q,rfl⟩:=hd;obtain ⟨j',q',rfl⟩:=he;subst hl hs hk;rintro s' ⟨⟩;exact ss_unt ok hw (Nat.le_of_ble_eq_true hz) ho hn (h _ ⟨_,rfl⟩) ht
theorem v_asw {ct:CE} {p:Pos} {xs:List Nat} (hl:ss=[st]) (hs:st=.Assign [d] e p) (hd:∃ j q,d=.Tuple ts j q) (he:∃ j q,e=.Tuple l j q) (hct:ct=xs.foldr (fun x c=>.cons (.nm x) c) .nil) (hw:swp ts e K=some (some (xs.reverse.map nameOf))) (hz:Nat.ble l.length 500=true) (ho:(xs.all fun x=>K.lookup (nameOf x)==some .local)=true) (hn:l.length=xs.length) (ok:X.Ok) (hk:X.kinds=K) (h:Snd X c 2 (.List l ⟨0,0,0,0⟩)):SndS X (.unt true ct c) false ss:=by
 obtain ⟨j,q,rfl⟩:=hd;obtain ⟨j',q',rfl⟩:=he;subst hl hs hk hct;rintro s' ⟨⟩;exact ss_asw ok hw (Nat.le_of_ble_eq_true hz) ho hn (h _ ⟨_,rfl⟩)
theorem v_ex (hl:ss=[st]) (hs:∃ p,st=.Expr e p) (hw:(okSw e).isSome=true) (ok:X.Ok) (h:Snd X c 0 e):SndS X (.ex c) false ss:=by obtain ⟨p,rfl⟩:=hs;subst hl;rintro s' ⟨⟩;exact ss_ex ok hw h
theorem v_if {s1 s2:List Stmt} (hl:ss=[st]) (hs:∃ p,st=.If e s1 s2 p) (h:Snd X c 1 e) (h1:SndS X b true s1) (h2:SndS X b' true s2):SndS X (.ifs c b b') false ss:=by obtain ⟨p,rfl⟩:=hs;subst hl;rintro s' ⟨⟩;exact ss_if h h1 h2
theorem v_for {gc:Nat} {xs:List Nat} {one rg:Bool} {bd:List Stmt} (hl:ss=[st]) (hs:∃ p,st=.For d e bd [] p) (hr:rg=false) (hi:(okIt e).isSome=true) (ht:ckTg K one xs d=true) (ok:X.Ok) (hk:X.kinds=K) (h:Snd X c 0 e) (h1:SndS X b true bd):SndS X (.for_ gc xs one rg c b) false ss:=by
 obtain ⟨p,rfl⟩:=hs;subst hl hk hr;rintro s' ⟨⟩;exact ss_for ok hi ht h h1
theorem v_forR {gc:Nat} {xs:List Nat} {one rg:Bool} {bd:List Stmt} {q:Pos} (hl:ss=[st]) (hs:∃ p,st=.For d e bd [] p) (hr:rg=true) (he:e=.Call d' l [] q) (hg:∃ y p,d'=.Name y p∧K.lookup y=some .globalImplicit∧globV y (.type "range")=true) {z:Expr} (hz:l=[z]) (ho:(okArg z).isSome=true) (ht:ckTg K one xs d=true) (ok:X.Ok) (hk:X.kinds=K) (h:Snd X c 0 z) (h1:SndS X b true bd):SndS X (.for_ gc xs one rg c b) false ss:=by
 obtain ⟨p,rfl⟩:=hs;obtain ⟨y,yp,rfl,hy,hg⟩:=hg;subst hl hk hr hz he;rintro s' ⟨⟩;exact ss_forR ok hy (globV_res ok.W hg) ho ht h h1
theorem v_wh {bd:List Stmt} (hl:ss=[st]) (hs:∃ p,st=.While e bd [] p) (ok:X.Ok) (h:Snd X c 1 e) (h1:SndS X b true bd):SndS X (.wh c b) false ss:=by obtain ⟨p,rfl⟩:=hs;subst hl;rintro s' ⟨⟩;exact ss_wh ok h h1
theorem v_ret (hl:ss=[st]) (hs:∃ p,st=.Return (some e) p) (h:Snd X c 0 e):SndS X (.ret c) false ss:=by obtain ⟨p,rfl⟩:=hs;subst hl;rintro s' ⟨⟩;exact ss_ret h
theorem v_ret0 (hl:ss=[st]) (hs:∃ p,st=.Return none p):SndS X .ret0 false ss:=by obtain ⟨p,rfl⟩:=hs;subst hl;rintro s' ⟨⟩;exact ss_ret0
theorem v_brk (hl:ss=[st]) (hs:∃ p,st=.Break p):SndS X .brk false ss:=by obtain ⟨p,rfl⟩:=hs;subst hl;rintro s' ⟨⟩;exact ss_brk
theorem v_cont (hl:ss=[st]) (hs:∃ p,st=.Continue p):SndS X .cont false ss:=by obtain ⟨p,rfl⟩:=hs;subst hl;rintro s' ⟨⟩;exact ss_cont
theorem v_stop:SndS X .stop md ss:=by cases md;(· intro _ _;exact ss_stop);exact ss_stop
theorem v_comp (rg:Bool) {rg0:Bool} (hr:rg0=rg) {elt target iter:Expr} {ifs:List Expr} {sc:Scope} {p pc pd:Pos} {tg:List Nat} {one:Bool} {it cd:CE} (hl:ss=[st]) (hs:st=.Assign [d] e p) (hd:d=.Name y pd) (hy:nameOf x=y) (hk0:K.lookup y=some .local) (he:e=.ListComp elt [⟨target,iter,ifs,0⟩] sc pc)
  (hq:(pd.line==pc.line&&!(sc.names.any fun (n,k)=>n==y&&(k==.local||k==.cell)))=true) (h1:sc.kind=.function) (h2:ckSc K sc.names=true) (h3:ckTg (relK sc.names K) one tg target=true)
  (h4:∀ X:Cx,X.Ok→X.kinds=relK sc.names K→Snd X c 0 elt) (h5:(ifs=[]∧cd=.tt)∨∃ t,ifs=[t]∧∀ X:Cx,X.Ok→X.kinds=relK sc.names K→Snd X cd 1 t) (ok:X.Ok) (hk:X.kinds=K)
  (h6:if rg then ∃ d l q,iter=.Call d l [] q∧(∃ y p,d=.Name y p∧K.lookup y=some .globalImplicit∧globV y (.type "range")=true)∧∃ z,l=[z]∧(okArg z).isSome=true∧Snd X it 0 z else (okIt iter).isSome=true∧Snd X it 0 iter):SndS X (.as (.nm x) (.comp c tg one rg0 it cd)) false ss:=by
 subst hl hs hd hy he hk hr
 have K:CompOk X elt target ifs sc tg one c cd:=⟨h1,h2,h3,fun env L cl ok'=>h4 _ ok' rfl,fun env L cl ok'=>by
  rcases h5 with ⟨rfl,rfl⟩ | ⟨t,rfl,h5⟩
  ·exact .nil
  ·exact .one (h5 _ ok' rfl)⟩
 rintro s' ⟨⟩ E Q s F mem g k P hc h kk
 cases rg0 with
 | false=>exact st_comp ok h6.1 K h6.2 hk0 hq E Q s F mem g (fun fr mem=>k .next fr F.cl mem) P h fun fr mem' s' g' m h P' X'=>kk .next _ _ _ _ s' g' _ _ h P' hc X' rfl
 | true=>obtain ⟨d,l,q,rfl,⟨y,yp,rfl,hy,hg⟩,z,rfl,hz,hi⟩:=h6;exact st_compR ok hy (globV_res ok.W hg) hz K hi hk0 hq E Q s F mem g (fun fr mem=>k .next fr F.cl mem) P h fun fr mem' s' g' m h P' X'=>kk .next _ _ _ _ s' g' _ _ h P' hc X' rfl
end
noncomputable def ckT:(c:CE)→(K:Kinds)→(e:Expr)→Option (PLift (∀ X:Cx,X.Ok→X.kinds=K→Sg X (assign e X.env) (storeK X.T X.r c)))
 | .nm x,K,e=>do let q ← pNm e;let hy ← eqS (nameOf x) q.1;let hl ← lkI K q.1 .local;some ⟨fun X ok hk=>t_nm q.2 hy.down hl.down ok hk⟩
 | .nc x,K,e=>do let q ← pNm e;let hy ← eqS (nameOf x) q.1;let hl ← lkI K q.1 .cell;some ⟨fun X ok hk=>t_nc q.2 hy.down hl.down ok hk⟩
 | .att c x,K,e=>do let q ← pAt e;let hy ← eqS (nameOf x) q.1.2.1;let h ← ck c K 0 q.1.1;some ⟨fun X ok hk=>t_at q.2 hy.down ok (h.down X ok hk)⟩
 | _,_,_=>none
noncomputable def ckTs:(c:CE)→(K:Kinds)→(ts:List Expr)→Option (PLift (∀ X:Cx,X.Ok→X.kinds=K→Sgs X (asEach X ts) (storesK X.T X.r c)))
 | .nil,_,[]=>some ⟨fun _ _ _=>gs_nil⟩
 | .cons c c',K,t::ts=>do let ho ← dB (okTg t).isSome;let h ← ckT c K t;let h' ← ckTs c' K ts;some ⟨fun X ok hk=>gs_cons ho.down (h.down X ok hk) (h'.down X ok hk)⟩
 | _,_,_=>none
noncomputable def nmsC:CE→List Nat
 | .cons a b=>(match a with | .nm x=>[x] | _=>[])++nmsC b
 | _=>[]
noncomputable def isNms:(c:CE)→(xs:List Nat)→Option (PLift (c=xs.foldr (fun x c=>.cons (.nm x) c) .nil))
 | .nil,[]=>some ⟨rfl⟩
 | .cons (.nm x) b,y::xs=>do let h ← eqN x y;let h' ← isNms b xs;some ⟨by rw [h.down,h'.down];rfl⟩
 | _,_=>none
noncomputable def isBt (b:Bool):Is? (b=true):=match b with | true=>some ⟨rfl⟩ | false=>none
noncomputable def isBf (b:Bool):Is? (b=false):=match b with | false=>some ⟨rfl⟩ | true=>none
noncomputable def ckAs (t c:CE) (K:Kinds) (ss:List Stmt):Option (PLift (∀ X:Cx,X.Ok→X.kinds=K→SndS X (.as t c) false ss)):=match t with
 | .nm x=>do
  let l ← pS1 ss;let q ← pAs l.1;let n ← pNm2 q.1.1;let hy ← eqS (nameOf x) n.1.1;let hl ← lkI K n.1.1 .local
  (do let hw ← dB (okSw q.1.2.1).isSome;let h ← ck c K 0 q.1.2.1;some ⟨fun X ok hk=>v_asL l.2 q.2 ⟨_,n.2⟩ hw.down hy.down hl.down ok hk (h.down X ok hk)⟩)
   <|> (match c with
    | .comp c tg one rg it cd=>do
     let r ← pLc q.1.2.1;let hq ← dB (n.1.2.line==r.1.2.2.2.2.2.line&&!(r.1.2.2.2.2.1.names.any fun (m,k)=>m==n.1.1&&(k==.local||k==.cell)))
     let h1 ← eqK r.1.2.2.2.2.1.kind .function;let h2 ← dB (ckSc K r.1.2.2.2.2.1.names);let h3 ← dB (ckTg (relK r.1.2.2.2.2.1.names K) one tg r.1.2.1);let h4 ← ck c (relK r.1.2.2.2.2.1.names K) 0 r.1.1
     let h5 ← ((do let h ← pNil r.1.2.2.2.1;let h' ← isTtC cd;some ⟨.inl ⟨h.down,h'.down⟩⟩) <|> (do let x ← p1 r.1.2.2.2.1;let h ← ck cd (relK r.1.2.2.2.2.1.names K) 1 x.1;some ⟨.inr ⟨x.1,x.2,h.down⟩⟩):Option (PLift ((r.1.2.2.2.1=[]∧cd=.tt)∨∃ t,r.1.2.2.2.1=[t]∧∀ X:Cx,X.Ok→X.kinds=relK r.1.2.2.2.2.1.names K→Snd X cd 1 t)))
     (do let hr ← isBf rg;let hi ← dB (okIt r.1.2.2.1).isSome;let h ← ck it K 0 r.1.2.2.1;some ⟨fun X ok hk=>v_comp false hr.down l.2 q.2 n.2 hy.down hl.down r.2 hq.down h1.down h2.down h3.down h4.down h5.down ok hk ⟨hi.down,h.down X ok hk⟩⟩)
      <|> (do let hr ← isBt rg;let f ← pCa r.1.2.2.1;let hg ← isG K (.type "range") f.1.1;let x ← p1 f.1.2.1;let ho ← dB (okArg x.1).isSome;let h ← ck it K 0 x.1;some ⟨fun X ok hk=>v_comp true hr.down l.2 q.2 n.2 hy.down hl.down r.2 hq.down h1.down h2.down h3.down h4.down h5.down ok hk ⟨_,_,_,f.2,hg.down,x.1,x.2,ho.down,h.down X ok hk⟩⟩)
    | _=>none)
 | .nc x=>do let l ← pS1 ss;let q ← pAs l.1;let n ← pNm q.1.1;let hy ← eqS (nameOf x) n.1;let hl ← lkI K n.1 .cell;let h ← ck c K 0 q.1.2.1;some ⟨fun X ok hk=>v_asC l.2 q.2 n.2 hy.down hl.down ok hk (h.down X ok hk)⟩
 | .att o x=>do let l ← pS1 ss;let q ← pAs l.1;let n ← pAt q.1.1;let hy ← eqS (nameOf x) n.1.2.1;let hw ← dB (okSwA q.1.2.1).isSome;let h ← ck c K 0 q.1.2.1;let h' ← ck o K 0 n.1.1;some ⟨fun X ok hk=>v_asA l.2 q.2 n.2 hw.down hy.down ok (h.down X ok hk) (h'.down X ok hk)⟩
 | .sub o i=>do let l ← pS1 ss;let q ← pAs l.1;let n ← pSu q.1.1;let hw ← dB (okSw q.1.2.1).isSome;let h ← ck c K 0 q.1.2.1;let h' ← ck o K 0 n.1.1;let h'' ← ck i K 0 n.1.2;some ⟨fun X ok hk=>v_asS l.2 q.2 n.2 hw.down (h.down X ok hk) (h'.down X ok hk) (h''.down X ok hk)⟩
 | _=>none
structure CkST (c:CS) (K:Kinds) (md:Bool) (ss:List Stmt):Type where
 down:∀ X:Cx,X.Ok→X.kinds=K→SndS X c md ss
noncomputable def ckSF (ckS:(c:CS)→(K:Kinds)→(md:Bool)→(ss:List Stmt)→Option (CkST c K md ss)):(c:CS)→(K:Kinds)→(md:Bool)→(ss:List Stmt)→Option (CkST c K md ss)
 | .nil,K,md,ss=>do let hm ← isBt md;let h ← pS0 ss;some ⟨fun X ok hk=>by rw [hm.down];exact v_nil h.down⟩
 | .cons a b,K,md,ss=>do
  let hm ← isBt md
  (do let h ← pGh a;let h' ← ckS b K true ss;some ⟨fun X ok hk=>by rw [hm.down];exact v_gh (h.down X) (h'.down X ok hk)⟩)
   <|> (do let l ← pSc ss;let h ← ckS a K false [l.1.1];let h' ← ckS b K true l.1.2;some ⟨fun X ok hk=>by rw [hm.down];exact v_cons l.2 (h.down X ok hk) (h'.down X ok hk)⟩)
 | .as t c,K,md,ss=>do let hm ← isBf md;let h ← ckAs t c K ss;some ⟨fun X ok hk=>by rw [hm.down];exact h.down X ok hk⟩
 | .un ct c,K,md,ss=>do let hm ← isBf md;let l ← pS1 ss;let q ← pAs l.1;let n ← pTu q.1.1;let hw ← eqW (swp n.1 q.1.2.1 K) (some none);let hs ← dB (okSw q.1.2.1).isSome;let ho ← dB (n.1.all fun t=>(okTg t).isSome);let hn ← eqN (lenC ct) n.1.length;let h ← ck c K 0 q.1.2.1;let ht ← ckTs ct K n.1;some ⟨fun X ok hk=>by rw [hm.down];exact v_un l.2 q.2 n.2 hw.down hs.down ho.down hn.down ok hk (h.down X ok hk) (ht.down X ok hk)⟩
 | .unt rev ct c,K,md,ss=>do
  let hm ← isBf md;let l ← pS1 ss;let q ← pAs l.1;let n ← pTu q.1.1;let v ← pTu q.1.2.1;let hz ← dB (Nat.ble v.1.length 500);let h ← ck c K 2 (.List v.1 ⟨0,0,0,0⟩)
  (do let hr ← isBf rev;let hw ← eqW (swp n.1 q.1.2.1 K) (some none);let ho ← dB (n.1.all fun t=>(okTg t).isSome);let hn ← eqN v.1.length n.1.length;let ht ← ckTs ct K n.1;some ⟨fun X ok hk=>by rw [hm.down,hr.down];exact v_unt l.2 q.2 n.2 v.2 hw.down hz.down ho.down hn.down ok hk (h.down X ok hk) (ht.down X ok hk)⟩)
   <|> (do let hr ← isBt rev;let hx ← isNms ct (nmsC ct);let hw ← eqW (swp n.1 q.1.2.1 K) (some (some ((nmsC ct).reverse.map nameOf)));let ho ← dB ((nmsC ct).all fun x=>K.lookup (nameOf x)==some .local);let hn ← eqN v.1.length (nmsC ct).length;some ⟨fun X ok hk=>by rw [hm.down,hr.down];exact v_asw l.2 q.2 n.2 v.2 hx.down hw.down hz.down ho.down hn.down ok hk (h.down X ok hk)⟩)
 | .ex c,K,md,ss=>do let hm ← isBf md;let l ← pS1 ss;let q ← pEx l.1;let hw ← dB (okSw q.1).isSome;let h ← ck c K 0 q.1;some ⟨fun X ok hk=>by rw [hm.down];exact v_ex l.2 q.2 hw.down ok (h.down X ok hk)⟩
 | .ifs c a b,K,md,ss=>do let hm ← isBf md;let l ← pS1 ss;let q ← pIfS l.1;let h ← ck c K 1 q.1.1;let h1 ← ckS a K true q.1.2.1;let h2 ← ckS b K true q.1.2.2;some ⟨fun X ok hk=>by rw [hm.down];exact v_if l.2 q.2 (h.down X ok hk) (h1.down X ok hk) (h2.down X ok hk)⟩
 | .for_ gc xs one rg c b,K,md,ss=>do
  let hm ← isBf md;let l ← pS1 ss;let q ← pFo l.1;let ht ← dB (ckTg K one xs q.1.1);let h1 ← ckS b K true q.1.2.2
  (do let hr ← isBf rg;let hi ← dB (okIt q.1.2.1).isSome;let h ← ck c K 0 q.1.2.1;some ⟨fun X ok hk=>by rw [hm.down];exact v_for l.2 q.2 hr.down hi.down ht.down ok hk (h.down X ok hk) (h1.down X ok hk)⟩)
   <|> (do let hr ← isBt rg;let f ← pCa q.1.2.1;let hg ← isG K (.type "range") f.1.1;let x ← p1 f.1.2.1;let ho ← dB (okArg x.1).isSome;let h ← ck c K 0 x.1;some ⟨fun X ok hk=>by rw [hm.down];exact v_forR l.2 q.2 hr.down f.2 hg.down x.2 ho.down ht.down ok hk (h.down X ok hk) (h1.down X ok hk)⟩)
 | .wh c b,K,md,ss=>do let hm ← isBf md;let l ← pS1 ss;let q ← pWh l.1;let h ← ck c K 1 q.1.1;let h1 ← ckS b K true q.1.2;some ⟨fun X ok hk=>by rw [hm.down];exact v_wh l.2 q.2 ok (h.down X ok hk) (h1.down X ok hk)⟩
 | .ret c,K,md,ss=>do let hm ← isBf md;let l ← pS1 ss;let q ← pRe l.1;let h ← ck c K 0 q.1;some ⟨fun X ok hk=>by rw [hm.down];exact v_ret l.2 q.2 (h.down X ok hk)⟩
 | .ret0,K,md,ss=>do let hm ← isBf md;let l ← pS1 ss;let q ← pR0 l.1;some ⟨fun X ok hk=>by rw [hm.down];exact v_ret0 l.2 q.down⟩
 | .brk,K,md,ss=>do let hm ← isBf md;let l ← pS1 ss;let q ← pBr l.1;some ⟨fun X ok hk=>by rw [hm.down];exact v_brk l.2 q.down⟩
 | .cont,K,md,ss=>do let hm ← isBf md;let l ← pS1 ss;let q ← pCo l.1;some ⟨fun X ok hk=>by rw [hm.down];exact v_cont l.2 q.down⟩
 | .stop,K,md,ss=>some ⟨fun X ok hk=>v_stop⟩
 | .kp _,_,_,_=>none
 | .kc _,_,_,_=>none
 | .fzv _,_,_,_=>none
 | .fzn _,_,_,_=>none
 | .shf _,_,_,_=>none
 | .lab b,K,md,ss=>do let hm ← isBt md;let h ← ckS b K true ss;some ⟨fun X ok hk=>by rw [hm.down];exact v_lab (h.down X ok hk)⟩
noncomputable def ckSG:Nat→(c:CS)→(K:Kinds)→(md:Bool)→(ss:List Stmt)→Option (CkST c K md ss)
 | 0,_,_,_,_=>none
 | n+1,c,K,md,ss=>ckSF (ckSG n) c K md ss
noncomputable abbrev ckS:(c:CS)→(K:Kinds)→(md:Bool)→(ss:List Stmt)→Option (CkST c K md ss):=ckSG 90
section
variable {prog:Program} {w:World} {A:Around} {E:Value→Shared→Prop} {hE:Heap} {s₀ s s₁:Shared} {R₀ c c' R R':List Ch} {K:Frag} {gs bs:Nt.Loc} {n:Nat}
theorem St.into (S:St w hE s₀ [] R₀ c R s) (S':St w hE s (fps c) R c' R' s₁):St w hE s₀ [] R₀ c' R' s₁:=by
 have off:∀ b o,s₀.heap.get? b=some o→b∉fps c:=fun b o e hb=>by
  rcases (S.ownf b hb).2.1 with h | h
  ·rw [h] at e;cases e
  ·cases h
 have up:∀ b,s.heap.get? b=none→s₀.heap.get? b=none:=fun b h=>by
  cases e:s₀.heap.get? b with
  | none=>rfl
  | some o=>have:=S.keep b o e (fun h=>nomatch h);rw [h] at this;cases this
 refine ⟨S'.base,fun b o e _=>S'.keep b o (S.keep b o e fun h=>nomatch h) (off b o e),fun _ h=>(nomatch h),S'.own,S'.fz,S'.nd,fun a ha=>⟨(S'.ownf a ha).1,.inl ?_,(S'.ownf a ha).2.2⟩,fun p hp=>S'.sub p (S.sub p hp),fun p hp=>?_,
  S'.gens.trans S.gens,S'.os.trans S.os,S'.drawn.trans S.drawn⟩
 ·rcases (S'.ownf a ha).2.1 with h | h
  ·exact up a h
  ·rcases (S.ownf a h).2.1 with h | h
   ·exact h
   ·cases h
 ·rcases S'.fresh p hp with h | h
  ·exact S.fresh p h
  ·exact .inr fun a ha=>up a (h a ha)
theorem callS {a:Addr} {ps:List Str} {kinds:Kinds} {body:List Stmt} {args full:List Value} {Q:Value→Shared→Prop} (fl:List Bool) (cn:List Str) (D:DefX hE a ps kinds body args full) (G:Gl K hE gs bs) (hr:Rm A n) (S:St w hE s₀ [] R₀ c R s) (ok:okDef fl ps kinds cn=true)
  (h:∀ env L s₁ cells,EnvOk env L kinds cells→cells.map (·.1)=cn→St w hE s₀ [] R₀ (.frm L (rzL fl ps full [])::(cells.map fun q=>Ch.cell q.2 (look (rzC fl ps full []) q.1))++c) R s₁ →
   wpAny (model prog w) (A.deeper env) (execs body env) (fun f s'=>Q (retOf f) s') (fun _ _=>False) s₁):wpAny (model prog w) A (PySem.call (.ref a) args) Q E s :=
 wpAny_call (code_in1X (own₀:=c) fl cn D G hr (S.cl fun a h=>h) S.own S.nd rfl ok fun env L s₁ cells V hc S'=>h env L s₁ cells V hc (St.into S S'))
theorem dep_le {d w n:Nat} (h:w≤2) (h2:d+2 * (n+1+1)≤900):d+w+2 * (n+1)≤900:=Nat.le_trans (by rw [Nat.add_assoc,Nat.add_comm w];exact Nat.add_le_add_left (Nat.add_le_add_left h _) _) h2
theorem makeS {C fI:Addr} {names:List Str} {ps:List Str} {kinds:Kinds} {body:List Stmt} {args full:List Value} {Q:Value→Shared→Prop} (fl:List Bool) (cn:List Str) (k:Klass K C fI names) (D:∀ x:Addr,DefX hE fI ps kinds body (.ref x::args) (.ref x::full)) (G:Gl K hE gs bs) (hr:Rm A (n+2)) (S:St w hE s₀ [] R₀ c R s)
  (ok:okDef fl ps kinds cn=true)
  (h:∀ env L x dx s₁ cells A',Rm A' n→EnvOk env L kinds cells→cells.map (·.1)=cn →
   St w hE s₀ [] R₀ (.frm L (rzL fl ps (.ref x::full) [])::(cells.map fun q=>Ch.cell q.2 (look (rzC fl ps (.ref x::full) []) q.1))++(.inst x dx C []::c)) R s₁ →
   wpAny (model prog w) A' (execs body env) (fun f s'=>retOf f=.none∧Q (.ref x) s') (fun _ _=>False) s₁) :
  wpAny (model prog w) A (PySem.call (.ref C) args) Q E s:=by
 obtain ⟨hh,g,d,t,os⟩:=s
 refine wpAny_call ?_
 have X:K.In hh:=G.X.keeps S.base
 have hs0:hh.get? hh.objs.size=none:=by
  cases q:hh.get? hh.objs.size with
  | none=>rfl
  | some o=>exact absurd (Heap.lt_size q) (Nat.lt_irrefl _)
 have hs1:hh.get? (hh.objs.size+1)=none:=by
  cases q:hh.get? (hh.objs.size+1) with
  | none=>rfl
  | some o=>exact absurd (Heap.lt_size q) (Nat.not_lt.mpr (Nat.le_succ _))
 refine make_core (makes_of X k.made) (looks_findIn X k.init) (fun self=>bind_fn X self k.fn) (.inl rfl) ?_
 have kk:∀ b o,hh.get? b=some o→((hh.push emptyDict).push (instObj C hh.objs.size)).get? b=some o:=fun b o e=>Heap.get?_push_of_some _ (Heap.get?_push_of_some _ e)
 have ai:(Ch.inst (hh.objs.size+1) hh.objs.size C []).At w ((hh.push emptyDict).push (instObj C hh.objs.size)):=by
  refine ⟨?_,[],0,?_,Ents.nil⟩
  ·have:=Heap.get?_push_size (hh.push emptyDict) (o:=instObj C hh.objs.size) rfl
   rwa [Heap.size_push] at this
  ·exact Heap.get?_push_of_some _ (Heap.get?_push_size hh (o:=emptyDict) rfl)
 have S1:St w hE s₀ [] R₀ (.inst (hh.objs.size+1) hh.objs.size C []::c) R ⟨(hh.push emptyDict).push (instObj C hh.objs.size),g,d,t,os⟩ :=
  S.alloc kk ai (fun a ha=>by
   simp only [Ch.fp,List.mem_cons,List.not_mem_nil,or_false] at ha
   rcases ha with rfl | rfl
   ·exact hs1
   ·exact hs0) (by simp [Ch.fp]) rfl rfl rfl
 have w1:(Code.builtin "type.__call__" ⟨.ref C::args,[]⟩).weight≤2:=by
  delta Code.weight
  have:(Code.builtin "type.__call__" ⟨.ref C::args,[]⟩).frames=0:=rfl
  rw [this]
  have c1:(Code.builtin "type.__call__" ⟨.ref C::args,[]⟩).isCaller=false:=rfl
  have c2:(Code.builtin "type.__call__" ⟨.ref C::args,[]⟩).isGuard=false:=by show guardIds.contains "type.__call__"=false;decide +kernel
  rw [c1,c2];split<;>simp
 have r':Rm (A.under (.builtin "type.__call__" ⟨.ref C::args,[]⟩)) (n+1):=by
  refine ⟨?_,?_,hr.h⟩
  ·exact dep_le w1 hr.d
  ·exact Nat.le_trans (by show A.units+1+40 * (n+1)≤_;rw [Nat.add_assoc,Nat.add_comm 1];exact Nat.add_le_add_left (Nat.add_le_add_left (by decide:1≤40) _) _) hr.u
 refine code_in1X (own₀:=.inst (hh.objs.size+1) hh.objs.size C []::c) fl cn (D _) G r' (S1.cl fun a h=>h) S1.own S1.nd rfl ok fun env L s₁ cells V hc S'=>?_
 refine wpAny_mono (h env L _ _ s₁ cells _ (r'.deeper env) V hc (St.into S1 S')) (fun f s' z=>?_) fun _ _ z=>z
 exact ⟨z.1,z.2⟩
end
noncomputable def initK:List Bool→List Nat→List AV→Fr→Fr→(Fr→Fr→Prop)→Prop
 | [],[],[],fr,cl,k=>k fr cl
 | true::fl,x::xs,v::vs,fr,cl,k=>putK fr x v fun fr=>initK fl xs vs fr cl k
 | false::fl,x::xs,v::vs,fr,cl,k=>putK cl x v fun cl=>initK fl xs vs fr cl k
 | _,_,_,_,_,_=>False
noncomputable def InR {w:World} (g:GS w) (fl:List Bool) (xs:List Nat) (vs:List Value) (cl:Fr) (m mc:Nt.Loc) (fr' cl':Fr):Prop:=FrR g fr' (rzL fl (xs.map nameOf) vs m)∧FrR g cl' (rzC fl (xs.map nameOf) vs mc)∧∀ x v,cl'.lookup x=some v→cl.lookup x=some v∨(x,false)∈xs.zip fl
theorem initK_of {w:World} {g:GS w}:∀ {fl:List Bool} {xs:List Nat} {as:List AV} {vs:List Value} {fr cl:Fr} {m mc:Nt.Loc} {k:Fr→Fr→Prop},initK fl xs as fr cl k→L2 (AR g) as vs→FrR g fr m→FrR g cl mc →
  ∃ fr' cl',k fr' cl'∧InR g fl xs vs cl m mc fr' cl':=fun {fl}=>by
 induction fl with
 | nil =>
  intro xs as vs fr cl m mc k h ha h1 h2
  cases xs with
  | nil=>cases as with
   | nil=>obtain rfl:vs=[]:=ha;exact ⟨fr,cl,h,h1,h2,fun x v e=>.inl e⟩
   | cons _ _=>exact h.elim
  | cons _ _=>exact h.elim
 | cons b fl ih =>
  intro xs as vs fr cl m mc k h ha h1 h2
  cases xs with
  | nil=>cases b<;>exact h.elim
  | cons x xs=>cases as with
   | nil=>cases b<;>exact h.elim
   | cons v as =>
    obtain ⟨u,us,rfl,hv,hus⟩:=ha
    cases b with
    | true =>
     obtain ⟨fr',cl',q1,q2,q3,q4⟩:=ih (putK_of h) hus (h1.put hv) h2
     exact ⟨fr',cl',q1,q2,q3,fun x v e=>(q4 x v e).imp id (.tail _)⟩
    | false =>
     obtain ⟨fr',cl',q1,q2,q3,q4⟩:=ih (putK_of h) hus h1 (h2.put hv)
     refine ⟨fr',cl',q1,q2,q3,fun y z e=>(q4 y z e).elim (fun h=>?_) fun h=>.inr (.tail _ h)⟩
     rw [lookup_put] at h
     by_cases hy:y=x
     ·exact .inr (hy▸.head _)
     ·rw [if_neg hy] at h;exact .inl h
theorem cells_map {g:Str→Option Value} {l:List (Str×Addr)}:Cells l (l.map fun q=>Ch.cell q.2 (g q.1)):=by
 induction l with
 | nil=>rfl
 | cons _ _ ih=>exact ⟨_,_,rfl,ih⟩
noncomputable def okEnt (f:Nat) (fl:List Bool) (xs cn:List Nat) (cs:CS):Bool:=okDef fl (xs.map nameOf) (rowOf f).2.1 (cn.map nameOf)&&((rowOf f).1==xs.map nameOf)&&((xs.zip fl).all fun q=>q.2||memN cn q.1)&&(ckS cs (rowOf f).2.1 true (rowOf f).2.2).isSome
theorem body_of {X:Cx} (ok:X.Ok) {f:Nat} {fl:List Bool} {xs cn:List Nat} {cs:CS} {g:GS X.w} {rest:List Ch} {mem:Mem} {full:List AV} {us:List Value} {s:Shared} {E:Value→Shared→Prop} {Q:Flow→Shared→Prop} {kf:Fl→Mem→Prop} (e:okEnt f fl xs cn cs=true) (hk:X.kinds=(rowOf f).2.1) (hc:X.cells.map (·.1)=cn.map nameOf)
  (S:St X.w X.T.hE X.s₀ [] X.R₀ (.frm X.L (rzL fl (xs.map nameOf) us [])::(X.cells.map fun q=>Ch.cell q.2 (look (rzC fl (xs.map nameOf) us []) q.1))++(g.chs++rest)) g.R s) (hm:MemL g g.al mem g.chs) (hus:L2 (AR g) full us)
  (h:initK fl xs full [] [] fun fr cl=>sx X.T X.r cs fr cl mem fun f _ _ mem=>kf f mem)
  (kk:∀ f mem' u s' (g':GS X.w),kf f mem'→St X.w X.T.hE X.s₀ [] X.R₀ (g'.chs++rest) g'.R s'→MemL g' g'.al mem' g'.chs→Ext g g'→FlR g' f u→Q u s'):WP X (execs (rowOf f).2.2 X.env) Q E s:=by
 obtain ⟨e,e4⟩:=and_of e
 obtain ⟨e,e3⟩:=and_of e
 obtain ⟨p,hp⟩:=Option.isSome_iff_exists.mp e4
 obtain ⟨fr,cl,h,h1,h2,h3⟩:=initK_of (g:=g) (m:=[]) (mc:=[]) h hus (fun x v e=>by cases e) (fun x v e=>by cases e)
 refine (p.down X ok hk) E Q s ⟨rest,fr,cl,_,_⟩ mem g _ ⟨S,h1,fun x v a e ha=>?_,hm⟩ cells_map h fun f fr' cl' mem' u s' g' m cc hk P' _ X' hu=>kk f mem' u s' g' hk (thin P'.st (.cons _ (List.sublist_append_right _ _))) P'.mem X' hu
 obtain ⟨u,h4,h5⟩:=h2 x v e
 exact ⟨u,List.mem_map.mpr ⟨_,lookup_mem ha,by rw [h4]⟩,h5⟩
theorem cel_of {kinds:Kinds} {cells:List (Str×Addr)} {cn:List Str} (hc:cells.map (·.1)=cn) (h:(kinds.all fun q=>q.2 != .cell||cn.contains q.1)=true) (y:Str) (hy:kinds.lookup y=some .cell):∃ a,cells.lookup y=some a:=by
 have h1:=List.all_eq_true.mp h _ (lookup_mem hy)
 have h2:y∈cells.map (·.1):=by rw [hc];simpa using h1
 obtain ⟨q,hq,e⟩:=List.mem_map.mp h2
 cases r:cells.lookup y with
 | some a=>exact ⟨a,rfl⟩
 | none=>exact absurd (List.lookup_eq_none_iff.mp r q hq) (by rw [e];simp)
noncomputable def dfl (d:Bool) (as:List AV):List AV:=match d with | true=>as++[.t .none] | false=>as
noncomputable def dflV (d:Bool) (as:List Value):List Value:=match d with | true=>as++[.none] | false=>as
noncomputable def okD (d:Bool) (f:Nat):Bool:=match d with | true=>memN ddl f | false=>memN dad f
theorem dfl_of {w:World} {g:GS w} {as:List AV} {us:List Value} (d:Bool) (ha:L2 (AR g) as us):L2 (AR g) (dfl d as) (dflV d us):=by
 cases d with
 | true=>exact L2.app (show L2 (AR g) [.t .none] [.none] from ⟨_,[],rfl,rfl,rfl⟩) ha
 | false=>exact ha
theorem defX_of {T:Top} {w:World} (W:Kn T w) {d:Bool} {f:Nat} {us:List Value} {xs:List Nat} (h:okD d f=true) (hp:((rowOf f).1==xs.map nameOf)=true) (hn:(dflV d us).length=xs.length) :
  DefX T.hE f (xs.map nameOf) (rowOf f).2.1 (rowOf f).2.2 us (dflV d us):=by
 have hp:=beq_iff_eq.mp hp
 cases d with
 | true =>
  have:=(W.dd f (memN_of h)).d us (by rw [hp,List.length_map,← hn];simp [dflV])
  rw [hp] at this;exact this
 | false =>
  have:=W.d f (memN_of h) us (by rw [hp,List.length_map,← hn];rfl)
  rw [hp] at this;exact this
theorem initK_len:∀ {fl:List Bool} {xs:List Nat} {as:List AV} {fr cl:Fr} {k:Fr→Fr→Prop},initK fl xs as fr cl k→as.length=xs.length:=fun {fl}=>by
 induction fl with
 | nil=>intro xs as fr cl k h;cases xs<;>cases as<;>first | rfl | exact h.elim
 | cons b fl ih =>
  intro xs as fr cl k h
  cases xs with
  | nil=>cases b<;>exact h.elim
  | cons x xs=>cases as with
   | nil=>cases b<;>exact h.elim
   | cons v as=>cases b<;>exact congrArg Nat.succ (ih (putK_of h))
noncomputable def retK (k:AV→Mem→Prop) (f:Fl) (mem:Mem):Prop:=match f with | .ret v=>k v mem | .next=>k (.t .none) mem | _=>False
noncomputable def nxtK (k:Mem→Prop) (f:Fl) (mem:Mem):Prop:=match f with | .next=>k mem | _=>False
noncomputable def okDf (d:Bool) (f:Nat) (fl:List Bool) (xs cn:List Nat) (cs:CS):Bool:=okD d f&&okEnt f fl xs cn cs&&((rowOf f).2.1.all fun q=>q.2 != .cell||(cn.map nameOf).contains q.1)
section
variable {T:Top} {r:Nat} {f:Nat} {as:List AV} {ts:List TV} {mem:Mem} {cs:CS}
theorem enter {k:AV→Mem→Prop} (cs:CS) (fl:List Bool) (xs cn:List Nat) (d:Bool) (ok:okDf d f fl xs cn cs=true) (h:initK fl xs (dfl d as) [] [] fun fr cl=>sx T r cs fr cl mem fun f _ _ mem=>retK k f mem):CALL T (r+1) (.ref f) as mem k:=by
 refine ⟨fun w A s₀ R₀ E Q s g rest vs rm W S hm ha kk=>?_⟩
 obtain ⟨ok,o3⟩:=and_of ok
 obtain ⟨o1,o2⟩:=and_of ok
 obtain ⟨q1,q2⟩:=and_of (and_of (and_of o2).1).1
 have hus:=dfl_of d ha
 refine callS fl (cn.map nameOf) (defX_of W o1 q2 (hus.len.trans (initK_len h))) W.G rm S q1 fun env L s₁ cells V hc S1=>?_
 have okX:(Cx.mk T w (A.deeper env) s₀ R₀ env L (rowOf f).2.1 cells r).Ok:=⟨V,W,rm.deeper env,cel_of hc o3⟩
 refine body_of okX o2 rfl hc S1 hm hus h fun f mem' u s' g' hk S' hm' X' hu=>?_
 cases f with
 | next=>cases hu;exact kk _ mem' _ s' g' hk S' hm' X' rfl
 | ret v=>obtain ⟨z,rfl,hz⟩:=hu;exact kk v mem' z s' g' hk S' hm' X' hz
 | _=>exact hk.elim
theorem maker {C:Nat} {k:AV→Mem→Prop} (f:Nat) (cs:CS) (fl:List Bool) (xs cn:List Nat) (d:Bool) (hC:ctab.contains (C,f)=true) (ok:okDf d f fl xs cn cs=true)
  (h:snocK mem (.inst C [] []) fun n mem=>initK fl xs (dfl d (.ref n::as)) [] [] fun fr cl=>sx T r cs fr cl mem fun f _ _ mem=>nxtK (k (.ref n)) f mem):CALL T (r+2) (.ref C) as mem k:=by
 refine ⟨fun w A s₀ R₀ E Q s g rest vs rm W S hm ha kk=>?_⟩
 have h:=snocK_of h
 obtain ⟨ok,o3⟩:=and_of ok
 obtain ⟨o1,o2⟩:=and_of ok
 obtain ⟨q1,q2⟩:=and_of (and_of (and_of o2).1).1
 have dv:∀ x:Addr,dflV d (.ref x::vs)=.ref x::dflV d vs:=fun x=>by cases d<;>rfl
 have hl:∀ x:Addr,(dflV d (.ref x::vs)).length=xs.length:=fun x=>by
  rw [← initK_len h];cases d<;>simp [dflV,dfl,ha.len]
 have hCf:(C,f)∈ctab:=by simpa using hC
 refine makeS (full:=dflV d vs) fl (cn.map nameOf) (W.c _ hCf) (fun x=>dv x▸defX_of W o1 q2 (hl x)) W.G rm S q1 fun env L x dx s₁ cells A' rm' V hc S1=>?_
 have okX:(Cx.mk T w A' s₀ R₀ env L (rowOf f).2.1 cells r).Ok:=⟨V,W,rm',cel_of hc o3⟩
 have OO:OR (g.own x (.inst x dx C [])) x (.inst C [] []) [.inst x dx C []]:=⟨dx,[],[],rfl,Nat.le_refl _,.nil,⟨fun _ _=>rfl,fun _ h=>(nomatch h),rfl⟩,rfl⟩
 have hx:AR (g.own x (.inst x dx C [])) (.ref mem.length) (.ref x):=⟨x,by show (g.al++[x])[mem.length]?=some x;rw [← hm.len];simp,rfl⟩
 have hus:=dfl_of d (show L2 (AR (g.own x (.inst x dx C []))) (.ref mem.length::as) (.ref x::vs) from ⟨_,_,rfl,hx,ha.mono .own⟩)
 rw [dv] at hus
 refine wpAny_mono (body_of (g:=g.own x (.inst x dx C [])) (rest:=rest) (Q:=fun f s'=>retOf f=.none∧Q (.ref x) s') okX o2 rfl hc (S1.perm (.cons _ (.append_left _ ?_))) ((hm.mono .own).snoc OO) hus h fun f mem' u s' g' hk S' hm' X' hu=>?_) (fun _ _ h=>h) fun _ _ h=>h
 ·show (Ch.inst x dx C []::(g.chs++rest)).Perm ((g.chs++[.inst x dx C []])++rest)
  rw [List.append_assoc];exact List.perm_middle.symm
 ·cases f with
  | next=>cases hu;exact ⟨rfl,kk _ mem' _ s' g' hk S' hm' (Ext.own.trans X') (hx.mono X')⟩
  | _=>exact hk.elim
noncomputable def endF (p:Bool) (P:TV→Prop) (v:AV) (mem:Mem):Prop:=fzK 9 mem v fun u mem=>okP p mem (P u)
theorem enterF {p:Bool} {P:TV→Prop} (cs:CS) (fl:List Bool) (xs cn:List Nat) (d:Bool) (ok:okDf d f fl xs cn cs=true) (h:initK fl xs (dfl d (arg0 p ts)) [] [] fun fr cl=>sx T r cs fr cl (mem0 p) fun f _ _ mem=>retK (endF p P) f mem):FN T (r+1) p f ts P:=⟨enter cs fl xs cn d ok h⟩
theorem makerF {C:Nat} {P:TV→Prop} (f:Nat) (cs:CS) (fl:List Bool) (xs cn:List Nat) (d:Bool) (hC:ctab.contains (C,f)=true) (ok:okDf d f fl xs cn cs=true)
  (h:initK fl xs (dfl d (.ref 0::ts.map .t)) [] [] fun fr cl=>sx T r cs fr cl [.inst C [] []] fun f _ _ mem=>nxtK (endF false P (.ref 0)) f mem):FN T (r+2) false C ts P:=⟨maker f cs fl xs cn d hC ok h⟩
end
set_option genCtorIdx false in
inductive V where
 | nul
 | int (i:Int)
 | txt
noncomputable def V.t:V→TV
 | .nul=>.none | .int i=>.int i | .txt=>.str "t"
inductive Op where
 | eq | lt | le | gt | ge | ne
noncomputable def Op.str:Op→Str
 | .eq=>"=" | .lt=>"<" | .le=>"<=" | .gt=>">" | .ge=>">=" | .ne=>"<>"
set_option genCtorIdx false in
inductive O where
 | lit (x:V)
 | name (n:Nat) (p:Int)
inductive Cd where
 | cmp (op:Op) (a b:O)
 | bet (a lo hi:O)
 | inl (a:O) (xs:List O)
 | or (op:Op) (a b:O) (op':Op) (a' b':O)
noncomputable def als (n:Nat):Str:=if n=0 then "x" else if n=1 then "y" else "z"
noncomputable def coln (p:Int):Str:=if p=-1 then "rowid" else if p=0 then "a" else if p=1 then "b" else "c"
noncomputable def affn:Bool→Str
 | true=>"integer" | false=>"blob"
noncomputable abbrev neg (p:Int):Bool:=decide (p<0)
noncomputable def O.t:O→TV
 | .lit x=>.obj 90 [17] [x.t]
 | .name n p=>.obj 116 [22,37,43,21,55,56,44] [.str (als n),.str (coln p),.int n,.int p,.int 0,.str (affn (neg p)),.str "binary"]
noncomputable def cmpT (op:Op) (a b:O):TV:=.obj 168 [16,9,10] [.str op.str,a.t,b.t]
noncomputable def Cd.t:Cd→TV
 | .cmp op a b=>cmpT op a b
 | .bet a lo hi=>.obj 194 [17,28,29,78] [a.t,lo.t,hi.t,.bool false]
 | .inl a xs=>.obj 220 [17,19,78] [a.t,.lst (xs.map O.t),.bool false]
 | .or op a b op' a' b'=>.obj 168 [16,9,10] [.str "or",cmpT op a b,cmpT op' a' b']
set_option genCtorIdx false in
inductive Bd where
 | cmp (p:Int) (op:Op) (o:O)
 | inl (p:Int) (os:List O)
noncomputable def Bd.place:Bd→Int
 | .cmp p _ _=>p
 | .inl p _=>p
noncomputable def Bd.str:Bd→Str
 | .cmp _ op _=>op.str
 | .inl _ _=>"in"
noncomputable def O.isR:O→Bool
 | .lit _=>false
 | .name _ p=>neg p
noncomputable def ledT:Bool→Bool→TV
 | true,false=>.str "numeric"
 | _,_=>.none
noncomputable def Bd.t:Bd→TV
 | .cmp p op o=>.obj 581 [21,16,17,56,44] [.int p,.str op.str,o.t,ledT (neg p) o.isR,.str "binary"]
 | .inl p os=>.obj 581 [21,16,17,56,44] [.int p,.str "in",.lst (os.map O.t),ledT (neg p) false,.str "binary"]
noncomputable def optT {α:Type} (f:α→TV):Option α→TV
 | none=>.none
 | some a=>f a
noncomputable def tabT (name:Str) (ixs cols:List TV):TV:=.obj 1091 [7,115,41,119,120,121,118,122] [.str name,.int 2,.lst cols,.none,.lst ixs,.lst [],.str "",.lst []]
noncomputable def fitT (p:Int) (cv tab:TV):TV:=.tup [.int p,.bool (neg p),cv,tab]
noncomputable def rank:V→Option (Int×Int)
 | .nul=>none
 | .int i=>some (0,i)
 | .txt=>some (1,0)
noncomputable def plt (a b:Int×Int):Bool:=decide (a.1<b.1)||(decide (a.1=b.1)&&decide (a.2<b.2))
noncomputable def peq (a b:Int×Int):Bool:=decide (a.1=b.1)&&decide (a.2=b.2)
noncomputable def cmpP (op:Op) (a b:Int×Int):Bool :=
 match op with
 | .eq=>peq a b
 | .ne=>!peq a b
 | .lt=>plt a b
 | .le=>plt a b||peq a b
 | .gt=>plt b a
 | .ge=>plt b a||peq a b
noncomputable def cmpV (op:Op) (x y:V):Option Bool:=match rank x,rank y with
 | some a,some b=>some (cmpP op a b)
 | _,_=>none
noncomputable def yes (op:Op) (x y:V):Bool:=match cmpV op x y with | some b=>b | none=>false
noncomputable abbrev Rows:=Nat→Int→V
noncomputable def evO (rows:Rows):O→V
 | .lit x=>x
 | .name n p=>rows n p
noncomputable def evC (rows:Rows):Cd→Bool
 | .cmp op a b=>yes op (evO rows a) (evO rows b)
 | .bet a lo hi=>yes .ge (evO rows a) (evO rows lo)&&yes .le (evO rows a) (evO rows hi)
 | .inl a xs=>xs.any fun o=>yes .eq (evO rows a) (evO rows o)
 | .or op a b op' a' b'=>yes op (evO rows a) (evO rows b)||yes op' (evO rows a') (evO rows b')
noncomputable def O.nums:O→List Nat
 | .lit _=>[]
 | .name n _=>[n]
noncomputable def Cd.nums:Cd→List Nat
 | .cmp _ a b=>a.nums++b.nums
 | .bet a lo hi=>a.nums++lo.nums++hi.nums
 | .inl a xs=>a.nums++xs.flatMap O.nums
 | .or op a b op' a' b'=>(a.nums++b.nums)++(a'.nums++b'.nums)
noncomputable def O.ok (k:Nat):O→Prop
 | .lit _=>True
 | .name n p=>n<k∧-1≤p∧p≤2
noncomputable def Cd.ok (k:Nat):Cd→Prop
 | .cmp _ a b=>a.ok k∧b.ok k
 | .bet a lo hi=>a.ok k∧lo.ok k∧hi.ok k
 | .inl a xs=>a.ok k∧(∀ o∈xs,o.ok k)∧xs.length≤3
 | .or op a b op' a' b'=>(a.ok k∧b.ok k)∧a'.ok k∧b'.ok k
noncomputable def rowT (rows:Rows) (n:Nat):TV:=.tup [(rows n (-1)).t,(rows n 0).t,(rows n 1).t,(rows n 2).t]
noncomputable def rowsT (rows:Rows) (k:Nat):TV:=.lst ((List.range k).map (rowT rows))
inductive Pk where
 | scan | rowid | range | index
noncomputable def Pk.str:Pk→Str
 | .scan=>"scan" | .rowid=>"rowid" | .range=>"rowid_range" | .index=>"index"
structure Ix where
 nm:Str
 tn:Str
 cols:List (Int×Bool)
 uq:Bool
noncomputable def colT (q:Int×Bool):TV:=.tup [.int q.1,.str "binary",.bool q.2]
noncomputable def Ix.t (x:Ix):TV:=.obj 1051 [7,22,115,41,116,117,118] [.str x.nm,.str x.tn,.int 3,.lst (x.cols.map colT),.bool x.uq,.str "c",.str ""]
structure Pd where
 kind:Pk
 ix:Option Ix
 eqs:List O
 low:Option (O×Bool)
 high:Option (O×Bool)
 inl:Option (List O)
structure Jk where
 a:TV
 b:TV
 c:TV
 d:TV
 cov:TV
 ds:TV
 sg:TV
 rows:Int
 cost:Int
noncomputable def endT:Option (O×Bool)→TV
 | none=>.none
 | some e=>.tup [e.1.t,.bool e.2]
noncomputable def osT (l:List O):TV:=.lst (l.map O.t)
noncomputable abbrev PX:List Nat:=[58,38,33,97,28,29,98,99,100,101,42,102,31,32,35]
noncomputable def pathT (q:Pd×Jk):TV:=.obj 712 PX [.str q.1.kind.str,optT Ix.t q.1.ix,osT q.1.eqs,q.2.a,endT q.1.low,endT q.1.high,q.2.b,q.2.c,optT osT q.1.inl,q.2.d,q.2.cov,q.2.ds,q.2.sg,.int q.2.rows,.int q.2.cost]
noncomputable def endOp:Bool→Bool→Op
 | true,true=>.le | true,false=>.lt | false,true=>.ge | false,false=>.gt
noncomputable def endOk (rows:Rows) (v:V) (up:Bool):Option (O×Bool)→Bool
 | none=>true
 | some e=>yes (endOp up e.2) v (evO rows e.1)
noncomputable def Pd.places (pd:Pd):List Int:=match pd.ix with | none=>[-1] | some ix=>ix.cols.map (·.1)
noncomputable def eqOk (rows:Rows) (n:Nat):List O→List Int→Bool
 | o::os,p::ps=>yes .eq (rows n p) (evO rows o)&&eqOk rows n os ps
 | _,_=>true
noncomputable def inPath (rows:Rows) (n:Nat) (pd:Pd):Prop :=
 pd.kind=.scan∨eqOk rows n pd.eqs pd.places=true∧(pd.eqs.length=pd.places.length ∨
  ∃ p,pd.places[pd.eqs.length]?=some p∧match pd.inl with
  | some os=>(os.any fun o=>yes .eq (rows n p) (evO rows o))=true
  | none=>endOk rows (rows n p) false pd.low=true∧endOk rows (rows n p) true pd.high=true)
noncomputable def columnT (x:Str):TV:=.obj 1018 [7,6,56,44,113,114] [.str x,.none,.str "blob",.str "binary",.bool false,.none]
noncomputable def ctupT (x:Str):TV:=.tup [.str x,.str "blob",.str "binary"]
structure Sc where
 n:Nat
 left:Bool
 ixs:List Ix
 on:Option Cd
noncomputable def kindW:Bool→Str
 | true=>"left" | false=>"inner"
noncomputable def tab (n:Nat) (ixs:List Ix):TV:=tabT (als n) (ixs.map Ix.t) [columnT "a",columnT "b",columnT "c"]
noncomputable def Sc.t (s:Sc):TV:=.obj 976 [15,57,22,41,79,58,59,60,112] [.int s.n,.str (als s.n),tab s.n s.ixs,.lst [ctupT "a",ctupT "b",ctupT "c"],.none,.str (kindW s.left),.none,optT Cd.t s.on,.lst []]
theorem br {b:Bool} {p q:Prop} (h:b=true→p) (h':b=false→q):brK b p q:=by cases b;exact h' rfl;exact h rfl
section
variable {α σ:Type}
theorem forL_ind {gc:Nat} {turn:AV→Fr→Fr→Mem→(Fl→Fr→Fr→Mem→Prop)→Prop} {k:Fl→Fr→Fr→Mem→Prop} (f:α→AV) (F C:σ→Fr) (M:σ→Mem) (I:List α→σ→Prop) (h0:∀ s,I [] s→k .next (F s) (C s) (M s))
  (h1:∀ a l s,I (a::l) s→∀ R:Fr→Fr→Mem→Prop,(∀ s',I l s'→R (F s') (C s') (M s'))→turn (f a) (F s) (C s) (M s) (loopK gc R k)) :
  ∀ {L:List AV} (l:List α) (s:σ),L=l.map f→I l s→forL gc turn L (F s) (C s) (M s) k:=fun {L} l=>by
 induction l generalizing L with
 | nil=>intro s e h;cases e;exact h0 s h
 | cons a l ih=>intro s e h;cases e;exact h1 a l s h _ fun s' h'=>ih s' rfl h'
theorem compL_ind {turn:AV→Mem→(List TV→Mem→Prop)→Prop} {mem:Mem} {k:List TV→Mem→Prop} (f:α→AV) (J:List α→List TV→Prop) (h0:∀ acc,J [] acc→k acc mem)
  (h1:∀ a l acc,J (a::l) acc→∀ R:List TV→Mem→Prop,(∀ us,J l (acc++us)→R us mem)→turn (f a) mem R):∀ {L:List AV} (l:List α) (acc:List TV),L=l.map f→J l acc→compL turn L acc mem k:=fun {L} l=>by
 induction l generalizing L with
 | nil=>intro acc e h;cases e;exact h0 acc h
 | cons a l ih=>intro acc e h;cases e;exact h1 a l acc h _ fun us h'=>ih _ rfl h'
theorem mm {g:α→TV} {l:List α}:(l.map g).map AV.t=l.map fun a=>.t (g a):=by rw [List.map_map];rfl
theorem compL_map {turn:AV→Mem→(List TV→Mem→Prop)→Prop} {mem:Mem} {k:List TV→Mem→Prop} (g:α→TV) (G:α→List TV) {l:List α} (h:∀ a∈l,∀ R:List TV→Mem→Prop,R (G a) mem→turn (.t (g a)) mem R) (hk:k (l.flatMap G) mem):compL turn ((l.map g).map .t) [] mem k:=by
 refine compL_ind (fun a=>.t (g a)) (fun l' acc=>(∀ a∈l',a∈l)∧acc++l'.flatMap G=l.flatMap G) (fun acc h=>?_) (fun a l' acc h R hR=>?_) l [] mm ⟨fun a h=>h,rfl⟩
 ·have:acc=l.flatMap G:=by simpa using h.2
  rw [this];exact hk
 ·exact h' a (h.1 a (.head _)) R (hR _ ⟨fun a h'=>h.1 a (.tail _ h'),by rw [← h.2,List.flatMap_cons,List.append_assoc]⟩)
 where h':=h
theorem flat1 {β:Type} {g:α→β}:∀ {l:List α},l.flatMap (fun a=>[g a])=l.map g
 | []=>rfl
 | a::l=>congrArg (g a::·) flat1
theorem flatC {β:Type} {g:α→β} {c:α→Bool} {l:List α}:l.flatMap (fun a=>if c a then [g a] else [])=(l.filter c).map g:=by
 induction l with
 | nil=>rfl
 | cons a l ih=>rw [List.flatMap_cons,ih,List.filter_cons];cases c a<;>rfl
theorem compL_one {turn:AV→Mem→(List TV→Mem→Prop)→Prop} {mem:Mem} {k:List TV→Mem→Prop} (g e:α→TV) {l:List α} (h:∀ a∈l,∀ R:List TV→Mem→Prop,R [e a] mem→turn (.t (g a)) mem R) (hk:k (l.map e) mem):compL turn ((l.map g).map .t) [] mem k:=compL_map g (fun a=>[e a]) h (flat1▸hk)
theorem compL_bool {turn:AV→Mem→(List TV→Mem→Prop)→Prop} {mem:Mem} {k:List TV→Mem→Prop} (g:α→TV) (b:α→Bool) {l:List α} (h:∀ a∈l,∀ R:List TV→Mem→Prop,R [.bool (b a)] mem→turn (.t (g a)) mem R) (hk:k ((l.map b).map .bool) mem):compL turn ((l.map g).map .t) [] mem k :=
 compL_one g (fun a=>.bool (b a)) h (by rw [List.map_map] at hk;exact hk)
theorem compL_fil {turn:AV→Mem→(List TV→Mem→Prop)→Prop} {mem:Mem} {k:List TV→Mem→Prop} (g e:α→TV) (c:α→Bool) {l:List α} (h:∀ a∈l,∀ R:List TV→Mem→Prop,R (if c a then [e a] else []) mem→turn (.t (g a)) mem R) (hk:k ((l.filter c).map e) mem):compL turn ((l.map g).map .t) [] mem k:=compL_map g (fun a=>if c a then [e a] else []) h (flatC▸hk)
theorem compL_rel {turn:AV→Mem→(List TV→Mem→Prop)→Prop} {mem:Mem} {k:List TV→Mem→Prop} (g:α→TV) (Rel:α→TV→Prop) {l:List α} (h:∀ a∈l,∀ R:List TV→Mem→Prop,(∀ u,Rel a u→R [u] mem)→turn (.t (g a)) mem R) (hk:∀ us,L2 Rel l us→k us mem):compL turn ((l.map g).map .t) [] mem k:=by
 refine compL_ind (fun a=>.t (g a)) (fun l' acc=>(∀ a∈l',a∈l)∧∃ d,d++l'=l∧L2 Rel d acc) (fun acc hJ=>?_) (fun a l' acc hJ R hR=>?_) l [] mm ⟨fun a h=>h,[],rfl,rfl⟩
 ·obtain ⟨_,d,e,q⟩:=hJ
  rw [List.append_nil] at e
  subst e
  exact hk acc q
 ·obtain ⟨h1,d,h2,h3⟩:=hJ
  exact h a (h1 a (.head _)) R fun u hu=>hR _ ⟨fun a h'=>h1 a (.tail _ h'),d++[a],by rw [List.append_assoc];exact h2,L2.app (show L2 Rel [a] [u] from ⟨u,[],rfl,hu,rfl⟩) h3⟩
theorem treesM {l:List TV}:∀ {k:List TV→Prop},k l→treesK (l.map .t) k:=by
 induction l with
 | nil=>exact fun h=>h
 | cons a l ih=>exact fun {k} h=>ih (k:=fun vs=>k (a::vs)) h
theorem boolM {l:List Bool}:∀ {k:List Bool→Prop},k l→boolT (l.map .bool) k:=by
 induction l with
 | nil=>exact fun h=>h
 | cons a l ih=>exact fun {k} h=>ih (k:=fun vs=>k (a::vs)) h
theorem intM {l:List Int}:∀ {k:List Int→Prop},k l→intT (l.map .int) k:=by
 induction l with
 | nil=>exact fun h=>h
 | cons a l ih=>exact fun {k} h=>ih (k:=fun vs=>k (a::vs)) h
end
theorem strM {l:List Str}:∀ {k:List Str→Prop},k l→strT (l.map .str) k:=by
 induction l with
 | nil=>exact fun h=>h
 | cons a l ih=>exact fun {k} h=>ih (k:=fun vs=>k (a::vs)) h
theorem brF {b:Bool} {p q:Prop} (e:b=false) (h:q):brK b p q:=by rw [e];exact h
theorem brT' {b:Bool} {p q:Prop} (e:b=true) (h:p):brK b p q:=by rw [e];exact h
section
variable {T:Top} {r:Nat} {P:TV→Prop} {nm:Str} {ixs cols:List TV} {p:Int}
noncomputable def c_is_rowid_place:CS:=(.cons (.ret (.or (.o2 .ltI (.nm 21) (.k (.int 0))) (.o2 .eqN (.nm 21) (.att (.nm 22) 119)))) .nil)
theorem o_is_rowid_place:okDf false 666 [true,true] [21,22] [] c_is_rowid_place=true:=by decide +kernel
theorem rowid_ok {d:Bool} (hd:d=neg p) (h:P (.bool d)):FN T (r+1) false 666 [.int p,tabT nm ixs cols] P:=by
 subst hd
 refine enterF c_is_rowid_place [true,true] [21,22] [] false o_is_rowid_place ?_
 refine (?_:brK _ _ _)
 refine br (fun e=>?_) fun e=>?_
 ·exact h
 ·exact (show P (.bool false) from by rw [show neg p=false from e] at h;exact h)
noncomputable def hit (p:Int) (ops:List Str) (b:Bd):Bool:=b.place==p&&ops.any (·==b.str)
theorem Bd.t_eq (b:Bd):∃ v a,b.t=.obj 581 [21,16,17,56,44] [.int b.place,.str b.str,v,a,.str "binary"]:=by cases b<;>exact ⟨_,_,rfl⟩
noncomputable def c_first_bound:CS:=(.cons (.un (.cons (.nm 21) (.cons (.nm 103) (.cons (.nm 44) (.cons (.nm 22) .nil)))) (.nm 24)) (.cons (.for_ 0 [26] true false (.nm 23) (.cons (.as (.nm 104) (.ife (.te (.nm 103)) (.fcall false 666 (.cons (.att (.nm 26) 21) (.cons (.nm 22) .nil))) (.o2 .eqI (.att (.nm 26) 21) (.nm 21)))) (.cons (.ifs (.tand (.te (.nm 104)) (.tand (.te (.o2 .inS (.att (.nm 26) 16) (.nm 25))) (.tand (.tor (.te (.o1 .isN (.nm 44))) (.tor (.te (.o2 .eqS (.att (.nm 26) 44) (.nm 44))) .ff)) .tt))) (.cons (.ret (.nm 26)) .nil) .nil) (.cons (.kp [23,24,25,21,103,44,22]) .nil)))) (.cons (.ret (.k .none)) .nil)))
theorem o_first_bound:okDf false 723 [true,true,true] [23,24,25] [] c_first_bound=true:=by decide +kernel
theorem first_ok {bs:List Bd} {cv:Bool} {ops:List Str} (hp:-1≤p) (hb:∀ b∈bs,-1≤b.place) (h:P (optT Bd.t (bs.find? (hit p ops)))):FN T (r+2) false 723 [.lst (bs.map Bd.t),fitT p (match cv with | true=>.str "binary" | false=>.none) (tabT nm ixs cols),.tup (ops.map .str)] P:=by
 refine enterF c_first_bound [true,true,true] [23,24,25] [] false o_first_bound ?_
 refine forL_ind (σ:=Unit) (fun b=>.t (Bd.t b)) (fun _=>_) (fun _=>[]) (fun _=>[]) (fun l _=>(∀ b∈l,-1≤b.place)∧P (optT Bd.t (l.find? (hit p ops)))) (fun _ h=>h.2) (fun b l _ h R hR=>?_) bs () mm ⟨hb,h⟩
 obtain ⟨hb,h⟩:=h
 have hb0:=hb b (.head _)
 replace hR:=fun h=>hR () ⟨fun b h=>hb b (.tail _ h),h⟩
 rw [List.find?_cons] at h
 obtain ⟨v,a,e⟩:=b.t_eq
 rw [e]
 refine (?_:brK _ _ _)
 refine (fun t=>br (fun e=>rowid_ok (d:=b.place==p) ?_ t) (fun e=>t)) ?_
 ·rw [Bool.eq_iff_iff];simp only [beq_iff_eq,decide_eq_true_eq] at e ⊢
  have z:(0:Int)=-1+1:=by decide
  exact ⟨fun h=>h▸e,fun h=>Int.le_antisymm (Int.le_trans (Int.le_of_lt_add_one (z▸h)) hp) (Int.le_trans (Int.le_of_lt_add_one (z▸e)) hb0)⟩
 refine (?_:brK _ _ _)
 refine br (fun e1=>?_) fun e1=>?_
 ·refine strM ?_
  refine (?_:brK _ _ _)
  refine br (fun e2=>?_) fun e2=>?_
  ·have h2:hit p ops b=true:=by delta hit;rw [e1,e2];rfl
   rw [h2] at h
   change P b.t at h
   rw [e] at h
   cases cv with
   | true=>exact h
   | false=>exact h
  ·have h2:hit p ops b=false:=by delta hit;rw [e1,e2];rfl
   rw [h2] at h
   exact hR h
 ·have h2:hit p ops b=false:=by delta hit;rw [e1];rfl
  rw [h2] at h
  exact hR h
end
theorem mulSmall {a b:Int} (h:a.natAbs<2 ^ 64∨b.natAbs<2 ^ 64):IntMulOk a b:=by
 have key:∀ x:Int,x.natAbs<2 ^ 64→Builtin.Int.intBits x≤64:=fun x hx=>by
  delta Builtin.Int.intBits
  split
  ·decide
  ·rename_i q
   simp only [beq_iff_eq] at q
   have:x.natAbs.log2<64:=(Nat.log2_lt fun e=>q (Int.natAbs_eq_zero.mp e)).mpr hx
   exact this
 rcases h with h | h
 ·exact .of_left (key _ h)
 ·exact .of_right (key _ h)
theorem fm (a:Int) {b:Int} (h:0<b):0≤a.fmod b∧a.fmod b<b:=⟨Int.fmod_nonneg_of_pos a h,Int.fmod_lt_of_pos a h⟩
theorem nth_ok {α:Type} {k:α→Prop}:∀ {l:List α} {n:Nat},n<l.length→(∀ a,l[n]?=some a→k a)→nthK l n k
 | a::l,0,_,h=>h a rfl
 | a::l,n+1,hn,h=>nth_ok (l:=l) (Nat.lt_of_succ_lt_succ hn) h
theorem nC (n:Nat):(0:Int)≤n:=Int.natCast_nonneg n
theorem nLt {n c:Nat} (h:n<c):(n:Int)<c:=Int.ofNat_lt.mpr h
theorem nLe {n c:Nat} (h:n≤c):(n:Int)≤c:=Int.ofNat_le.mpr h
theorem toLt {v:Int} {c:Nat} (h:0≤v∧v<c):v.toNat<c:=(Int.toNat_lt h.1).mpr h.2
theorem absLt {x:Int} {c:Nat} (h0:0≤x) (h:x<c):x.natAbs<c:=Int.ofNat_lt.mp (by rw [Int.natAbs_of_nonneg h0];exact h)
theorem abs64 {x:Int} {c:Nat} (h0:0≤x) (h:x<c) (hc:c≤2 ^ 64):x.natAbs<2 ^ 64:=Nat.lt_of_lt_of_le (absLt h0 h) hc
theorem absLe {x:Int} (h:0≤x∧x≤1000):x.natAbs<2 ^ 64:=abs64 (c:=1001) h.1 (Int.lt_of_le_of_lt h.2 (by decide)) (by decide)
theorem nthI_ok {l:List AV} {i:Int} {k:AV→Prop} (h0:0≤i) (h1:i<l.length) (hz:l.length≤1000) (h:∀ a,l[i.toNat]?=some a→k a):nthI l i k:=brT' (decide_eq_true h0) (brT' (Nat.ble_eq_true_of_le (Nat.le_trans (Nat.le_of_lt (toLt ⟨h0,h1⟩)) hz)) (nth_ok (toLt ⟨h0,h1⟩) h))
theorem nthI_t {α:Type} {g:α→TV} {l:List α} {i:Int} {k:AV→Prop} (h0:0≤i) (h1:i<l.length) (hz:l.length≤1000) (h:∀ a,l[i.toNat]?=some a→k (.t (g a))):nthI ((l.map g).map .t) i k :=
 nthI_ok h0 (by simpa using h1) (by simpa using hz) fun a ha=>by
  rw [List.map_map,List.getElem?_map] at ha
  obtain ⟨u,hu,rfl⟩:=Option.map_eq_some_iff.mp ha
  exact h u hu
theorem nthN_t {α:Type} {g:α→TV} {l:List α} {i:Nat} {k:AV→Prop} (hi:i<l.length) (hz:l.length≤1000) (h:∀ a,l[i]?=some a→k (.t (g a))):nthI ((l.map g).map .t) (i:Int) k:=nthI_t (nC i) (nLt hi) hz h
section
variable {T:Top} {r:Nat} {P:TV→Prop} {nm:Str} {ixs cols:List TV} {p:Int}
noncomputable def c_l_take:CS:=(.cons (.ifs (.te (.o2 .gtI (.sub (.nm 43) (.k (.int 0))) (.k (.int 0)))) (.cons (.as (.nm 123) (.o2 .mod (.o1 .int (.sub (.nm 43) (.k (.int 0)))) (.nm 65))) (.cons (.as (.sub (.nm 43) (.k (.int 0))) (.o2 .fdiv (.sub (.nm 43) (.k (.int 0))) (.nm 65))) (.cons (.ret (.nm 123)) .nil))) .nil) (.cons (.as (.sub (.nm 43) (.k (.int 1))) (.o2 .mod (.o1 .int (.o2 .add (.o2 .mul (.sub (.nm 43) (.k (.int 1))) (.k (.int 39373))) (.k (.int 7)))) (.k (.int 2147483647)))) (.cons (.ret (.o2 .mod (.o1 .int (.o2 .fdiv (.o2 .mod (.o1 .int (.o2 .mul (.sub (.nm 43) (.k (.int 1))) (.sub (.nm 43) (.k (.int 1))))) (.k (.int 2147483629))) (.k (.int 32)))) (.nm 65))) .nil)))
theorem o_l_take:okDf false 1109 [true,true] [43,65] [] c_l_take=true:=by decide +kernel
theorem take_ok {k:Int} (hk:0<k∧k<1000) (h:∀ v:Int,0≤v∧v<k→P (.int v)):FN T (r+1) true 1109 [.int k] P:=by
 refine enterF c_l_take [true,true] [43,65] [] false o_l_take ?_
 refine (?_:∀ a:Int,_)
 intro a
 refine (?_:brK _ _ _)
 refine br (fun e=>?_) fun e=>?_
 ·refine (?_:∀ a:Int,_)
  intro b
  refine (?_:_≠_∧_)
  refine ⟨Int.ne_of_gt hk.1,?_⟩
  refine (?_:∀ a:Int,_)
  intro c
  refine (?_:(_≠_∧_)∧_)
  refine ⟨⟨Int.ne_of_gt hk.1,PyProof.noPylong_small (Nat.lt_trans (absLt (c:=1000) (Int.le_of_lt hk.1) hk.2) (by decide))⟩,?_⟩
  exact h _ (fm b hk.1)
 ·refine (?_:∀ a:Int,(0:Int)≤a→a<(2147483647:Int)→_)
  intro b h1 h2
  refine (?_:IntMulOk _ _∧_)
  refine ⟨mulSmall (.inr (by decide)),?_⟩
  refine (?_:_≠_∧_)
  refine ⟨by decide,?_⟩
  refine (?_:((0:Int)≤_∧_<(2147483647:Int))∧_)
  refine ⟨fm _ (by decide),?_⟩
  refine (?_:∀ a:Int,(0:Int)≤a→a<(2147483647:Int)→_)
  intro b1 h1 h2
  refine (?_:∀ a:Int,(0:Int)≤a→a<(2147483647:Int)→_)
  intro b2 h3 h4
  refine (?_:IntMulOk _ _∧_)
  refine ⟨mulSmall (.inr (abs64 (c:=2147483647) h3 h4 (by decide))),?_⟩
  refine (?_:_≠_∧_)
  refine ⟨by decide,?_⟩
  refine (?_:(_≠_∧_)∧_)
  refine ⟨⟨by decide,PyProof.noPylong_small (by decide)⟩,?_⟩
  refine (?_:_≠_∧_)
  refine ⟨Int.ne_of_gt hk.1,?_⟩
  exact h _ (fm _ hk.1)
noncomputable def c_l_one:CS:=(.cons (.ret (.sub (.nm 66) (.fcall true 1109 (.cons (.nm 43) (.cons (.o1 .len (.nm 66)) .nil))))) .nil)
theorem o_l_one:okDf false 1116 [true,true] [43,66] [] c_l_one=true:=by decide +kernel
theorem one_ok {l:List TV} (hl:0<l.length∧l.length<1000) (h:∀ v∈l,P v):FN T (r+2) true 1116 [.lst l] P:=by
 refine enterF c_l_one [true,true] [43,66] [] false o_l_one ?_
 refine take_ok ⟨nLt hl.1,nLt hl.2⟩ fun v hv=>?_
 refine nthI_ok hv.1 (by rw [List.length_map];exact hv.2) (by rw [List.length_map];exact Nat.le_of_lt hl.2) fun a ha=>?_
 rw [List.getElem?_map] at ha
 obtain ⟨u,hu,rfl⟩:=Option.map_eq_some_iff.mp ha
 exact h u (List.mem_of_getElem? hu)
noncomputable def c_l_value:CS:=(.cons (.ret (.fcall true 1116 (.cons (.nm 43) (.cons (.lstF (.cons (.k .none) (.cons (.k (.int 0)) (.cons (.k (.int 1)) (.cons (.k (.int 1)) (.cons (.k (.int 2)) (.cons (.k (.int 3)) (.cons (.k (.str "t")) .nil)))))))) .nil)))) .nil)
theorem o_l_value:okDf false 1135 [true] [43] [] c_l_value=true:=by decide +kernel
theorem value_ok (h:∀ x:V,P x.t):FN T (r+3) true 1135 [] P:=by
 refine enterF c_l_value [true] [43] [] false o_l_value ?_
 refine one_ok (by decide) fun v hv=>?_
 have:∃ x:V,v=x.t:=by
  simp only [List.mem_cons,List.not_mem_nil,or_false] at hv
  rcases hv with rfl | rfl | rfl | rfl | rfl | rfl | rfl
  ·exact ⟨.nul,rfl⟩
  ·exact ⟨.int 0,rfl⟩
  ·exact ⟨.int 1,rfl⟩
  ·exact ⟨.int 1,rfl⟩
  ·exact ⟨.int 2,rfl⟩
  ·exact ⟨.int 3,rfl⟩
  ·exact ⟨.txt,rfl⟩
 obtain ⟨x,rfl⟩:=this
 cases x with
 | nul=>exact h .nul
 | int i=>exact h (.int i)
 | txt=>exact h .txt
noncomputable def c_Literal_mk:CS:=(.cons (.as (.att (.nm 76) 17) (.nm 17)) .nil)
theorem o_Literal_mk:okDf false 80 [true,true] [76,17] [] c_Literal_mk=true:=by decide +kernel
theorem lit_ok {v:TV} (h:P (.obj 90 [17] [v])):FN T (r+2) false 90 [v] P:=makerF 80 c_Literal_mk [true,true] [76,17] [] false (by decide +kernel) o_Literal_mk h
noncomputable def c_Binary_mk:CS:=(.cons (.as (.att (.nm 76) 16) (.nm 16)) (.cons (.as (.att (.nm 76) 9) (.nm 9)) (.cons (.as (.att (.nm 76) 10) (.nm 10)) .nil)))
theorem o_Binary_mk:okDf false 158 [true,true,true,true] [76,16,9,10] [] c_Binary_mk=true:=by decide +kernel
theorem bin_ok {a b c:TV} (h:P (.obj 168 [16,9,10] [a,b,c])):FN T (r+2) false 168 [a,b,c] P:=makerF 158 c_Binary_mk [true,true,true,true] [76,16,9,10] [] false (by decide +kernel) o_Binary_mk h
noncomputable def c_Between_mk:CS:=(.cons (.as (.att (.nm 76) 17) (.nm 17)) (.cons (.as (.att (.nm 76) 28) (.nm 28)) (.cons (.as (.att (.nm 76) 29) (.nm 29)) (.cons (.as (.att (.nm 76) 78) (.nm 78)) .nil))))
theorem o_Between_mk:okDf false 184 [true,true,true,true,true] [76,17,28,29,78] [] c_Between_mk=true:=by decide +kernel
theorem bet_ok {a b c d:TV} (h:P (.obj 194 [17,28,29,78] [a,b,c,d])):FN T (r+2) false 194 [a,b,c,d] P:=makerF 184 c_Between_mk [true,true,true,true,true] [76,17,28,29,78] [] false (by decide +kernel) o_Between_mk h
noncomputable def c_InList_mk:CS:=(.cons (.as (.att (.nm 76) 17) (.nm 17)) (.cons (.as (.att (.nm 76) 19) (.nm 19)) (.cons (.as (.att (.nm 76) 78) (.nm 78)) .nil)))
theorem o_InList_mk:okDf false 210 [true,true,true,true] [76,17,19,78] [] c_InList_mk=true:=by decide +kernel
theorem inl_ok {a b c:TV} (h:P (.obj 220 [17,19,78] [a,b,c])):FN T (r+2) false 220 [a,b,c] P:=makerF 210 c_InList_mk [true,true,true,true] [76,17,19,78] [] false (by decide +kernel) o_InList_mk h
noncomputable def c_Bound_mk:CS:=(.cons (.as (.att (.nm 76) 21) (.nm 21)) (.cons (.as (.att (.nm 76) 16) (.nm 16)) (.cons (.as (.att (.nm 76) 17) (.nm 17)) (.cons (.as (.att (.nm 76) 56) (.nm 56)) (.cons (.as (.att (.nm 76) 44) (.nm 44)) .nil)))))
theorem o_Bound_mk:okDf false 578 [true,true,true,true,true,true] [76,21,16,17,56,44] [] c_Bound_mk=true:=by decide +kernel
theorem bound_ok {a b c d e:TV} (h:P (.obj 581 [21,16,17,56,44] [a,b,c,d,e])):FN T (r+2) false 581 [a,b,c,d,e] P:=makerF 578 c_Bound_mk [true,true,true,true,true,true] [76,21,16,17,56,44] [] false (by decide +kernel) o_Bound_mk h
end
theorem V.nv (x:V):nvB x.t=true:=by cases x<;>rfl
theorem V.isN {x:V} (hx:x≠.nul):isNB x.t=false:=by
 cases x with
 | nul=>exact absurd rfl hx
 | int i=>rfl
 | txt=>rfl
theorem pB {P:TV→Prop} {u v:Bool} (e:v=u) (h:P (.bool u)):P (.bool v):=e▸h
section
variable {T:Top} {r:Nat} {P:TV→Prop} {p:Int} {rows:Rows} {k:Nat}
noncomputable def c_l_rank:CS:=(.cons (.ret (.ife (.te (.o1 .isStr (.nm 17))) (.tup (.cons (.k (.int 1)) (.cons (.k (.int 0)) (.cons (.nm 17) .nil)))) (.tup (.cons (.k (.int 0)) (.cons (.nm 17) (.cons (.k (.str "")) .nil)))))) .nil)
theorem o_l_rank:okDf false 1147 [true] [17] [] c_l_rank=true:=by decide +kernel
theorem rank_ok {x:V} (hx:x≠.nul) (h:∀ (a b:Int) (s:Str),rank x=some (a,b)→s=(if a=0 then "" else "t")→P (.tup [.int a,.int b,.str s])):FN T (r+1) false 1147 [x.t] P:=by
 refine enterF c_l_rank [true] [17] [] false o_l_rank ?_
 cases x with
 | nul=>exact absurd rfl hx
 | int i=>exact h 0 i "" rfl rfl
 | txt=>exact h 1 0 "t" rfl rfl
noncomputable def c_l_compared:CS:=(.cons (.ifs (.tor (.te (.o1 .isN (.nm 69))) (.tor (.te (.o1 .isN (.nm 70))) .ff)) (.cons (.ret (.k .none)) .nil) .nil) (.cons (.unt true (.cons (.nm 124) (.cons (.nm 111) .nil)) (.cons (.fcall false 1147 (.cons (.nm 69) .nil)) (.cons (.fcall false 1147 (.cons (.nm 70) .nil)) .nil))) (.cons (.ifs (.te (.o2 .inS (.nm 16) (.lstF (.cons (.k (.str "=")) (.cons (.k (.str "<>")) .nil))))) (.cons (.ret (.o2 .eqB (.o2 .eqR (.nm 111) (.nm 124)) (.o2 .eqS (.nm 16) (.k (.str "="))))) .nil) .nil) (.cons (.ifs (.te (.o2 .inS (.nm 16) (.lstF (.cons (.k (.str "<")) (.cons (.k (.str "<=")) .nil))))) (.cons (.ret (.or (.o2 .ltR (.nm 111) (.nm 124)) (.and (.o2 .eqS (.nm 16) (.k (.str "<="))) (.o2 .eqR (.nm 111) (.nm 124))))) .nil) .nil) (.cons (.ret (.or (.o2 .gtR (.nm 111) (.nm 124)) (.and (.o2 .eqS (.nm 16) (.k (.str ">="))) (.o2 .eqR (.nm 111) (.nm 124))))) .nil)))))
theorem o_l_compared:okDf false 1154 [true,true,true] [16,69,70] [] c_l_compared=true:=by decide +kernel
theorem compared_ok {op:Op} {x y:V} (h:P (optT .bool (cmpV op x y))):FN T (r+2) false 1154 [.str op.str,x.t,y.t] P:=by
 refine enterF c_l_compared [true,true,true] [16,69,70] [] false o_l_compared ?_
 by_cases hx:x=.nul
 ·subst hx;exact h
 refine (?_:brK _ _ _);refine brT' x.nv ?_;refine (?_:brK _ _ _);refine brF (V.isN hx) ?_
 by_cases hy:y=.nul
 ·subst hy;cases x<;>exact h
 refine (?_:brK _ _ _);refine brT' y.nv ?_;refine (?_:brK _ _ _);refine brF (V.isN hy) ?_
 refine rank_ok hx fun a b s e1 e2=>?_
 refine rank_ok hy fun c d t e3 e4=>?_
 have h:P (.bool (cmpP op (a,b) (c,d))):=by delta cmpV at h;rw [e1,e3] at h;exact h
 have hs:s=t∨a≠c:=by
  rw [e2,e4]
  by_cases q:a=c
  ·left;rw [q]
  ·exact .inr q
 have he:(a==c&&b==d&&s==t)=peq (a,b) (c,d):=by
  delta peq
  rw [Bool.eq_iff_iff];simp only [Bool.and_eq_true,beq_iff_eq,decide_eq_true_eq]
  constructor
  ·exact fun h=>h.1
  ·exact fun h=>⟨h,hs.resolve_right fun q=>q h.1⟩
 have hs':t=s∨c≠a:=hs.imp Eq.symm Ne.symm
 have hl:(decide (a<c)||(a==c&&decide (b<d)))=plt (a,b) (c,d):=rfl
 have hg:(decide (c<a)||(a==c&&decide (d<b)))=plt (c,d) (a,b):=by
  delta plt
  rw [Bool.eq_iff_iff];simp only [Bool.or_eq_true,Bool.and_eq_true,beq_iff_eq,decide_eq_true_eq,eq_comm (a:=a)]
 cases op with
 | eq=>refine (?_:_∧_);exact ⟨hs,pB (P:=P) (by rw [he];show (peq _ _==true)=peq _ _;cases peq (a,b) (c,d)<;>rfl) h⟩
 | ne=>refine (?_:_∧_);exact ⟨hs,pB (P:=P) (by rw [he];show (peq _ _==false)=!peq _ _;cases peq (a,b) (c,d)<;>rfl) h⟩
 | lt=>refine (?_:_∧_);refine ⟨hs,?_⟩;refine (?_:brK _ _ _);exact br (fun e=>pB (P:=P) hl h) fun e=>pB (P:=P) (show false=plt (a,b) (c,d) from hl▸e.symm) h
 | gt=>refine (?_:_∧_);refine ⟨hs,?_⟩;refine (?_:brK _ _ _);exact br (fun e=>pB (P:=P) hg h) fun e=>pB (P:=P) (show false=plt (c,d) (a,b) from hg▸e.symm) h
 | le =>
  refine (?_:_∧_);refine ⟨hs,?_⟩;refine (?_:brK _ _ _)
  refine br (fun e=>pB (P:=P) (by show _=(plt _ _||peq _ _);rw [← hl,e];rfl) h) fun e=>?_
  refine (?_:_∧_)
  exact ⟨hs,pB (P:=P) (by show _=(plt _ _||peq _ _);rw [← hl,e,he];rfl) h⟩
 | ge =>
  refine (?_:_∧_);refine ⟨hs,?_⟩;refine (?_:brK _ _ _)
  refine br (fun e=>pB (P:=P) (by show _=(plt _ _||peq _ _);rw [← hg,e];rfl) h) fun e=>?_
  refine (?_:_∧_)
  exact ⟨hs,pB (P:=P) (by show _=(plt _ _||peq _ _);rw [← hg,e,he];rfl) h⟩
theorem in4 {p:Int} (h:-1≤p∧p≤2):p=-1∨p=0∨p=1∨p=2:=by lia
theorem row_ok {n:Nat} {p:Int} {k:AV→Prop} (hp:-1≤p∧p≤2) (h:k (.t (rows n p).t)):brK (decide (0≤p+1)) (nthN ([(rows n (-1)).t,(rows n 0).t,(rows n 1).t,(rows n 2).t].map .t) (p+1).toNat k) False:=by
 have:p=-1∨p=0∨p=1∨p=2:=in4 ‹_›
 rcases this with rfl | rfl | rfl | rfl<;>exact h
noncomputable def c_l_worth:CS:=(.cons (.ifs (.te (.o2 .isi (.nm 11) (.k (.val (Value.ref 90))))) (.cons (.ret (.att (.nm 11) 17)) .nil) .nil) (.cons (.ret (.sub (.sub (.nm 32) (.att (.nm 11) 43)) (.o2 .add (.att (.nm 11) 21) (.k (.int 1))))) .nil))
theorem o_l_worth:okDf false 1161 [true,true] [11,32] [] c_l_worth=true:=by decide +kernel
theorem worth_ok {o:O} (ho:o.ok k) (hk:k≤3) (h:P (evO rows o).t):FN T (r+1) false 1161 [o.t,rowsT rows k] P:=by
 refine enterF c_l_worth [true,true] [11,32] [] false o_l_worth ?_
 cases o with
 | lit x=>exact h
 | name n p =>
  obtain ⟨hn,hp1,hp2⟩:=ho
  refine nthN_t (i:=n) (by rw [List.length_range];exact hn) (by rw [List.length_range];exact Nat.le_trans hk (by decide)) fun a ha=>?_
  rw [List.getElem?_range hn] at ha
  cases ha
  exact row_ok ⟨hp1,hp2⟩ h
end
theorem anyM {α:Type} {g:α→Bool} {l:List α}:(l.map g).any id=l.any g:=by rw [List.any_map];rfl
theorem forR_ind {σ:Type} {gc n:Nat} {turn:AV→Fr→Fr→Mem→(Fl→Fr→Fr→Mem→Prop)→Prop} {k:Fl→Fr→Fr→Mem→Prop} (F C:σ→Fr) (M:σ→Mem) (I:Nat→σ→Prop) (h0:∀ s,I n s→k .next (F s) (C s) (M s))
  (h1:∀ i s,i<n→I i s→∀ R:Fr→Fr→Mem→Prop,(∀ s',I (i+1) s'→R (F s') (C s') (M s'))→turn (.t (.int i)) (F s) (C s) (M s) (loopK gc R k)) (s:σ) (h:I 0 s):forL gc turn ((List.range n).map fun (n:Nat)=>AV.t (.int n)) (F s) (C s) (M s) k:=by
 refine forL_ind (fun n:Nat=>AV.t (.int n)) F C M (fun l s=>∃ j,j+l.length=n∧l=List.range' j l.length∧I j s) (fun s ⟨j,e,_,h⟩=>h0 s (by rw [← e];exact h)) (fun a l s h R hR=>?_) (List.range n) s rfl ⟨0,by simp,by rw [List.length_range,List.range_eq_range'],h⟩
 obtain ⟨j,e,e2,h⟩:=h
 rw [List.length_cons,List.range'_succ] at e2
 obtain ⟨ea,e2⟩:=List.cons.inj e2
 subst ea
 exact h1 a s (by rw [List.length_cons] at e;lia) h R fun s' h'=>hR s' ⟨a+1,by rw [← e,List.length_cons];lia,e2,h'⟩
section
variable {T:Top} {r:Nat} {P:TV→Prop} {p:Int} {rows:Rows} {k n:Nat}
noncomputable def c_l_is_true:CS:=(.cons (.ifs (.te (.o2 .isi (.nm 11) (.k (.val (Value.ref 194))))) (.cons (.as (.nc 17) (.fcall false 1161 (.cons (.att (.nm 11) 17) (.cons (.nc 32) .nil)))) (.cons (.as (.nm 28) (.fcall false 1154 (.cons (.k (.str ">=")) (.cons (.nc 17) (.cons (.fcall false 1161 (.cons (.att (.nm 11) 28) (.cons (.nc 32) .nil))) .nil))))) (.cons (.ret (.and (.o1 .bool (.nm 28)) (.o1 .bool (.fcall false 1154 (.cons (.k (.str "<=")) (.cons (.nc 17) (.cons (.fcall false 1161 (.cons (.att (.nm 11) 29) (.cons (.nc 32) .nil))) .nil))))))) .nil))) .nil) (.cons (.ifs (.te (.o2 .isi (.nm 11) (.k (.val (Value.ref 220))))) (.cons (.as (.nc 17) (.fcall false 1161 (.cons (.att (.nm 11) 17) (.cons (.nc 32) .nil)))) (.cons (.ret (.o1 .any (.comp (.o1 .bool (.fcall false 1154 (.cons (.k (.str "=")) (.cons (.nc 17) (.cons (.fcall false 1161 (.cons (.nm 18) (.cons (.nc 32) .nil))) .nil))))) [18] true false (.att (.nm 11) 19) (.tt)))) .nil)) .nil) (.cons (.ifs (.te (.o2 .eqS (.att (.nm 11) 16) (.k (.str "or")))) (.cons (.ret (.or (.fcall false 1166 (.cons (.att (.nm 11) 9) (.cons (.nc 32) .nil))) (.fcall false 1166 (.cons (.att (.nm 11) 10) (.cons (.nc 32) .nil))))) .nil) .nil) (.cons (.ret (.o1 .bool (.fcall false 1154 (.cons (.att (.nm 11) 16) (.cons (.fcall false 1161 (.cons (.att (.nm 11) 9) (.cons (.nc 32) .nil))) (.cons (.fcall false 1161 (.cons (.att (.nm 11) 10) (.cons (.nc 32) .nil))) .nil)))))) .nil))))
theorem o_l_is_true:okDf false 1166 [true,false] [11,32] [17,32] c_l_is_true=true:=by decide +kernel
theorem op_or (op:Op):(op.str=="or")=false:=by cases op<;>decide +kernel
theorem is_true_ok {c:Cd} (hc:c.ok k) (hk:k≤3) (h:P (.bool (evC rows c))):FN T (r+4) false 1166 [c.t,rowsT rows k] P:=by
 have cc:∀ {r:Nat} {op:Op} {a b:O} {P:TV→Prop},a.ok k∧b.ok k→P (.bool (yes op (evO rows a) (evO rows b)))→FN T (r+3) false 1166 [cmpT op a b,rowsT rows k] P:=fun {r op a b P} hab h=>by
  refine enterF c_l_is_true [true,false] [11,32] [17,32] false o_l_is_true ?_
  refine (?_:brK _ _ _);refine brF (op_or op) ?_
  refine worth_ok hab.1 hk ?_
  refine worth_ok hab.2 hk ?_
  refine compared_ok ?_
  unfold yes at h
  cases hq:cmpV op (evO rows a) (evO rows b) with
  | none=>rw [hq] at h;exact h
  | some d=>rw [hq] at h;exact h
 cases c with
 | cmp op a b=>exact cc (r:=r+1) hc h
 | bet a lo hi =>
  obtain ⟨ha,hlo,hhi⟩:=hc
  refine enterF c_l_is_true [true,false] [11,32] [17,32] false o_l_is_true ?_
  refine worth_ok (r:=r+2) ha hk ?_
  refine worth_ok (r:=r+2) hlo hk ?_
  refine compared_ok (op:=.ge) (r:=r+1) ?_
  replace h:P (.bool (yes .ge (evO rows a) (evO rows lo)&&yes .le (evO rows a) (evO rows hi))):=h
  have y1:yes .ge (evO rows a) (evO rows lo)=match cmpV .ge (evO rows a) (evO rows lo) with | some b=>b | none=>false:=rfl
  have y2:yes .le (evO rows a) (evO rows hi)=match cmpV .le (evO rows a) (evO rows hi) with | some b=>b | none=>false:=rfl
  rw [y1,y2] at h
  cases h1:cmpV .ge (evO rows a) (evO rows lo) with
  | none=>rw [h1] at h;exact h
  | some d =>
   rw [h1] at h
   cases d with
   | false=>exact h
   | true =>
    refine worth_ok (r:=r+2) hhi hk ?_
    refine compared_ok (op:=.le) (r:=r+1) ?_
    cases h2:cmpV .le (evO rows a) (evO rows hi) with
    | none=>rw [h2] at h;exact h
    | some d=>rw [h2] at h;exact h
 | inl a xs =>
  obtain ⟨ha,hx,_⟩:=hc
  refine enterF c_l_is_true [true,false] [11,32] [17,32] false o_l_is_true ?_
  refine worth_ok (r:=r+2) ha hk ?_
  refine compL_bool O.t (fun o=>yes .eq (evO rows a) (evO rows o)) (fun o ho R hR=>?_) ?_
  ·refine worth_ok (r:=r+2) (hx o ho) hk ?_
   refine compared_ok (op:=.eq) (r:=r+1) ?_
   unfold yes at hR
   cases hq:cmpV .eq (evO rows a) (evO rows o) with
   | none=>rw [hq] at hR;exact hR
   | some d=>rw [hq] at hR;exact hR
  ·refine boolM ?_
   exact pB (P:=P) anyM h
 | or op a b op' a' b' =>
  refine enterF c_l_is_true [true,false] [11,32] [17,32] false o_l_is_true ?_
  refine cc (r:=r) hc.1 ?_
  refine (?_:brK _ _ _)
  refine br (fun e=>?_) fun e=>?_
  ·exact pB (P:=P) (by show _=(_||_);rw [e];rfl) h
  ·refine cc (r:=r) hc.2 ?_
   exact pB (P:=P) (by show _=(_||_);rw [e];rfl) h
end
noncomputable def okE (k:Nat):Option (O×Bool)→Prop
 | none=>True
 | some e=>e.1.ok k
noncomputable def endW:Bool→Str
 | true=>"<" | false=>">"
structure Pd.Ok (k:Nat) (pd:Pd):Prop where
 pl:∀ p∈pd.places,-1≤p∧p≤2
 len:pd.eqs.length≤pd.places.length
 len2:pd.places.length≤3
 eqs:∀ o∈pd.eqs,o.ok k
 low:okE k pd.low
 high:okE k pd.high
 inl:∀ l,pd.inl=some l→∀ o∈l,o.ok k
theorem endL (up:Bool):(endW up).length+("=":Str).length≤1000:=by cases up<;>decide +kernel
theorem endG (up:Bool):endW up++"="=(endOp up true).str:=by cases up<;>decide +kernel
section
variable {T:Top} {r:Nat} {P:TV→Prop} {p:Int} {rows:Rows} {k n:Nat}
theorem comparedW {op:Op} {w:Str} {x y:V} (hw:w=op.str) (h:P (optT .bool (cmpV op x y))):FN T (r+2) false 1154 [.str w,x.t,y.t] P:=by subst hw;exact compared_ok h
noncomputable def c_l_between:CS:=(.cons (.for_ 0 [125,16] false false (.lstF (.cons (.tup (.cons (.att (.nm 27) 28) (.cons (.k (.str ">")) .nil))) (.cons (.tup (.cons (.att (.nm 27) 29) (.cons (.k (.str "<")) .nil))) .nil))) (.cons (.ifs (.te (.o1 .isNN (.nm 125))) (.cons (.as (.nm 86) (.ife (.te (.sub (.nm 125) (.k (.int 1)))) (.o2 .addS (.nm 16) (.k (.str "="))) (.nm 16))) (.cons (.ifs (.tnot (.te (.fcall false 1154 (.cons (.nm 86) (.cons (.nm 17) (.cons (.fcall false 1161 (.cons (.sub (.nm 125) (.k (.int 0))) (.cons (.nm 32) .nil))) .nil)))))) (.cons (.ret (.k (.bool false))) .nil) .nil) .nil)) .nil) (.cons (.kp [27,17,32]) .nil))) (.cons (.ret (.k (.bool true))) .nil))
theorem o_l_between:okDf false 1173 [true,true,true] [27,17,32] [] c_l_between=true:=by decide +kernel
theorem between_ok {q:Pd×Jk} {v:V} (hl:okE k q.1.low) (hh:okE k q.1.high) (hk:k≤3) (h1:endOk rows v false q.1.low=true) (h2:endOk rows v true q.1.high=true) (h:P (.bool true)):FN T (r+3) false 1173 [pathT q,v.t,rowsT rows k] P:=by
 refine enterF c_l_between [true,true,true] [27,17,32] [] false o_l_between ?_
 refine forL_ind (σ:=Unit) (α:=Option (O×Bool)×Bool) (fun e=>.t (.tup [endT e.1,.str (endW e.2)])) (fun _=>_) (fun _=>[]) (fun _=>[]) (fun l _=>∀ e∈l,okE k e.1∧endOk rows v e.2 e.1=true) (fun _ _=>h) (fun e l _ hI R hR=>?_) [(q.1.low,false),(q.1.high,true)] () rfl (fun e he=>?_)
 ·obtain ⟨e,up⟩:=e
  obtain ⟨he,hv⟩:=hI _ (.head _)
  replace hR:=hR () fun e h=>hI e (.tail _ h)
  cases e with
  | none=>exact hR
  | some e =>
   obtain ⟨o,b⟩:=e
   replace hv:yes (endOp up b) v (evO rows o)=true:=hv
   delta yes at hv
   cases b
   ·refine worth_ok (o:=o) he hk ?_
    refine comparedW (op:=endOp up false) (by cases up<;>rfl) ?_
    cases hq:cmpV (endOp up false) v (evO rows o) with | none=>rw [hq] at hv;cases hv | some d=>rw [hq] at hv;cases hv;exact hR
   ·refine (?_:_∧_);refine ⟨endL up,?_⟩;refine worth_ok (o:=o) he hk ?_
    refine comparedW (op:=endOp up true) (endG up) ?_
    cases hq:cmpV (endOp up true) v (evO rows o) with | none=>rw [hq] at hv;cases hv | some d=>rw [hq] at hv;cases hv;exact hR
 ·simp only [List.mem_cons,List.not_mem_nil,or_false] at he
  rcases he with rfl | rfl
  ·exact ⟨hl,h1⟩
  ·exact ⟨hh,h2⟩
noncomputable def c_Index_places:CS:=(.cons (.ret (.comp (.nm 21) [21,44,102] false false (.att (.nm 76) 41) (.tt))) .nil)
theorem o_Index_places:okDf false 1048 [true] [76] [] c_Index_places=true:=by decide +kernel
theorem places_ok {ix:Ix} (h:P (.lst ((ix.cols.map (·.1)).map .int))):FN T (r+1) false 1048 [ix.t] P:=by
 refine enterF c_Index_places [true] [76] [] false o_Index_places ?_
 refine compL_one colT (fun q=>.int q.1) (fun q _ R hR=>hR) ?_
 rw [List.map_map] at h
 exact h
theorem eqOk_get:∀ {os:List O} {ps:List Int} {i:Nat} {o:O} {p:Int},eqOk rows n os ps=true→os[i]?=some o→ps[i]?=some p→yes .eq (rows n p) (evO rows o)=true:=fun {os}=>by
 induction os with
 | nil=>exact fun {ps i o p} _ ho=>nomatch ho
 | cons o' os ih =>
  intro ps i o p h ho hp
  cases ps with
  | nil=>cases hp
  | cons q ps=>cases i with
   | zero=>exact Option.some.inj ho▸Option.some.inj hp▸(and_of h).1
   | succ i=>exact ih (and_of h).2 ho hp
noncomputable def c_l_in_path_t:CS:=(.cons (.for_ 0 [48] true true (.o1 .len (.att (.nm 27) 33)) (.cons (.ifs (.tnot (.te (.fcall false 1154 (.cons (.k (.str "=")) (.cons (.sub (.nm 71) (.o2 .add (.sub (.nm 72) (.nm 48)) (.k (.int 1)))) (.cons (.fcall false 1161 (.cons (.sub (.att (.nm 27) 33) (.nm 48)) (.cons (.nc 32) .nil))) .nil)))))) (.cons (.ret (.k (.bool false))) .nil) .nil) (.cons (.kp [27,71,72]) .nil))) (.cons (.ifs (.te (.o2 .eqI (.o1 .len (.att (.nm 27) 33)) (.o1 .len (.nm 72)))) (.cons (.ret (.k (.bool true))) .nil) .nil) (.cons (.as (.nc 17) (.sub (.nm 71) (.o2 .add (.sub (.nm 72) (.o1 .len (.att (.nm 27) 33))) (.k (.int 1))))) (.cons (.ifs (.te (.o1 .isNN (.att (.nm 27) 100))) (.cons (.ret (.o1 .any (.comp (.o1 .bool (.fcall false 1154 (.cons (.k (.str "=")) (.cons (.nc 17) (.cons (.fcall false 1161 (.cons (.nm 18) (.cons (.nc 32) .nil))) .nil))))) [18] true false (.att (.nm 27) 100) (.tt)))) .nil) .nil) (.cons (.ret (.fcall false 1173 (.cons (.nm 27) (.cons (.nc 17) (.cons (.nc 32) .nil))))) .nil)))))
noncomputable def c_l_in_path:CS:=(.cons (.ifs (.te (.o2 .eqS (.att (.nm 27) 58) (.k (.str "scan")))) (.cons (.ret (.k (.bool true))) .nil) .nil) (.cons (.as (.nm 72) (.ife (.te (.o1 .isN (.att (.nm 27) 38))) (.lstF (.cons (.o1 .neg (.k (.int 1))) .nil)) (.fmeth (.att (.nm 27) 38) 72 .nil))) c_l_in_path_t))
theorem o_l_in_path:okDf false 1178 [true,true,false] [27,71,32] [17,32] c_l_in_path=true:=by decide +kernel
theorem in_path_t {pd:Pd} {j:Jk} {pl:List Int} (hpl:pl=pd.places) (ok:pd.Ok k) (hk:k≤3) (h1:eqOk rows n pd.eqs pd.places=true) (h2:pd.eqs.length=pd.places.length ∨
  ∃ p,pd.places[pd.eqs.length]?=some p∧match pd.inl with
  | some os=>(os.any fun o=>yes .eq (rows n p) (evO rows o))=true
  | none=>endOk rows (rows n p) false pd.low=true∧endOk rows (rows n p) true pd.high=true) (h:P (.bool true)):sx T (r+3) c_l_in_path_t [(27,.t (pathT (pd,j))),(71,.t (rowT rows n)),(72,.t (.lst (pl.map .int)))] [(32,.t (rowsT rows k))] [] fun f _ _ mem=>retK (endF false P) f mem:=by
 subst hpl
 have len1:=ok.len
 have len2:=ok.len2
 refine (?_:((0:Int)≤_∧_≤(1000:Int))∧_)
 refine ⟨by have:(pd.eqs.map O.t).length=pd.eqs.length:=List.length_map _;show (0:Int)≤((pd.eqs.map O.t).length:Int)∧((pd.eqs.map O.t).length:Int)≤1000;rw [this];exact ⟨nC _,nLe (c:=1000) (Nat.le_trans len1 (Nat.le_trans len2 (by decide)))⟩,?_⟩
 refine forR_ind (σ:=Unit) (fun _=>_) (fun _=>_) (fun _=>[]) (fun _ _=>True) (fun _ _=>?_) (fun i _ hi _ R hR=>?_) () trivial
 ·refine (?_:brK _ _ _)
  refine br (fun e=>h) fun e=>?_
  obtain ⟨p,hp,h2⟩:=h2.resolve_left fun q=>by
   have e1:(pd.eqs.map O.t).length=pd.eqs.length:=List.length_map _
   have e2:(pd.places.map TV.int).length=pd.places.length:=List.length_map _
   have e:(((pd.eqs.map O.t).length:Int)==((pd.places.map TV.int).length:Int))=false:=e
   rw [beq_eq_false_iff_ne] at e
   exact e (by rw [e1,e2,q])
  have e1:(pd.eqs.map O.t).length=pd.eqs.length:=List.length_map _
  have hlt:=(List.getElem?_eq_some_iff.mp hp).1
  refine nthN_t (i:=(pd.eqs.map O.t).length) (by rw [e1];exact hlt) (Nat.le_trans len2 (by decide)) fun p' hp'=>?_
  have hp':pd.places[(pd.eqs.map O.t).length]?=some p':=hp'
  rw [e1,hp] at hp';cases hp'
  refine row_ok (ok.pl p (List.mem_of_getElem? hp)) ?_
  obtain ⟨kd,ix,eqs,low,high,inl⟩:=pd
  cases inl with
  | none=>exact between_ok (q:=(_,j)) ok.low ok.high hk h2.1 h2.2 h
  | some os =>
   have hos:=ok.inl os rfl
   refine compL_bool O.t (fun o=>yes .eq (rows n p) (evO rows o)) (fun o ho R hR=>?_) ?_
   ·refine worth_ok (hos o ho) hk ?_
    refine compared_ok (op:=.eq) ?_
    unfold yes at hR
    split at hR
    ·rename_i d hq;rw [hq];exact hR
    ·rename_i hq;rw [hq];exact hR
   ·refine boolM ?_
    exact pB (P:=P) (anyM.trans h2) h
 ·replace hR:=hR () trivial
  replace hi:i<pd.eqs.length:=by have:(pd.eqs.map O.t).length=pd.eqs.length:=List.length_map _;have h:i<(pd.eqs.map O.t).length:=hi;rwa [this] at h
  refine nthN_t (i:=i) (Nat.lt_of_lt_of_le hi len1) (Nat.le_trans len2 (by decide)) (fun p hp=>?_)
  have hv:=eqOk_get h1 (List.getElem?_eq_getElem hi) hp
  unfold yes at hv
  refine row_ok (ok.pl p (List.mem_of_getElem? hp)) ?_
  refine nthN_t (l:=pd.eqs) (i:=i) hi (Nat.le_trans len1 (Nat.le_trans len2 (by decide))) (fun o ho=>?_)
  rw [List.getElem?_eq_getElem hi] at ho;cases ho
  refine worth_ok (ok.eqs _ (List.getElem_mem hi)) hk ?_
  refine compared_ok (op:=.eq) ?_
  split at hv
  ·rename_i d hq;rw [hq];cases hv;exact hR
  ·cases hv
theorem in_path_ok {q:Pd×Jk} (ok:q.1.Ok k) (hk:k≤3) (hin:inPath rows n q.1) (h:P (.bool true)):FN T (r+4) false 1178 [pathT q,rowT rows n,rowsT rows k] P:=by
 refine enterF c_l_in_path [true,true,false] [27,71,32] [17,32] false o_l_in_path ?_
 refine (?_:brK _ _ _)
 refine br (fun e=>h) fun e=>?_
 obtain ⟨⟨kd,ix,eqs,low,high,inl⟩,j⟩:=q
 have h0:=hin.resolve_left fun q=>by rw [show (Pk.str _==_)=((Pk.scan).str=="scan") from congrArg (fun z:Pk=>z.str=="scan") q] at e;exact absurd e (by decide +kernel)
 cases ix with
 | none=>exact in_path_t (pl:=[-1]) rfl ok hk h0.1 h0.2 h
 | some ix =>
  refine places_ok ?_
  exact in_path_t rfl ok hk h0.1 h0.2 h
end
noncomputable def Cd.kids:Cd→List (TV×List Nat)
 | .cmp _ a b=>[(a.t,a.nums),(b.t,b.nums)]
 | .bet a lo hi=>[(a.t,a.nums),(lo.t,lo.nums),(hi.t,hi.nums)]
 | .inl a xs=>(a.t,a.nums)::xs.map fun o=>(o.t,o.nums)
 | .or op a b op' a' b'=>[(cmpT op a b,a.nums++b.nums),(cmpT op' a' b',a'.nums++b'.nums)]
theorem Cd.kids_nums {c:Cd}:c.kids.flatMap (·.2)=c.nums:=by
 cases c<;>simp [Cd.kids,Cd.nums,List.flatMap_map]
noncomputable def addK (ks:List Int) (n:Nat):List Int:=if ks.any (fun y=>decide (y=(n:Int))) then ks else ks++[(n:Int)]
theorem addK_len {ks:List Int} {n:Nat}:(addK ks n).length≤ks.length+1:=by delta addK;split<;>simp
theorem addK_mem {ks:List Int} {n:Nat} {x:Int}:x∈addK ks n↔x∈ks∨(n:Int)=x:=by
 delta addK
 split
 ·rename_i h
  simp only [List.any_eq_true,decide_eq_true_eq] at h
  obtain ⟨y,hy,e⟩:=h
  exact ⟨.inl,fun h=>h.elim id fun e2=>by rw [← e2,← e];exact hy⟩
 ·simp [eq_comm]
theorem addK_nd {ks:List Int} {n:Nat} (h:ks.Nodup):(addK ks n).Nodup:=by
 delta addK
 split
 ·exact h
 ·rename_i q
  simp only [Bool.not_eq_true,List.any_eq_false,decide_eq_true_eq] at q
  exact List.nodup_append.mpr ⟨h,by simp,fun a ha b hb e=>q a ha (by simp at hb;rw [e,hb])⟩
noncomputable def D (ks:List Int):MO:=.dic ks (ks.map fun _=>.t (.bool true))
theorem store_ok {n:Nat} {k:List Int→List AV→Prop}:∀ {ks:List Int},ks.Nodup→k (addK ks n) ((addK ks n).map fun _=>.t (.bool true))→dstoreK ks (ks.map fun _=>AV.t (.bool true)) (n:Int) (.t (.bool true)) k:=by
 intro ks nd h
 have gen:∀ {ks:List Int} {k:List Int→List AV→Prop},ks.Nodup→(if ks.any (fun y=>decide (y=(n:Int))) then k ks (ks.map fun _=>.t (.bool true)) else k (ks++[(n:Int)]) ((ks++[(n:Int)]).map fun _=>.t (.bool true)))→dstoreK ks (ks.map fun _=>AV.t (.bool true)) (n:Int) (.t (.bool true)) k:=by
  intro ks
  induction ks with
  | nil=>intro k _ h;exact h
  | cons y ks ih =>
   intro k nd h
   refine br (fun e=>?_) fun e=>?_
   ·rw [List.any_cons,e,Bool.true_or,if_pos rfl] at h
    have e:=of_decide_eq_true e
    refine brF ?_ h
    rw [List.any_eq_false]
    intro z hz
    simp only [decide_eq_true_eq]
    exact fun e2=>(List.nodup_cons.mp nd).1 (by rw [e,← e2];exact hz)
   ·rw [List.any_cons,e,Bool.false_or] at h
    refine ih (List.nodup_cons.mp nd).2 ?_
    split at h
    ·rename_i q;rw [if_pos q];exact h
    ·rename_i q;rw [if_neg q];exact h
 refine gen nd ?_
 delta addK at h
 split at h
 ·rename_i q;rw [if_pos q];exact h
 ·rename_i q;rw [if_neg q];exact h
theorem short_ok {α:Type} {l:List α} {n:Nat} (h:l.length≤n):shortK n l=true:=by
 induction l generalizing n with
 | nil=>cases n<;>rfl
 | cons _ l ih=>cases n with
  | zero=>exact absurd h (Nat.not_succ_le_zero _)
  | succ n=>exact ih (Nat.le_of_succ_le_succ h)
theorem short2 {α β γ:Type} {l:List α} {f:α→β} {g:β→γ} (h:l.length≤900):shortK 900 ((l.map f).map g)=true:=short_ok (by rw [List.length_map,List.length_map];exact h)
section
variable {T:Top} {r:Nat} {P:TV→Prop}
noncomputable def c_children:CS:=(.cons (.ifs (.te (.o2 .isi (.nm 11) (.k (.val (Value.ref 142))))) .stop .nil) (.cons (.ifs (.te (.o2 .isi (.nm 11) (.k (.val (Value.ref 168))))) (.cons (.ret (.lstF (.cons (.att (.nm 11) 9) (.cons (.att (.nm 11) 10) .nil)))) .nil) .nil) (.cons (.ifs (.te (.o2 .isi (.nm 11) (.k (.val (Value.ref 194))))) (.cons (.ret (.lstF (.cons (.att (.nm 11) 17) (.cons (.att (.nm 11) 28) (.cons (.att (.nm 11) 29) .nil))))) .nil) .nil) (.cons (.ifs (.te (.o2 .isi (.nm 11) (.k (.val (Value.ref 220))))) (.cons (.ret (.o2 .addL (.lstF (.cons (.att (.nm 11) 17) .nil)) (.o1 .list (.att (.nm 11) 19)))) .nil) .nil) (.cons (.ifs (.te (.o2 .isi (.nm 11) (.k (.val (Value.ref 322))))) .stop .nil) (.cons (.ifs (.te (.o2 .isi (.nm 11) (.k (.val (Value.ref 348))))) .stop .nil) (.cons (.ifs (.te (.o2 .isi (.nm 11) (.k (.val (Value.ref 452))))) .stop .nil) (.cons (.ifs (.te (.o2 .isi (.nm 11) (.tup (.cons (.k (.val (Value.ref 246))) (.cons (.k (.val (Value.ref 374))) (.cons (.k (.val (Value.ref 400))) (.cons (.k (.val (Value.ref 426))) .nil))))))) .stop .nil) (.cons (.ret (.lstF .nil)) .nil)))))))))
theorem o_children:okDf false 488 [true] [11] [] c_children=true:=by decide +kernel
theorem children_O {o:O} (h:P (.lst [])):FN T (r+1) false 488 [o.t] P:=by
 refine enterF c_children [true] [11] [] false o_children ?_
 cases o<;>exact h
theorem children_Cd {c:Cd} (h:P (.lst (c.kids.map (·.1)))) (hc:∀ a xs,c=.inl a xs→xs.length≤3):FN T (r+1) false 488 [c.t] P:=by
 refine enterF c_children [true] [11] [] false o_children ?_
 cases c with
 | inl a xs =>
  refine (?_:_∧_)
  refine ⟨by have:=hc _ _ rfl;simp;lia,?_⟩
  have e:(Cd.kids (.inl a xs)).map (·.1)=a.t::xs.map O.t:=by delta Cd.kids;rw [List.map_cons,List.map_map];rfl
  rw [e] at h
  exact h
 | _=>exact h
noncomputable def ColP (T:Top) (r:Nat) (t:TV) (ns:List Nat):Prop:=∀ (ks:List Int) (k:AV→Mem→Prop),ks.Nodup→ks.length+ns.length≤50→k (.t .none) [D (ns.foldl addK ks)]→CALL T r (.ref 502) [.t t,.ref 0] [D ks] k
noncomputable def c_collect_numbers_t:CS:=(.cons (.for_ 0 [13] true false (.fcall false 488 (.cons (.nm 11) .nil)) (.cons (.ex (.call 502 (.cons (.nm 13) (.cons (.nm 12) .nil)))) (.cons (.kp [11,12]) .nil))) .nil)
noncomputable def c_collect_numbers:CS:=(.cons (.ifs (.te (.o2 .isi (.nm 11) (.k (.val (Value.ref 116))))) (.cons (.as (.sub (.nm 12) (.att (.nm 11) 43)) (.k (.bool true))) .nil) .nil) (.cons (.ifs (.te (.o2 .isi (.nm 11) (.tup (.cons (.k (.val (Value.ref 246))) (.cons (.k (.val (Value.ref 272))) (.cons (.k (.val (Value.ref 298))) .nil)))))) .stop .nil) c_collect_numbers_t))
theorem o_collect_numbers:okDf false 502 [true,true] [11,12] [] c_collect_numbers=true:=by decide +kernel
theorem col_O {o:O}:ColP T (r+2) o.t o.nums:=by
 intro ks k nd hz h
 refine enter c_collect_numbers [true,true] [11,12] [] false o_collect_numbers ?_
 cases o with
 | lit x =>
  refine children_O ?_
  exact h
 | name n p =>
  refine (?_:brK _ _ _)
  refine brT' (short_ok (by simp [O.nums] at hz;lia)) ?_
  refine store_ok nd ?_
  refine children_O (o:=.name n p) ?_
  exact h
theorem col_kids {t:TV} {l:List (TV×List Nat)} {k:AV→Mem→Prop} {ks:List Int} (hch:∀ P:TV→Prop,P (.lst (l.map (·.1)))→FN T r false 488 [t] P) (hl:∀ x∈l,ColP T r x.1 x.2) (nd:ks.Nodup) (hz:ks.length+(l.flatMap (·.2)).length≤50) (h:k (.t .none) [D ((l.flatMap (·.2)).foldl addK ks)]) :
  sx T r c_collect_numbers_t [(11,.t t),(12,.ref 0)] [] [D ks] fun f _ _ mem=>retK k f mem:=by
 refine hch _ ?_
 refine forL_ind (α:=TV×List Nat) (σ:=List Int) (fun x=>.t x.1) (fun _=>_) (fun _=>[]) (fun ks=>[D ks]) (fun l ks=>(∀ x∈l,ColP T r x.1 x.2)∧ks.Nodup∧ks.length+(l.flatMap (·.2)).length≤50∧k (.t .none) [D ((l.flatMap (·.2)).foldl addK ks)]) (fun ks h=>h.2.2.2) (fun x l ks hI R hR=>?_) l ks mm ⟨hl,nd,hz,h⟩
 obtain ⟨hl,nd,hz,h⟩:=hI
 rw [List.flatMap_cons,List.length_append] at hz
 rw [List.flatMap_cons,List.foldl_append] at h
 have key:∀ {ns:List Nat} {ks:List Int},ks.Nodup→(ns.foldl addK ks).Nodup∧(ns.foldl addK ks).length≤ks.length+ns.length:=fun {ns}=>by
  induction ns with
  | nil=>exact fun h=>⟨h,Nat.le_refl _⟩
  | cons n ns ih=>exact fun {ks} h=>⟨(ih (addK_nd h)).1,Nat.le_trans (ih (addK_nd h)).2 (by rw [List.length_cons,Nat.add_comm ns.length 1,← Nat.add_assoc];exact Nat.add_le_add_right addK_len _)⟩
 refine hl x (.head _) ks _ nd (Nat.le_trans (by rw [← Nat.add_assoc];exact Nat.le_add_right _ _) hz) ?_
 exact hR _ ⟨fun y hy=>hl y (.tail _ hy),(key nd).1,Nat.le_trans (Nat.add_le_add_right (key nd).2 _) (by rw [Nat.add_assoc];exact hz),h⟩
theorem col_cmp {op:Op} {a b:O}:ColP T (r+3) (cmpT op a b) (a.nums++b.nums):=by
 intro ks k nd hz h
 refine enter c_collect_numbers [true,true] [11,12] [] false o_collect_numbers ?_
 exact col_kids (l:=[(a.t,a.nums),(b.t,b.nums)]) (fun P h=>children_Cd (c:=.cmp op a b) h fun _ _ e=>nomatch e) (fun x hx=>by
  simp only [List.mem_cons,List.not_mem_nil,or_false] at hx
  rcases hx with rfl | rfl<;>exact col_O) nd (by simpa using hz) (by simpa using h)
theorem col_Cd {c:Cd} (hc:c.ok 3):ColP T (r+4) c.t c.nums:=by
 intro ks k nd hz h
 have e:=c.kids_nums
 rw [← e] at hz h
 have key:sx T (r+3) c_collect_numbers_t [(11,.t c.t),(12,.ref 0)] [] [D ks] fun f _ _ mem=>retK k f mem:=by
  refine col_kids (fun P h=>children_Cd h fun a xs e=>by subst e;exact hc.2.2) (fun x hx=>?_) nd hz h
  cases c with
  | cmp op a b=>simp only [Cd.kids,List.mem_cons,List.not_mem_nil,or_false] at hx;rcases hx with rfl | rfl<;>exact col_O
  | bet a lo hi=>simp only [Cd.kids,List.mem_cons,List.not_mem_nil,or_false] at hx;rcases hx with rfl | rfl | rfl<;>exact col_O
  | inl a xs =>
   simp only [Cd.kids,List.mem_cons,List.mem_map] at hx
   rcases hx with rfl | ⟨o,_,rfl⟩<;>exact col_O
  | or op a b op' a' b'=>simp only [Cd.kids,List.mem_cons,List.not_mem_nil,or_false] at hx;rcases hx with rfl | rfl<;>exact col_cmp
 refine enter c_collect_numbers [true,true] [11,12] [] false o_collect_numbers ?_
 cases c<;>exact key
theorem foldK_mem {x:Int} {ns:List Nat} {ks:List Int}:x∈ns.foldl addK ks↔x∈ks∨∃ n∈ns,(n:Int)=x:=by
 induction ns generalizing ks with
 | nil=>exact ⟨.inl,fun h=>h.elim id fun h=>nomatch h.choose_spec.1⟩
 | cons n ns ih=>rw [List.foldl_cons,ih,addK_mem];simp -iota [or_assoc]
theorem foldK_nd:∀ {ns:List Nat} {ks:List Int},ks.Nodup→(ns.foldl addK ks).Nodup
 | [],ks,h=>h
 | n::ns,ks,h=>foldK_nd (ns:=ns) (addK_nd h)
theorem foldK_len {ns:List Nat} {ks:List Int}:(ns.foldl addK ks).length≤ks.length+ns.length:=by
 induction ns generalizing ks with
 | nil=>exact Nat.le_refl _
 | cons n ns ih =>
  refine Nat.le_trans ih ?_
  rw [List.length_cons,Nat.add_comm ns.length 1,← Nat.add_assoc];exact Nat.add_le_add_right addK_len _
theorem in3b {v:Int} (h:0≤v∧v<3):((0:Int)≤1+v∧1+v≤1000)∧0<(1+v).toNat∧(1+v).toNat≤3:=by rcases in3 h with rfl | rfl | rfl<;>decide
theorem two3 {a b:Int} (h:0≤a) (h1:a<b) (h2:b<3):(a=0∧b=1)∨(a=0∧b=2)∨(a=1∧b=2):=by
 rcases in3 ⟨h,Int.lt_trans h1 h2⟩ with rfl | rfl | rfl<;>rcases in3 ⟨Int.le_trans h (Int.le_of_lt h1),h2⟩ with rfl | rfl | rfl<;>first | exact .inl ⟨rfl,rfl⟩ | exact .inr (.inl ⟨rfl,rfl⟩) | exact .inr (.inr ⟨rfl,rfl⟩) | exact absurd h1 (by decide)
theorem tri0 {a b c:Int} (h:0≤a) (h1:a<b) (h2:b<c) (h3:c<3):a=0∧b=1∧c=2:=by
 rcases two3 (Int.le_trans h (Int.le_of_lt h1)) h2 h3 with ⟨rfl,rfl⟩ | ⟨rfl,rfl⟩ | ⟨rfl,rfl⟩
 ·exact absurd h1 (Int.not_lt.mpr h)
 ·exact absurd h1 (Int.not_lt.mpr h)
 ·exact ⟨Int.le_antisymm (Int.le_of_lt_add_one (b:=0) h1) h,rfl,rfl⟩
theorem no4 {a b c d:Int} (h:0≤a) (h1:a<b) (h2:b<c) (h3:c<d) (h4:d<3):False:=by
 obtain ⟨rfl,_,_⟩:=tri0 (Int.le_trans h (Int.le_of_lt h1)) h2 h3 h4
 exact absurd h1 (Int.not_lt.mpr h)
theorem set3 {ns:List Int} (nd:ns.Nodup) (hp:ns.Pairwise (·≤·)) (hb:∀ x∈ns,0≤x∧x<3):okSet ns=true:=by
 have hlt:ns.Pairwise (·<·):=(hp.and nd).imp Int.lt_iff_le_and_ne.mpr
 clear nd hp
 cases ns with
 | nil=>rfl
 | cons a l =>
  have h0:=hb a (.head _)
  cases l with
  | nil=>rcases in3 h0 with rfl | rfl | rfl<;>rfl
  | cons b l =>
   obtain ⟨h1,hlt⟩:=List.pairwise_cons.mp hlt
   have k1:=h1 b (.head _)
   cases l with
   | nil=>rcases two3 h0.1 k1 (hb b (.tail _ (.head _))).2 with ⟨rfl,rfl⟩ | ⟨rfl,rfl⟩ | ⟨rfl,rfl⟩<;>rfl
   | cons c l =>
    obtain ⟨h2,hlt⟩:=List.pairwise_cons.mp hlt
    have k2:=h2 c (.head _)
    cases l with
    | nil=>obtain ⟨rfl,rfl,rfl⟩:=tri0 h0.1 k1 k2 (hb c (.tail _ (.tail _ (.head _)))).2;rfl
    | cons d l=>exact (no4 h0.1 k1 k2 ((List.pairwise_cons.mp hlt).1 d (.head _)) (hb d (.tail _ (.tail _ (.tail _ (.head _))))).2).elim
noncomputable def c_outer_numbers:CS:=(.cons (.as (.nm 12) (.dict)) (.cons (.ex (.call 502 (.cons (.nm 11) (.cons (.nm 12) .nil)))) (.cons (.ret (.o1 .sorted (.nm 12))) .nil)))
theorem o_outer_numbers:okDf false 495 [true] [11] [] c_outer_numbers=true:=by decide +kernel
theorem outer_ok {t:TV} {ns:List Nat} (hc:ColP T r t ns) (hz:ns.length≤50) (hb:∀ n∈ns,n<3) (h:∀ ms:List Int,okSet ms=true→(∀ x,x∈ms↔∃ n∈ns,(n:Int)=x)→P (.lst (ms.map .int))):FN T (r+1) false 495 [t] P:=by
 refine enterF c_outer_numbers [true] [11] [] false o_outer_numbers ?_
 refine hc [] _ .nil (by simpa using hz) ?_
 refine (?_:_∧∀ ms:List Int,_→_→_)
 refine ⟨short_ok (Nat.le_trans foldK_len (by rw [List.length_nil,Nat.zero_add];exact Nat.le_trans hz (by decide))),fun ms hp hs=>?_⟩
 have hm:∀ x,x∈ms↔∃ n∈ns,(n:Int)=x:=fun x=>by rw [hp.mem_iff,foldK_mem];simp
 exact h ms (set3 (hp.nodup_iff.mpr (foldK_nd .nil)) hs fun x hx=>by obtain ⟨n,hn,e⟩:=(hm x).mp hx;exact e▸⟨Int.natCast_nonneg n,Int.ofNat_lt.mpr (hb n hn)⟩) hm
end
noncomputable def O.aff:O→TV
 | .lit _=>.none
 | .name _ p=>.str (affn (neg p))
noncomputable def keptB:Bool→Bool→Bool
 | false,true=>true
 | _,_=>false
noncomputable def keptT (b:Bool):TV:=match b with | true=>.str "numeric" | false=>.none
noncomputable def O.isCol (n:Nat):O→Bool
 | .lit _=>false
 | .name m _=>(m:Int)==(n:Int)
noncomputable def O.free (n:Nat):O→Bool
 | .lit _=>true
 | .name m _=>!((m:Int)==(n:Int))
noncomputable def O.place:O→Int
 | .lit _=>0
 | .name _ p=>p
noncomputable def cmpBd (p:Int) (op:Op) (o:O):Option Bd:=match keptB (neg p) o.isR with | true=>none | false=>some (.cmp p op o)
noncomputable def Op.turn:Op→Op
 | .eq=>.eq | .lt=>.gt | .le=>.ge | .gt=>.lt | .ge=>.le | .ne=>.ne
section
variable {T:Top} {r:Nat} {P:TV→Prop} {n:Nat} {o a b:O}
noncomputable def c_comparison_affinities:CS:=(.cons (.ifs (.tand (.te (.o2 .inG (.nm 9) (.k (.val (Value.ref 455))))) (.tand (.te (.o2 .niG (.nm 10) (.k (.val (Value.ref 455))))) .tt)) (.cons (.ret (.tup (.cons (.k .none) (.cons (.k (.str "numeric")) .nil)))) .nil) .nil) (.cons (.ifs (.tand (.te (.o2 .inG (.nm 10) (.k (.val (Value.ref 455))))) (.tand (.te (.o2 .niG (.nm 9) (.k (.val (Value.ref 455))))) .tt)) (.cons (.ret (.tup (.cons (.k (.str "numeric")) (.cons (.k .none) .nil)))) .nil) .nil) (.cons (.ifs (.tand (.te (.o2 .eqZ (.nm 9) (.k (.str "text")))) (.tand (.te (.o1 .isN (.nm 10))) .tt)) (.cons (.ret (.tup (.cons (.k .none) (.cons (.k (.str "text")) .nil)))) .nil) .nil) (.cons (.ifs (.tand (.te (.o2 .eqZ (.nm 10) (.k (.str "text")))) (.tand (.te (.o1 .isN (.nm 9))) .tt)) (.cons (.ret (.tup (.cons (.k (.str "text")) (.cons (.k .none) .nil)))) .nil) .nil) (.cons (.ret (.tup (.cons (.k .none) (.cons (.k .none) .nil)))) .nil)))))
theorem o_comparison_affinities:okDf false 476 [true,true] [9,10] [] c_comparison_affinities=true:=by decide +kernel
theorem comp_ok {d:Bool} (h:P (.tup [keptT (keptB d o.isR),ledT d o.isR])):FN T (r+1) false 476 [.str (affn d),o.aff] P:=by
 refine enterF c_comparison_affinities [true,true] [9,10] [] false o_comparison_affinities ?_
 cases o with
 | lit x=>cases d<;>exact h
 | name n p =>
  have h:P (.tup [keptT (keptB d (neg p)),ledT d (neg p)]):=h
  show initK _ _ (dfl false (arg0 false [.str (affn d),.str (affn (neg p))])) _ _ _
  generalize neg p=e at h ⊢
  cases e<;>cases d<;>exact h
noncomputable def c_affinity_of:CS:=(.cons (.ifs (.te (.o2 .isi (.nm 11) (.k (.val (Value.ref 116))))) (.cons (.ret (.att (.nm 11) 56)) .nil) .nil) (.cons (.ifs (.te (.o2 .isi (.nm 11) (.k (.val (Value.ref 374))))) .stop .nil) (.cons (.ifs (.te (.o2 .isi (.nm 11) (.k (.val (Value.ref 400))))) .stop .nil) (.cons (.ifs (.te (.o2 .isi (.nm 11) (.k (.val (Value.ref 298))))) .stop .nil) (.cons (.ret (.k .none)) .nil)))))
theorem p_affinity_of:okDf true 510 [true,true] [11,14] [] c_affinity_of=true:=by decide +kernel
theorem aff_ok (h:P o.aff):FN T (r+1) false 510 [o.t] P:=by
 refine enterF c_affinity_of [true,true] [11,14] [] true p_affinity_of ?_
 cases o<;>exact h
noncomputable def c_explicit_collation:CS:=(.cons (.ifs (.te (.o2 .isi (.nm 11) (.k (.val (Value.ref 400))))) .stop .nil) (.cons (.ifs (.te (.o2 .isi (.nm 11) (.k (.val (Value.ref 142))))) .stop .nil) (.cons (.ifs (.te (.o2 .isi (.nm 11) (.k (.val (Value.ref 374))))) .stop .nil) (.cons (.ifs (.te (.o2 .isi (.nm 11) (.k (.val (Value.ref 168))))) (.cons (.ret (.or (.fcall false 517 (.cons (.att (.nm 11) 9) .nil)) (.fcall false 517 (.cons (.att (.nm 11) 10) .nil)))) .nil) .nil) (.cons (.ret (.k .none)) .nil)))))
theorem o_explicit_collation:okDf false 517 [true] [11] [] c_explicit_collation=true:=by decide +kernel
theorem exc_ok (h:P .none):FN T (r+1) false 517 [o.t] P:=by
 refine enterF c_explicit_collation [true] [11] [] false o_explicit_collation ?_
 cases o<;>exact h
noncomputable def O.coll:O→TV
 | .lit _=>.none
 | .name _ _=>.str "binary"
noncomputable def c_column_collation:CS:=(.cons (.ifs (.te (.o2 .isi (.nm 11) (.k (.val (Value.ref 116))))) (.cons (.ret (.att (.nm 11) 44)) .nil) .nil) (.cons (.ifs (.te (.o2 .isi (.nm 11) (.k (.val (Value.ref 374))))) .stop .nil) (.cons (.ifs (.tand (.te (.o2 .isi (.nm 11) (.k (.val (Value.ref 142))))) (.tand (.te (.o2 .eqS (.att (.nm 11) 16) (.k (.str "+")))) .tt)) (.cons (.ret (.fcall false 524 (.cons (.att (.nm 11) 77) .nil))) .nil) .nil) (.cons (.ret (.k .none)) .nil))))
theorem o_column_collation:okDf false 524 [true] [11] [] c_column_collation=true:=by decide +kernel
theorem coc_ok (h:P o.coll):FN T (r+1) false 524 [o.t] P:=by
 refine enterF c_column_collation [true] [11] [] false o_column_collation ?_
 cases o<;>exact h
noncomputable def c_collation_of:CS:=(.cons (.ret (.or (.fcall false 517 (.cons (.nm 11) .nil)) (.or (.fcall false 524 (.cons (.nm 11) .nil)) (.k (.str "binary"))))) .nil)
theorem p_collation_of:okDf true 532 [true,true] [11,14] [] c_collation_of=true:=by decide +kernel
theorem col_ok (h:P (.str "binary")):FN T (r+2) false 532 [o.t] P:=by
 refine enterF c_collation_of [true,true] [11,14] [] true p_collation_of ?_
 refine exc_ok ?_
 refine coc_ok ?_
 cases o<;>exact h
noncomputable def c_comparison_collation:CS:=(.cons (.for_ 0 [12] true false (.tup (.cons (.fcall false 517 (.cons (.nm 9) .nil)) (.cons (.fcall false 517 (.cons (.nm 10) .nil)) (.cons (.fcall false 524 (.cons (.nm 9) .nil)) .nil)))) (.cons (.ifs (.te (.o1 .isNN (.nm 12))) (.cons (.ret (.nm 12)) .nil) .nil) .nil)) (.cons (.ret (.or (.fcall false 524 (.cons (.nm 10) .nil)) (.k (.str "binary")))) .nil))
theorem o_comparison_collation:okDf false 539 [true,true] [9,10] [] c_comparison_collation=true:=by decide +kernel
theorem ccol_ok (h:P (.str "binary")):FN T (r+2) false 539 [a.t,b.t] P:=by
 refine enterF c_comparison_collation [true,true] [9,10] [] false o_comparison_collation ?_
 refine exc_ok ?_
 refine exc_ok ?_
 refine coc_ok ?_
 cases a with
 | name _ _=>exact h
 | lit _ =>
  refine coc_ok ?_
  cases b<;>exact h
noncomputable def c_is_column_of:CS:=(.cons (.ret (.and (.o2 .isi (.nm 11) (.k (.val (Value.ref 116)))) (.o2 .eqI (.att (.nm 11) 43) (.nm 15)))) .nil)
theorem o_is_column_of:okDf false 557 [true,true] [11,15] [] c_is_column_of=true:=by decide +kernel
theorem isCol_ok (h:P (.bool (o.isCol n))):FN T (r+1) false 557 [o.t,.int n] P:=by
 refine enterF c_is_column_of [true,true] [11,15] [] false o_is_column_of ?_
 cases o<;>exact h
noncomputable def c_is_free_of:CS:=(.cons (.ret (.o2 .niI (.nm 15) (.fcall false 495 (.cons (.nm 11) .nil)))) .nil)
theorem o_is_free_of:okDf false 564 [true,true] [11,15] [] c_is_free_of=true:=by decide +kernel
theorem free_ok (hn:o.ok 3) (h:P (.bool (o.free n))):FN T (r+4) false 564 [o.t,.int n] P:=by
 refine enterF c_is_free_of [true,true] [11,15] [] false o_is_free_of ?_
 refine outer_ok (col_O (o:=o)) (by cases o<;>simp [O.nums]) (fun m hm=>by cases o with | lit _=>cases hm | name _ _=>simp [O.nums] at hm;subst hm;exact hn.1) fun ms _ hm=>?_
 refine intM ?_
 refine pB (P:=P) ?_ h
 cases o with
 | lit x =>
  have:ms=[]:=List.eq_nil_iff_forall_not_mem.mpr fun x hx=>by obtain ⟨_,h,_⟩:=(hm x).mp hx;cases h
  rw [this];rfl
 | name m p =>
  show (!(ms.any (·==(n:Int))))=!((m:Int)==(n:Int))
  congr 1
  rw [Bool.eq_iff_iff,List.any_eq_true]
  simp only [beq_iff_eq]
  constructor
  ·rintro ⟨x,hx,rfl⟩
   obtain ⟨q,hq,e⟩:=(hm _).mp hx
   simp [O.nums] at hq;subst hq;exact e
  ·intro e
   exact ⟨n,(hm _).mpr ⟨m,by simp [O.nums],e⟩,rfl⟩
noncomputable def c_compared_bound:CS:=(.cons (.un (.cons (.nm 95) (.cons (.nm 96) .nil)) (.fcall false 476 (.cons (.att (.nm 7) 56) (.cons (.fcall false 510 (.cons (.nm 17) .nil)) .nil)))) (.cons (.ifs (.te (.o1 .isNN (.nm 95))) (.cons (.ret (.k .none)) .nil) .nil) (.cons (.ret (.fcall false 581 (.cons (.att (.nm 7) 21) (.cons (.nm 16) (.cons (.nm 17) (.cons (.nm 96) (.cons (.fcall false 539 (.cons (.nm 9) (.cons (.nm 10) .nil))) .nil))))))) .nil)))
theorem o_compared_bound:okDf false 635 [true,true,true,true,true] [7,16,17,9,10] [] c_compared_bound=true:=by decide +kernel
theorem cbound_ok {m:Nat} {p:Int} {op:Op} (h:P (optT Bd.t (cmpBd p op o))):FN T (r+3) false 635 [(O.name m p).t,.str op.str,o.t,a.t,b.t] P:=by
 refine enterF c_compared_bound [true,true,true,true,true] [7,16,17,9,10] [] false o_compared_bound ?_
 refine aff_ok ?_
 refine comp_ok (d:=neg p) ?_
 delta cmpBd at h
 cases e:keptB (neg p) o.isR with
 | true=>rw [e] at h;exact h
 | false =>
  rw [e] at h
  refine ccol_ok ?_
  exact bound_ok h
end
theorem fzc_t {d:Nat} {mem:Mem} {k:Mem→Prop}:∀ {l:List TV},k mem→fzc (fzK (d+1)) (l.map .t) mem k
 | [],h=>h
 | _::l,h=>fzc_t (l:=l) h
theorem resL_t {mem:Mem}:∀ {l:List TV} {k:List TV→Prop},k l→resL mem (l.map .t) k
 | [],_,h=>h
 | a::l,k,h=>resL_t (l:=l) (k:=fun us=>k (a::us)) h
theorem somes {α:Type} {f:α→TV}:∀ {l:List (Option α)},(l.filter Option.isSome).map (optT f)=(l.filterMap id).map f
 | []=>rfl
 | none::l=>somes (l:=l)
 | some a::l=>congrArg (f a::·) (somes (l:=l))
theorem snocM {α:Type} {s:List α} {g:α→TV} {x:α}:((s++[x]).map g).map AV.t=(s.map g).map AV.t++[.t (g x)]:=by simp
noncomputable def cmpBds (n:Nat) (op:Op) (a b:O):List (Option Bd) :=
 (match a.isCol n&&b.free n with | true=>[cmpBd a.place op b] | false=>[])++(match b.isCol n&&a.free n with | true=>[cmpBd b.place op.turn a] | false=>[])
noncomputable def betBds (n:Nat) (a lo hi:O):List (Option Bd):=match a.isCol n with
 | false=>[]
 | true=>(match lo.free n with | true=>[cmpBd a.place .ge lo] | false=>[])++(match hi.free n with | true=>[cmpBd a.place .le hi] | false=>[])
noncomputable def bdsT (l:List (Option Bd)):TV:=.lst ((l.filterMap id).map Bd.t)
section
variable {T:Top} {r:Nat} {P:TV→Prop} {n:Nat} {o a b lo hi:O} {op:Op}
noncomputable def c_comparison_bounds_t:CS:=(.cons (.ifs (.tand (.te (.fcall false 557 (.cons (.att (.nm 11) 10) (.cons (.nm 15) .nil)))) (.tand (.te (.fcall false 564 (.cons (.att (.nm 11) 9) (.cons (.nm 15) .nil)))) .tt)) (.cons (.ex (.app (.nm 12) (.fcall false 635 (.cons (.att (.nm 11) 10) (.cons (.turn (.att (.nm 11) 16)) (.cons (.att (.nm 11) 9) (.cons (.att (.nm 11) 9) (.cons (.att (.nm 11) 10) .nil)))))))) .nil) .nil) (.cons (.fzv 12) (.cons (.ret (.comp (.nm 26) [26] true false (.nm 12) (.te (.o1 .isNN (.nm 26))))) .nil)))
noncomputable def c_comparison_bounds:CS:=(.cons (.as (.nm 12) (.list .nil)) (.cons (.ifs (.tand (.te (.fcall false 557 (.cons (.att (.nm 11) 9) (.cons (.nm 15) .nil)))) (.tand (.te (.fcall false 564 (.cons (.att (.nm 11) 10) (.cons (.nm 15) .nil)))) .tt)) (.cons (.ex (.app (.nm 12) (.fcall false 635 (.cons (.att (.nm 11) 9) (.cons (.att (.nm 11) 16) (.cons (.att (.nm 11) 10) (.cons (.att (.nm 11) 9) (.cons (.att (.nm 11) 10) .nil)))))))) .nil) .nil) c_comparison_bounds_t))
theorem o_comparison_bounds:okDf false 640 [true,true] [11,15] [] c_comparison_bounds=true:=by decide +kernel
theorem cmpBds_fin {e:TV} {fr:Fr} {L:List AV} {l:List (Option Bd)} (hf:fr=[(11,.t e),(15,.t (.int n)),(12,.ref 0)]) (hL:L=(l.map (optT Bd.t)).map .t) (h:P (bdsT l)):sx T r (.cons (.fzv 12) (.cons (.ret (.comp (.nm 26) [26] true false (.nm 12) (.te (.o1 .isNN (.nm 26))))) .nil)) fr [] [.lst L] fun f _ _ mem=>retK (endF false P) f mem:=by
 subst hL hf
 refine fzc_t ?_
 refine resL_t ?_
 refine compL_fil (optT Bd.t) (optT Bd.t) Option.isSome (fun o ho R hR=>?_) ?_
 ·cases o with
  | none=>exact hR
  | some b=>obtain ⟨v,a,e⟩:=b.t_eq;have hR:R [b.t] _:=hR;show tgK _ _ _ (.t b.t) _ _;rw [e] at hR ⊢;exact hR
 ·rw [somes];exact h
theorem cmp_bounds_ok (ha:a.ok 3) (hb:b.ok 3) (ho:op≠.ne) (h:P (bdsT (cmpBds n op a b))):FN T (r+5) false 640 [cmpT op a b,.int n] P:=by
 have two:∀ (L:List AV) (l:List (Option Bd)),L=(l.map (optT Bd.t)).map .t→l.length≤10→P (bdsT (l++(match b.isCol n&&a.free n with | true=>[cmpBd b.place op.turn a] | false=>[])))→sx T (r+4) c_comparison_bounds_t [(11,.t (cmpT op a b)),(15,.t (.int n)),(12,.ref 0)] [] [.lst L] fun f _ _ mem=>retK (endF false P) f mem:=fun L l hL hz h=>by
  refine isCol_ok (o:=b) ?_
  refine (?_:brK _ _ _)
  refine br (fun e1=>?_) fun e1=>?_
  ·rw [e1] at h
   refine free_ok ha ?_
   refine (?_:brK _ _ _)
   refine br (fun e2=>?_) fun e2=>?_
   ·rw [e2] at h
    cases b with
    | lit _=>cases e1
    | name m p =>
     have fin:=cmpBds_fin (T:=T) (r:=r+4) (P:=P) (n:=n) (e:=cmpT op a (.name m p)) (L:=L++[.t (optT Bd.t (cmpBd p op.turn a))]) (l:=l++[cmpBd p op.turn a]) rfl (by rw [hL];simp) h
     have hs:shortK 900 L=true:=short_ok (by rw [hL];simp;lia)
     cases op with
     | ne=>exact absurd rfl ho
     | eq=>refine cbound_ok (op:=.eq) ?_;refine (?_:brK _ _ _);refine brT' hs ?_;exact fin
     | lt=>refine cbound_ok (op:=.gt) ?_;refine (?_:brK _ _ _);refine brT' hs ?_;exact fin
     | le=>refine cbound_ok (op:=.ge) ?_;refine (?_:brK _ _ _);refine brT' hs ?_;exact fin
     | gt=>refine cbound_ok (op:=.lt) ?_;refine (?_:brK _ _ _);refine brT' hs ?_;exact fin
     | ge=>refine cbound_ok (op:=.le) ?_;refine (?_:brK _ _ _);refine brT' hs ?_;exact fin
   ·rw [e2] at h
    rw [show (match true&&false with | true=>[cmpBd b.place op.turn a] | false=>[])=[] from rfl,List.append_nil] at h
    exact cmpBds_fin rfl hL h
  ·rw [e1] at h
   rw [show (match false&&a.free n with | true=>[cmpBd b.place op.turn a] | false=>[])=[] from rfl,List.append_nil] at h
   exact cmpBds_fin rfl hL h
 refine enterF c_comparison_bounds [true,true] [11,15] [] false o_comparison_bounds ?_
 refine isCol_ok (o:=a) ?_
 refine (?_:brK _ _ _)
 refine br (fun e1=>?_) fun e1=>?_
 ·refine free_ok hb ?_
  refine (?_:brK _ _ _)
  refine br (fun e2=>?_) fun e2=>?_
  ·cases a with
   | lit _=>cases e1
   | name m p =>
    refine cbound_ok ?_
    exact two _ [cmpBd p op b] rfl (by simp) (by delta cmpBds at h;rw [e1,e2] at h;exact h)
  ·exact two [] [] rfl (by decide) (by delta cmpBds at h;rw [e1,e2] at h;exact h)
 ·exact two [] [] rfl (by decide) (by delta cmpBds at h;rw [e1] at h;exact h)
noncomputable def c_between_bounds:CS:=(.cons (.ifs (.tor (.te (.att (.nm 11) 78)) (.tor (.tnot (.te (.fcall false 557 (.cons (.att (.nm 11) 17) (.cons (.nm 15) .nil))))) .ff)) (.cons (.ret (.lstF .nil)) .nil) .nil) (.cons (.as (.nm 12) (.list .nil)) (.cons (.for_ 0 [16,17] false false (.tup (.cons (.tup (.cons (.k (.str ">=")) (.cons (.att (.nm 11) 28) .nil))) (.cons (.tup (.cons (.k (.str "<=")) (.cons (.att (.nm 11) 29) .nil))) .nil))) (.cons (.ifs (.te (.fcall false 564 (.cons (.nm 17) (.cons (.nm 15) .nil)))) (.cons (.ex (.app (.nm 12) (.fcall false 635 (.cons (.att (.nm 11) 17) (.cons (.nm 16) (.cons (.nm 17) (.cons (.att (.nm 11) 17) (.cons (.nm 17) .nil)))))))) .nil) .nil) (.cons (.kp [11,15,12]) .nil))) (.cons (.fzv 12) (.cons (.ret (.comp (.nm 26) [26] true false (.nm 12) (.te (.o1 .isNN (.nm 26))))) .nil)))))
theorem o_between_bounds:okDf false 645 [true,true] [11,15] [] c_between_bounds=true:=by decide +kernel
theorem bet_bounds_ok (ha:a.ok 3) (hlo:lo.ok 3) (hhi:hi.ok 3) (h:P (bdsT (betBds n a lo hi))):FN T (r+5) false 645 [.obj 194 [17,28,29,78] [a.t,lo.t,hi.t,.bool false],.int n] P:=by
 refine enterF c_between_bounds [true,true] [11,15] [] false o_between_bounds ?_
 refine isCol_ok (o:=a) ?_
 delta betBds at h
 refine (?_:brK _ _ _)
 refine br (fun e1=>?_) fun e1=>?_
 ·rw [show a.isCol n=false by simpa using e1] at h;exact h
 ·replace e1:a.isCol n=true:=by simpa using e1
  cases a with
  | lit _=>cases e1
  | name m p =>
   rw [e1] at h
   refine forL_ind (σ:=List (Option Bd)) (α:=Op×O) (fun e=>.t (.tup [.str e.1.str,e.2.t])) (fun _=>_) (fun _=>[]) (fun s=>[.lst ((s.map (optT Bd.t)).map .t)]) (fun l s=>(∀ e∈l,e.2.ok 3)∧s.length+l.length≤10∧P (bdsT (s++l.flatMap fun e=>match e.2.free n with | true=>[cmpBd p e.1 e.2] | false=>[]))) (fun s h=>?_) (fun e l s hI R hR=>?_) [(.ge,lo),(.le,hi)] [] rfl ⟨?_,by simp,?_⟩
   ·refine cmpBds_fin (n:=n) rfl rfl ?_
    simpa using h.2.2
   ·obtain ⟨op,o⟩:=e
    obtain ⟨ho,hz,h⟩:=hI
    rw [List.flatMap_cons] at h
    simp only [List.length_cons] at hz
    refine free_ok (o:=o) (ho _ (.head _)) ?_
    refine (?_:brK _ _ _)
    refine br (fun e2=>?_) fun e2=>?_
    ·rw [show (op,o).2.free n=true from e2] at h
     refine cbound_ok ?_
     refine (?_:brK _ _ _)
     refine brT' (short_ok (by simp;lia)) ?_
     have:=hR (s++[cmpBd p op o]) ⟨fun e he=>ho e (.tail _ he),by simp;lia,by simpa using h⟩
     rw [snocM] at this;exact this
    ·rw [show (op,o).2.free n=false from e2] at h
     exact hR s ⟨fun e he=>ho e (.tail _ he),by lia,h⟩
   ·intro e he
    simp only [List.mem_cons,List.not_mem_nil,or_false] at he
    rcases he with rfl | rfl
    ·exact hlo
    ·exact hhi
   ·simpa [O.place] using h
noncomputable def inlBds (n:Nat) (a:O) (xs:List O):List (Option Bd):=match a.isCol n&&!xs.isEmpty&&xs.all (O.free n) with
 | false=>[]
 | true=>[some (.inl a.place xs)]
noncomputable def c_list_bounds:CS:=(.cons (.ifs (.tor (.te (.att (.nm 11) 78)) (.tor (.tnot (.te (.fcall false 557 (.cons (.att (.nm 11) 17) (.cons (.nm 15) .nil))))) (.tor (.te (.o2 .eqI (.o1 .len (.att (.nm 11) 19)) (.k (.int 0)))) .ff))) (.cons (.ret (.lstF .nil)) .nil) .nil) (.cons (.for_ 0 [18] true false (.att (.nm 11) 19) (.cons (.ifs (.tnot (.te (.fcall false 564 (.cons (.nm 18) (.cons (.nm 15) .nil))))) (.cons (.ret (.lstF .nil)) .nil) .nil) (.cons (.kp [11,15]) .nil))) (.cons (.un (.cons (.nm 95) (.cons (.nm 96) .nil)) (.fcall false 476 (.cons (.att (.att (.nm 11) 17) 56) (.cons (.k .none) .nil)))) (.cons (.ret (.lstF (.cons (.fcall false 581 (.cons (.att (.att (.nm 11) 17) 21) (.cons (.k (.str "in")) (.cons (.o1 .list (.att (.nm 11) 19)) (.cons (.nm 96) (.cons (.fcall false 532 (.cons (.att (.nm 11) 17) .nil)) .nil)))))) .nil))) .nil))))
theorem o_list_bounds:okDf false 652 [true,true] [11,15] [] c_list_bounds=true:=by decide +kernel
theorem inl_bounds_ok {xs:List O} (hx:∀ o∈xs,o.ok 3) (h:P (bdsT (inlBds n a xs))):FN T (r+5) false 652 [.obj 220 [17,19,78] [a.t,.lst (xs.map O.t),.bool false],.int n] P:=by
 refine enterF c_list_bounds [true,true] [11,15] [] false o_list_bounds ?_
 refine isCol_ok (o:=a) ?_
 delta inlBds at h
 refine (?_:brK _ _ _)
 refine br (fun e1=>?_) fun e1=>?_
 ·rw [show a.isCol n=false by simpa using e1] at h;exact h
 ·replace e1:a.isCol n=true:=by simpa using e1
  cases a with
  | lit _=>cases e1
  | name m p =>
   rw [e1] at h
   refine (?_:brK _ _ _)
   refine br (fun e2=>?_) fun e2=>?_
   ·have:xs=[]:=by
     have e2:(((xs.map O.t).length:Int)==0)=true:=e2
     simpa using e2
    subst this
    exact h
   ·have e2:(((xs.map O.t).length:Int)==0)=false:=e2
    have e2:xs.isEmpty=false:=by cases xs with | nil=>simp at e2 | cons _ _=>rfl
    rw [e2] at h
    refine forL_ind (σ:=Unit) (fun o=>.t (O.t o)) (fun _=>_) (fun _=>[]) (fun _=>[]) (fun l _=>(∀ o∈l,o.ok 3)∧P (bdsT (match l.all (O.free n) with | false=>[] | true=>[some (.inl p xs)]))) (fun _ h=>?_) (fun o l _ hI R hR=>?_) xs () mm ⟨hx,h⟩
    ·refine comp_ok (o:=.lit .nul) (d:=neg p) ?_
     refine col_ok (o:=.name m p) ?_
     refine bound_ok ?_
     exact h.2
    ·obtain ⟨hx,h⟩:=hI
     rw [List.all_cons] at h
     refine free_ok (hx o (.head _)) ?_
     refine (?_:brK _ _ _)
     refine br (fun e3=>?_) fun e3=>?_
     ·rw [show o.free n=false by simpa using e3] at h;exact h
     ·rw [show o.free n=true by simpa using e3] at h;exact hR () ⟨fun e he=>hx e (.tail _ he),h⟩
structure Tm where
 c:Cd
 ms:List Int
 x:TV
 y:TV
 z:TV
noncomputable def Tm.t (m:Tm):TV:=.obj 624 [11,92,16,93,10] [m.c.t,.set m.ms,m.x,m.y,m.z]
noncomputable def Cd.bds (n:Nat):Cd→List (Option Bd)
 | .cmp op a b=>match op with | .ne=>[] | op=>cmpBds n op a b
 | .bet a lo hi=>betBds n a lo hi
 | .inl a xs=>inlBds n a xs
 | .or _ _ _ _ _ _=>[]
noncomputable def c_bounds_of:CS:=(.cons (.as (.nm 11) (.att (.nm 20) 11)) (.cons (.ifs (.tand (.te (.o2 .isi (.nm 11) (.k (.val (Value.ref 168))))) (.tand (.te (.o2 .inQ (.att (.nm 11) 16) (.k (.val (Value.ref 540))))) .tt)) (.cons (.ret (.fcall false 640 (.cons (.nm 11) (.cons (.nm 15) .nil)))) .nil) .nil) (.cons (.ifs (.te (.o2 .isi (.nm 11) (.k (.val (Value.ref 194))))) (.cons (.ret (.fcall false 645 (.cons (.nm 11) (.cons (.nm 15) .nil)))) .nil) .nil) (.cons (.ifs (.te (.o2 .isi (.nm 11) (.k (.val (Value.ref 220))))) (.cons (.ret (.fcall false 652 (.cons (.nm 11) (.cons (.nm 15) .nil)))) .nil) .nil) (.cons (.ret (.lstF .nil)) .nil)))))
theorem o_bounds_of:okDf false 659 [true,true] [20,15] [] c_bounds_of=true:=by decide +kernel
theorem bounds_of_ok {m:Tm} (hc:m.c.ok 3) (h:P (bdsT (m.c.bds n))):FN T (r+6) false 659 [m.t,.int n] P:=by
 refine enterF c_bounds_of [true,true] [20,15] [] false o_bounds_of ?_
 obtain ⟨c,ms,x,y,z⟩:=m
 cases c with
 | cmp op a b=>cases op<;>first | exact h | exact cmp_bounds_ok hc.1 hc.2 (fun e=>nomatch e) h
 | bet a lo hi=>exact bet_bounds_ok hc.1 hc.2.1 hc.2.2 h
 | inl a xs=>exact inl_bounds_ok hc.2.1 h
 | or op a b op' a' b'=>exact h
end
theorem whL_ind {σ:Type} {tst:Fr→Fr→Mem→(Bool→Mem→Prop)→Prop} {turn:Fr→Fr→Mem→(Fl→Fr→Fr→Mem→Prop)→Prop} {k:Fl→Fr→Fr→Mem→Prop} (F C:σ→Fr) (M:σ→Mem) (I:Nat→σ→Prop)
  (h:∀ n s,I n s→∀ W:Fr→Fr→Mem→Prop,(∀ m s',m<n→I m s'→W (F s') (C s') (M s'))→tst (F s) (C s) (M s) fun d mem=>brK d (turn (F s) (C s) mem (loopK 0 W k)) (k .next (F s) (C s) mem)) (N n:Nat) (s:σ) (hn:n<N) (hI:I n s):whL tst turn N (F s) (C s) (M s) k:=by
 induction N generalizing n s with
 | zero=>exact absurd hn (Nat.not_lt_zero _)
 | succ N ih=>exact h n s hI (fun fr cl mem=>whL tst turn N fr cl mem k) fun m s' hm hI'=>ih m s' (Nat.lt_of_lt_of_le hm (Nat.le_of_lt_succ hn)) hI'
noncomputable def andR:List Cd→TV
 | []=>.none
 | [c]=>c.t
 | c::cs=>.obj 168 [16,9,10] [.str "and",andR cs,c.t]
theorem O.nums_len (o:O):o.nums.length≤1:=by cases o<;>simp [O.nums]
theorem O.nums_lt {o:O} {k:Nat} (h:o.ok k):∀ n∈o.nums,n<k:=fun n hn=>by cases o with | lit _=>cases hn | name m p=>simp [O.nums] at hn;subst hn;exact h.1
theorem Cd.nums_len {c:Cd} {k:Nat} (hc:c.ok k):c.nums.length≤50:=by
 cases c with
 | inl a xs =>
  have h1:∀ l:List O,(l.flatMap O.nums).length≤l.length:=fun l=>by
   induction l with
   | nil=>simp
   | cons o l ih=>rw [List.flatMap_cons,List.length_append,List.length_cons];exact Nat.le_trans (Nat.add_le_add o.nums_len ih) (Nat.le_of_eq (Nat.add_comm _ _))
  show (a.nums++xs.flatMap O.nums).length≤50;rw [List.length_append];exact Nat.le_trans (Nat.add_le_add a.nums_len (Nat.le_trans (h1 xs) hc.2.2)) (by decide)
 | cmp op a b=>show (a.nums++b.nums).length≤50;rw [List.length_append];exact Nat.le_trans (Nat.add_le_add a.nums_len b.nums_len) (by decide)
 | bet a b c=>show (a.nums++b.nums++c.nums).length≤50;rw [List.length_append,List.length_append];exact Nat.le_trans (Nat.add_le_add (Nat.add_le_add a.nums_len b.nums_len) c.nums_len) (by decide)
 | or op a b op' c d=>have:=a.nums_len;have:=b.nums_len;have:=c.nums_len;have:=d.nums_len;simp only [Cd.nums,List.length_append];lia
theorem Cd.nums_lt {c:Cd} {k:Nat} (hc:c.ok k):∀ n∈c.nums,n<k:=by
 intro n hn
 cases c with
 | inl a xs=>simp only [Cd.nums,List.mem_append,List.mem_flatMap] at hn;rcases hn with hn | ⟨o,ho,hn⟩;(· exact O.nums_lt hc.1 n hn);exact O.nums_lt (hc.2.1 o ho) n hn
 | cmp op a b=>simp only [Cd.nums,List.mem_append] at hn;rcases hn with hn | hn;(· exact O.nums_lt hc.1 n hn);exact O.nums_lt hc.2 n hn
 | bet a b c=>simp only [Cd.nums,List.mem_append] at hn;rcases hn with (hn | hn) | hn;(· exact O.nums_lt hc.1 n hn);(· exact O.nums_lt hc.2.1 n hn);exact O.nums_lt hc.2.2 n hn
 | or op a b op' c d=>simp only [Cd.nums,List.mem_append] at hn;rcases hn with (hn | hn) | hn | hn;(· exact O.nums_lt hc.1.1 n hn);(· exact O.nums_lt hc.1.2 n hn);(· exact O.nums_lt hc.2.1 n hn);exact O.nums_lt hc.2.2 n hn
section
variable {T:Top} {r:Nat} {P:TV→Prop} {n:Nat}
noncomputable def c_Term_take_form:CS:=(.cons (.as (.nm 11) (.att (.nm 76) 11)) (.cons (.ifs (.tor (.tnot (.te (.o2 .isi (.nm 11) (.k (.val (Value.ref 168)))))) (.tor (.te (.o2 .niQ (.att (.nm 11) 16) (.k (.val (Value.ref 540))))) .ff)) (.cons (.ret0) .nil) .nil) (.cons (.ifs (.te (.o2 .isi (.att (.nm 11) 9) (.k (.val (Value.ref 116))))) (.cons (.unt false (.cons (.att (.nm 76) 16) (.cons (.att (.nm 76) 93) (.cons (.att (.nm 76) 10) .nil))) (.cons (.att (.nm 11) 16) (.cons (.att (.nm 11) 9) (.cons (.att (.nm 11) 10) .nil)))) .nil) (.cons (.ifs (.te (.o2 .isi (.att (.nm 11) 10) (.k (.val (Value.ref 116))))) (.cons (.unt false (.cons (.att (.nm 76) 16) (.cons (.att (.nm 76) 93) (.cons (.att (.nm 76) 10) .nil))) (.cons (.turn (.att (.nm 11) 16)) (.cons (.att (.nm 11) 10) (.cons (.att (.nm 11) 9) .nil)))) .nil) .nil) .nil)) .nil)))
theorem o_Term_take_form:okDf false 604 [true] [76] [] c_Term_take_form=true:=by decide +kernel
theorem take_form_ok {c:Cd} {s:TV} {k:AV→Mem→Prop} (h:∀ x y z:TV,k (.t .none) [.inst 624 [11,92,16,93,10] [.t c.t,.t s,.t x,.t y,.t z]]):CALL T (r+1) (.ref 604) [.ref 0] [.inst 624 [11,92,16,93,10] [.t c.t,.t s,.t .none,.t .none,.t .none]] k:=by
 refine enter c_Term_take_form [true] [76] [] false o_Term_take_form ?_
 cases c with
 | cmp op a b=>cases op<;>cases a<;>cases b<;>exact h _ _ _
 | _=>exact h _ _ _
noncomputable def c_Term_mk:CS:=(.cons (.as (.att (.nm 76) 11) (.nm 11)) (.cons (.as (.att (.nm 76) 92) (.o1 .set (.comp (.nm 15) [15] true false (.fcall false 495 (.cons (.nm 11) .nil)) (.te (.o2 .inD (.nm 15) (.nc 91)))))) (.cons (.as (.att (.nm 76) 16) (.k .none)) (.cons (.as (.att (.nm 76) 93) (.k .none)) (.cons (.as (.att (.nm 76) 10) (.k .none)) (.cons (.ex (.meth (.nm 76) 133 .nil)) .nil))))))
theorem o_Term_mk:okDf false 597 [true,true,false] [76,11,91] [91] c_Term_mk=true:=by decide +kernel
theorem term_ok {c:Cd} {ks:List Int} {vs:List TV} (hc:c.ok 3) (hk:∀ n∈c.nums,(n:Int)∈ks) (h:∀ m:Tm,m.c=c→okSet m.ms=true→(∀ x,x∈m.ms↔∃ n∈c.nums,(n:Int)=x)→P m.t):FN T (r+7) false 624 [c.t,.dic ks vs] P:=by
 refine makerF 597 c_Term_mk [true,true,false] [76,11,91] [91] false (by decide +kernel) o_Term_mk ?_
 have hz:=Cd.nums_len hc
 have hb:=Cd.nums_lt hc
 refine outer_ok (col_Cd hc) hz hb fun ms h1 h2=>?_
 refine compL_fil TV.int TV.int (fun x=>ks.any (·==x)) (fun x hx R hR=>?_) ?_
 ·refine (?_:brK _ _ _)
  refine br (fun e=>?_) fun e=>?_
  ·rw [if_pos e] at hR;exact hR
  ·rw [if_neg (by rw [e];simp)] at hR;exact hR
 ·have e:ms.filter (fun x=>ks.any (·==x))=ms:=List.filter_eq_self.mpr fun x hx=>by
   obtain ⟨n,hn,rfl⟩:=(h2 x).mp hx
   exact List.any_eq_true.mpr ⟨_,hk n hn,by simp⟩
  rw [e]
  refine intM ?_
  refine (?_:_∧_)
  refine ⟨h1,?_⟩
  refine take_form_ok fun x y z=>?_
  exact h ⟨c,ms,x,y,z⟩ rfl h1 h2
noncomputable def c_Term_is_constant:CS:=(.cons (.ret (.o2 .eqI (.o1 .len (.att (.nm 76) 92)) (.k (.int 0)))) .nil)
theorem o_Term_is_constant:okDf false 611 [true] [76] [] c_Term_is_constant=true:=by decide +kernel
theorem is_const_ok {m:Tm} (h:P (.bool ((m.ms.length:Int)==0))):FN T (r+1) false 611 [m.t] P:=enterF c_Term_is_constant [true] [76] [] false o_Term_is_constant h
theorem all_perm {α:Type} {l l':List α} {f:α→Bool} (h:l.Perm l'):l.all f=l'.all f:=by
 rw [Bool.eq_iff_iff,List.all_eq_true,List.all_eq_true];exact ⟨fun q x hx=>q x (h.mem_iff.mpr hx),fun q x hx=>q x (h.mem_iff.mp hx)⟩
theorem allM {α:Type} {g:α→Bool} {l:List α}:(l.map g).all id=l.all g:=by rw [List.all_map];rfl
noncomputable def c_Term_is_known:CS:=(.cons (.ret (.o1 .all (.comp (.o2 .inI (.nm 15) (.nc 94)) [15] true false (.o1 .sorted (.att (.nm 76) 92)) (.tt)))) .nil)
theorem o_Term_is_known:okDf false 616 [true,false] [76,94] [94] c_Term_is_known=true:=by decide +kernel
theorem is_known_ok {m:Tm} {ps:List Int} (h:P (.bool (m.ms.all fun x=>ps.any (·==x)))):FN T (r+1) false 616 [m.t,.lst (ps.map .int)] P:=by
 refine enterF c_Term_is_known [true,false] [76,94] [94] false o_Term_is_known ?_
 refine (?_:∀ ns:List Int,_→_)
 intro ns hp
 refine compL_bool TV.int (fun x=>ps.any (·==x)) (fun x hx R hR=>?_) ?_
 ·exact intM hR
 ·refine boolM ?_
  exact pB (P:=P) (allM.trans (all_perm hp)) h
noncomputable def c_Term_is_ready:CS:=(.cons (.ifs (.te (.o2 .niX (.nc 15) (.att (.nm 76) 92))) (.cons (.ret (.k (.bool false))) .nil) .nil) (.cons (.ret (.o1 .all (.comp (.or (.o2 .eqI (.nm 70) (.nc 15)) (.o2 .inI (.nm 70) (.nc 94))) [70] true false (.o1 .sorted (.att (.nm 76) 92)) (.tt)))) .nil))
theorem o_Term_is_ready:okDf false 621 [true,false,false] [76,15,94] [94,15] c_Term_is_ready=true:=by decide +kernel
theorem is_ready_ok {m:Tm} {ps:List Int} (h:P (.bool (m.ms.contains (n:Int)&&m.ms.all fun x=>(x==(n:Int))||ps.any (·==x)))):FN T (r+1) false 621 [m.t,.int n,.lst (ps.map .int)] P:=by
 refine enterF c_Term_is_ready [true,false,false] [76,15,94] [94,15] false o_Term_is_ready ?_
 refine (?_:brK _ _ _)
 refine br (fun e=>?_) fun e=>?_
 ·rw [show m.ms.contains (n:Int)=false by simpa using e] at h;exact h
 ·rw [show m.ms.contains (n:Int)=true by simpa using e,Bool.true_and] at h
  refine (?_:∀ ns:List Int,_→_)
  intro ns hp
  refine compL_bool TV.int (fun x=>(x==(n:Int))||ps.any (·==x)) (fun x hx R hR=>?_) ?_
  ·refine (?_:brK _ _ _)
   refine br (fun e=>?_) fun e=>?_
   ·rw [show (x==(n:Int)||ps.any (·==x))=(x==(n:Int)) by rw [e];rfl] at hR;exact hR
   ·rw [e,Bool.false_or] at hR;exact intM hR
  ·refine boolM ?_
   exact pB (P:=P) (allM.trans (all_perm hp)) h
end
theorem mapA {α:Type} {s t:List α} {g:α→TV}:((s++t).map g).map AV.t=(s.map g).map AV.t++(t.map g).map AV.t:=by simp
theorem Cd.no_and {op:Op}:(op.str=="and")=false:=by cases op<;>decide +kernel
section
variable {T:Top} {r:Nat} {P:TV→Prop} {n:Nat}
noncomputable def c_split_and:CS:=(.cons (.as (.nm 9) (.ife (.te (.o1 .isN (.nm 11))) (.list .nil) (.list (.cons (.nm 11) .nil)))) (.cons (.as (.nm 12) (.list .nil)) (.cons (.wh (.te (.o1 .nnil (.nm 9))) (.cons (.as (.nm 1) (.pop (.nm 9))) (.cons (.ifs (.tand (.te (.o2 .isi (.nm 1) (.k (.val (Value.ref 168))))) (.tand (.te (.o2 .eqS (.att (.nm 1) 16) (.k (.str "and")))) .tt)) (.cons (.ex (.app (.nm 9) (.att (.nm 1) 10))) (.cons (.ex (.app (.nm 9) (.att (.nm 1) 9))) .nil)) (.cons (.ex (.app (.nm 12) (.nm 1))) .nil)) (.cons (.kp [11,9,12]) .nil)))) (.cons (.ret (.nm 12)) .nil))))
theorem o_split_and:okDf false 550 [true] [11] [] c_split_and=true:=by decide +kernel
theorem sp6 (c:Nat):2 * (0+1) - 1+(2 * (c+1) - 1+0)<2 * (c+1+1) - 1+0:=by omega
theorem sp7 {i S F:Nat} (h:S≤2 * F):2 * i - 1+S≤2 * (i+F):=by rw [Nat.mul_add];exact Nat.add_le_add (Nat.sub_le _ _) h
theorem split_ok {cs:List Cd} (hz:cs.length≤50) (h:P (.lst (cs.reverse.map Cd.t))):FN T (r+1) false 550 [andR cs] P:=by
 refine enterF c_split_and [true] [11] [] false o_split_and ?_
 have loop:∀ items:List (List Cd),items.flatMap id=cs→(∀ i∈items,i≠[])→items.length≤1→sx T r (.cons (.wh (.te (.o1 .nnil (.nm 9))) (.cons (.as (.nm 1) (.pop (.nm 9))) (.cons (.ifs (.tand (.te (.o2 .isi (.nm 1) (.k (.val (Value.ref 168))))) (.tand (.te (.o2 .eqS (.att (.nm 1) 16) (.k (.str "and")))) .tt)) (.cons (.ex (.app (.nm 9) (.att (.nm 1) 10))) (.cons (.ex (.app (.nm 9) (.att (.nm 1) 9))) .nil)) (.cons (.ex (.app (.nm 12) (.nm 1))) .nil)) (.cons (.kp [11,9,12]) .nil)))) (.cons (.ret (.nm 12)) .nil))
   [(11,.t (andR cs)),(9,.ref 0),(12,.ref 1)] [] [.lst ((items.map andR).map .t),.lst []] fun f _ _ mem=>retK (endF false P) f mem:=fun items hi hne hl=>by
  refine ⟨200,?_⟩
  refine whL_ind (σ:=List (List Cd)×List Cd) (fun _=>_) (fun _=>[]) (fun s=>[.lst ((s.1.map andR).map .t),.lst ((s.2.map Cd.t).map .t)])
   (fun n s=>n=(s.1.map fun i=>2 * i.length - 1).sum∧(∀ i∈s.1,i≠[])∧s.2++(s.1.flatMap id).reverse=cs.reverse) (fun n s hI W hW=>?_) 200 _ (items,[]) ?_ ⟨rfl,hne,by simp [hi]⟩
  ·obtain ⟨its,acc⟩:=s
   obtain ⟨hn,hne,hr⟩:=hI
   have hl:=congrArg List.length hr
   simp only [List.length_append,List.length_reverse] at hl
   have h1:∀ l:List (List Cd),(∀ i∈l,i≠[])→l.length≤(l.flatMap id).length:=fun l=>by
    induction l with
    | nil=>simp
    | cons i l ih=>
     intro h
     have:=ih fun j hj=>h j (.tail _ hj)
     have h2:=List.length_pos_iff.mpr (h i (.head _))
     rw [List.flatMap_cons,List.length_append,List.length_cons];simp only [id];exact Nat.le_trans (Nat.le_of_eq (Nat.add_comm _ 1)) (Nat.add_le_add h2 this)
   have h2:=h1 its hne
   refine treesM ?_
   refine (?_:brK _ _ _)
   refine br (fun e=>?_) fun e=>?_
   ·have e:its≠[]:=by
     have e:(!(its.map andR).isEmpty)=true:=e
     intro q;rw [q] at e;cases e
    rcases List.eq_nil_or_concat its with q | ⟨its,i,q⟩
    ·exact absurd q e
    rw [List.concat_eq_append] at q
    subst q
    simp only [List.flatMap_append,List.flatMap_cons,List.flatMap_nil,id,List.append_nil,List.reverse_append,List.length_append,List.length_cons,List.length_nil] at hr hl h2
    simp only [List.map_append,List.map_cons,List.map_nil,List.sum_append,List.sum_cons,List.sum_nil] at hn
    have hi:=hne i (by simp)
    have hne':∀ j∈its,j≠[]:=fun j hj=>hne j (List.mem_append_left _ hj)
    have h3:=h1 its hne'
    cases i with
    | nil=>exact absurd rfl hi
    | cons c cs' =>
     cases cs' with
     | nil =>
      refine (?_:∃ _ _,_∧_)
      refine ⟨_,_,by rw [mapA];rfl,?_⟩
      have fin:W [(11,.t (andR cs)),(9,.ref 0),(12,.ref 1)] [] [.lst ((its.map andR).map .t),.lst ((acc.map Cd.t).map .t++[.t c.t])]:=by
       have:=hW _ (its,acc++[c]) (by show (its.map _).sum<n;rw [hn];exact Nat.lt_add_of_pos_right (by show 0<2 * (0+1) - 1+0;decide)) ⟨rfl,hne',by simpa using hr⟩
       dsimp only at this
       rw [mapA (s:=acc)] at this
       exact this
      have hs:shortK 900 ((acc.map Cd.t).map AV.t)=true:=short2 (Nat.le_trans (Nat.le_add_right _ _) (Nat.le_trans (Nat.le_of_eq hl) (Nat.le_trans hz (by decide))))
      cases c with
      | cmp op a b=>refine (?_:brK _ _ _);refine brF Cd.no_and ?_;refine (?_:brK _ _ _);exact brT' hs fin
      | _=>refine (?_:brK _ _ _);exact brT' hs fin
     | cons d cs' =>
      refine (?_:∃ _ _,_∧_)
      refine ⟨_,_,by rw [mapA];rfl,?_⟩
      simp only [List.length_cons] at hl h2 hn
      refine (?_:brK _ _ _);refine brT' (short_ok (by simp;lia)) ?_
      refine (?_:brK _ _ _);refine brT' (short_ok (by simp;lia)) ?_
      have:=hW _ (its++[[c],d::cs'],acc) (by show ((its++[[c],d::cs']).map _).sum<n;simp only [List.map_append,List.sum_append,List.map_cons,List.map_nil,List.sum_cons,List.sum_nil,List.length_cons,List.length_nil];rw [hn];exact Nat.add_lt_add_left (sp6 _) _) ⟨rfl,fun j hj=>by
       rcases List.mem_append.mp hj with h | h
       ·exact hne' j h
       ·simp only [List.mem_cons,List.not_mem_nil,or_false] at h;rcases h with rfl | rfl<;>simp,by simpa using hr⟩
      dsimp only at this
      rw [mapA (s:=its),show ([[c],d::cs'].map andR).map AV.t=[.t c.t]++[.t (andR (d::cs'))] from rfl,← List.append_assoc] at this
      exact this
   ·have e:its=[]:=by
     have e:(!(its.map andR).isEmpty)=false:=e
     cases its with | nil=>rfl | cons _ _=>cases e
    subst e
    refine fzc_t ?_
    refine resL_t ?_
    have e:cs.reverse=acc:=by simpa using hr.symm
    rw [e] at h
    exact h
  ·have:∀ l:List (List Cd),(l.map fun i=>2 * i.length - 1).sum≤2 * (l.flatMap id).length:=fun l=>by
    induction l with
    | nil=>simp
    | cons i l ih=>rw [List.map_cons,List.sum_cons,List.flatMap_cons,List.length_append];simp only [id];exact sp7 ih
   have:=this items
   rw [hi] at this
   show (items.map _).sum<200
   exact Nat.lt_of_le_of_lt this (Nat.lt_of_le_of_lt (Nat.mul_le_mul_left 2 hz) (by decide))
 cases cs with
 | nil=>exact loop [] rfl (fun _ h=>nomatch h) (by simp)
 | cons c cs =>
  have nv:nvB (andR (c::cs))=true∧isNB (andR (c::cs))=false:=by cases cs with | nil=>cases c<;>exact ⟨rfl,rfl⟩ | cons _ _=>exact ⟨rfl,rfl⟩
  refine (?_:brK _ _ _)
  refine brT' nv.1 ?_
  refine (?_:brK _ _ _)
  refine brF nv.2 ?_
  exact loop [c::cs] (by simp) (by simp) (by simp)
end
structure Tm.Ok (m:Tm):Prop where
 st:okSet m.ms=true
 mem:∀ x,x∈m.ms↔∃ n∈m.c.nums,(n:Int)=x
noncomputable def tmsT (l:List Tm):TV:=.lst (l.map Tm.t)
noncomputable def condsT (ons:List (Nat×List Tm)) (ts:List Tm):TV:=.obj 929 [60,53] [.dic (ons.map fun q=>(q.1:Int)) (ons.map fun q=>tmsT q.2),tmsT ts]
theorem dnew {α:Type} {i:Int} {v:α} {ks:List Int} {vs:List α} {k:List Int→List α→Prop} (hl:ks.length=vs.length) (hi:i∉ks) (h:k (ks++[i]) (vs++[v])):dstoreK ks vs i v k:=by
 induction ks generalizing vs k with
 | nil=>cases vs with
  | nil=>exact h
  | cons _ _=>cases hl
 | cons y ks ih=>cases vs with
  | nil=>cases hl
  | cons u us=>exact brF (decide_eq_false fun e=>hi (e▸.head _)) (ih (Nat.succ.inj hl) (fun h=>hi (.tail _ h)) h)
theorem tms_of {cs:List Cd}:∀ {us:List TV},L2 (fun c u=>∃ m:Tm,m.c=c∧m.Ok∧u=m.t) cs us→∃ ms:List Tm,ms.map (·.c)=cs∧(∀ m∈ms,m.Ok)∧us=ms.map Tm.t:=by
 induction cs with
 | nil=>intro us h;cases h;exact ⟨[],rfl,fun _ h=>(nomatch h),rfl⟩
 | cons c cs ih =>
  rintro us ⟨u,us,rfl,⟨m,rfl,hm,rfl⟩,h⟩
  obtain ⟨ms,h1,h2,rfl⟩:=ih h
  exact ⟨m::ms,by rw [List.map_cons,h1],fun x hx=>by rcases List.mem_cons.mp hx with rfl | hx;(· exact hm);exact h2 x hx,rfl⟩
theorem opt_len {α:Type} (o:Option α):o.toList.length≤1:=by cases o;exact Nat.zero_le _;exact Nat.le_refl _
theorem tl_len (l:List Sc):(l.flatMap fun s=>s.on.toList).length≤l.length:=by
 induction l with
 | nil=>exact Nat.le_refl _
 | cons s l ih=>rw [List.flatMap_cons,List.length_append];exact Nat.le_trans (Nat.add_le_add (opt_len s.on) ih) (Nat.le_of_eq (Nat.add_comm 1 _))
theorem kindL (b:Bool):(kindW b=="left")=b:=by cases b<;>decide +kernel
section
variable {T:Top} {r:Nat} {P:TV→Prop} {n:Nat}
theorem split_on {o:Option Cd} (h:P (.lst (o.toList.map Cd.t))):FN T (r+1) false 550 [optT Cd.t o] P:=by
 cases o with
 | none=>exact split_ok (cs:=[]) (by simp) h
 | some c=>exact split_ok (cs:=[c]) (by simp) h
noncomputable def c_Conditions_mk:CS:=(.cons (.as (.nc 91) (.dict)) (.cons (.for_ 0 [43] true false (.nm 14) (.cons (.as (.sub (.nc 91) (.att (.nm 43) 15)) (.nm 43)) (.cons (.kp [76,14,75]) .nil))) (.cons (.fzn 1) (.cons (.unt false (.cons (.att (.nm 76) 60) (.cons (.att (.nm 76) 53) .nil)) (.cons (.dict) (.cons (.lstF .nil) .nil))) (.cons (.for_ 0 [43] true false (.nm 14) (.cons (.as (.nm 74) (.comp (.fcall false 624 (.cons (.nm 11) (.cons (.fz (.nc 91)) .nil))) [11] true false (.fcall false 550 (.cons (.att (.nm 43) 60) .nil)) (.tt))) (.cons (.ifs (.te (.o2 .eqS (.att (.nm 43) 58) (.k (.str "left")))) (.cons (.as (.sub (.att (.nm 76) 60) (.att (.nm 43) 15)) (.nm 74)) .nil) (.cons (.as (.att (.nm 76) 53) (.o2 .addL (.att (.nm 76) 53) (.nm 74))) .nil)) (.cons (.kp [76,14,75]) .nil)))) (.cons (.as (.att (.nm 76) 53) (.o2 .addL (.att (.nm 76) 53) (.comp (.fcall false 624 (.cons (.nm 11) (.cons (.fz (.nc 91)) .nil))) [11] true false (.fcall false 550 (.cons (.nm 75) .nil)) (.tt)))) .nil))))))
theorem o_Conditions_mk:okDf false 909 [true,true,true] [76,14,75] [91] c_Conditions_mk=true:=by decide +kernel
theorem conds_ok {ss:List Sc} {cs:List Cd} (hz:cs.length≤50) (hs:ss.length≤3) (hn:(ss.map (·.n)).Nodup) (hon:∀ s∈ss,∀ c,s.on=some c→c.ok 3∧∀ n∈c.nums,n∈ss.map (·.n)) (hcs:∀ c∈cs,c.ok 3∧∀ n∈c.nums,n∈ss.map (·.n))
  (h:∀ (ons:List (Nat×List Tm)) (ts:List Tm),ons.map (fun q=>(q.1,q.2.map (·.c)))=(ss.filter (·.left)).map (fun s=>(s.n,s.on.toList))→ts.map (·.c)=(ss.filter fun s=>!s.left).flatMap (fun s=>s.on.toList)++cs.reverse→(∀ q∈ons,∀ m∈q.2,m.Ok)→(∀ m∈ts,m.Ok)→P (condsT ons ts)) :
  FN T (r+9) false 929 [.lst (ss.map Sc.t),andR cs] P:=by
 refine makerF 909 c_Conditions_mk [true,true,true] [76,14,75] [91] false (by decide +kernel) o_Conditions_mk ?_
 refine forL_ind (σ:=List Sc) (fun s=>.t (Sc.t s)) (fun _=>_) (fun _=>_) (fun d=>[.inst 929 [] [],.dic (d.map fun s=>(s.n:Int)) ((d.map Sc.t).map .t)]) (fun l d=>d++l=ss) (fun d hd=>?_) (fun s l d hd R hR=>?_) ss [] mm rfl
 ·rw [List.append_nil] at hd
  subst hd
  refine fzc_t ?_
  refine resL_t ?_
  refine forL_ind (σ:=List Sc×List (Nat×List Tm)×List Tm) (fun s=>.t (Sc.t s)) (fun _=>_) (fun _=>_) (fun s=>[.inst 929 [60,53] [.ref 2,.t (tmsT s.2.2)],.fz (.dic (d.map fun s=>(s.n:Int)) (d.map Sc.t)),.dic (s.2.1.map fun q=>(q.1:Int)) ((s.2.1.map fun q=>tmsT q.2).map .t)])
   (fun l s=>s.1++l=d∧s.2.1.map (fun q=>(q.1,q.2.map (·.c)))=(s.1.filter (·.left)).map (fun s=>(s.n,s.on.toList))∧s.2.2.map (·.c)=(s.1.filter fun s=>!s.left).flatMap (fun s=>s.on.toList)∧(∀ q∈s.2.1,∀ m∈q.2,m.Ok)∧(∀ m∈s.2.2,m.Ok)) (fun s hI=>?_) (fun s l st hI R hR=>?_) d ([],[],[]) mm ⟨rfl,rfl,rfl,(fun _ h=>nomatch h),fun _ h=>nomatch h⟩
  ·obtain ⟨done,ons,ts⟩:=s
   obtain ⟨hd,h1,h2,h3,h4⟩:=hI
   have hd:done++[]=d:=hd
   rw [List.append_nil] at hd
   subst hd
   refine split_ok hz ?_
   refine compL_rel Cd.t (fun c u=>∃ m:Tm,m.c=c∧m.Ok∧u=m.t) (fun c hc R hR=>?_) fun us hus=>?_
   ·have q:=hcs c (List.mem_reverse.mp hc)
    exact term_ok q.1 (fun n hn=>by obtain ⟨s,hs,e⟩:=List.mem_map.mp (q.2 n hn);exact List.mem_map.mpr ⟨s,hs,by rw [e]⟩) fun m q1 q2 q3=>hR _ ⟨m,q1,⟨q2,q1▸q3⟩,rfl⟩
   ·obtain ⟨ms,hm1,hm2,rfl⟩:=tms_of hus
    refine (?_:_∧_)
    refine ⟨by have e1:=congrArg List.length h2;have e2:=congrArg List.length hm1;have e3:∀ l:List Sc,(l.flatMap fun s=>s.on.toList).length≤l.length:=tl_len;have e4:=e3 (done.filter fun s=>!s.left);have e5:=List.length_filter_le (fun s:Sc=>!s.left) done;simp only [List.length_map,List.length_reverse] at e1 e2 ⊢;lia,?_⟩
    have:=h ons (ts++ms) h1 (by rw [List.map_append,hm1,h2]) h3 fun m hm=>by rcases List.mem_append.mp hm with q | q;(· exact h4 m q);exact hm2 m q
    refine fzc_t ?_
    refine resL_t ?_
    unfold condsT tmsT at this
    rw [List.map_append] at this
    exact this
  ·obtain ⟨done,ons,ts⟩:=st
   obtain ⟨hd,h1,h2,h3,h4⟩:=hI
   have hd:done++s::l=d:=hd
   have hsd:s∈d:=by rw [← hd];simp
   have hdl:=congrArg List.length hd
   simp only [List.length_append,List.length_cons] at hdl
   refine split_on ?_
   refine compL_rel Cd.t (fun c u=>∃ m:Tm,m.c=c∧m.Ok∧u=m.t) (fun c hc R hR=>?_) fun us hus=>?_
   ·have q:=hon s hsd c (by simpa using hc)
    exact term_ok q.1 (fun n hn=>by obtain ⟨s,hs,e⟩:=List.mem_map.mp (q.2 n hn);exact List.mem_map.mpr ⟨s,hs,by rw [e]⟩) fun m q1 q2 q3=>hR _ ⟨m,q1,⟨q2,q1▸q3⟩,rfl⟩
   ·obtain ⟨ms,hm1,hm2,rfl⟩:=tms_of hus
    refine (?_:brK _ _ _)
    refine br (fun e=>?_) fun e=>?_
    ·have e:s.left=true:=(kindL _).symm.trans e
     have hnew:(s.n:Int)∉ons.map fun q=>(q.1:Int):=by
      intro hm
      obtain ⟨q,hq,e1⟩:=List.mem_map.mp hm
      have:(q.1,q.2.map (·.c))∈(done.filter (·.left)).map (fun s=>(s.n,s.on.toList)):=h1▸List.mem_map.mpr ⟨q,hq,rfl⟩
      obtain ⟨x,hx,e2⟩:=List.mem_map.mp this
      have e3:x.n=q.1:=congrArg Prod.fst e2
      rw [← hd,List.map_append,List.map_cons,List.nodup_append] at hn
      exact hn.2.2 x.n (List.mem_map.mpr ⟨x,(List.mem_filter.mp hx).1,rfl⟩) s.n (.head _) (by rw [e3];exact_mod_cast e1)
     have hl:=congrArg List.length h1
     have hf:=List.length_filter_le (fun s:Sc=>s.left) done
     simp only [List.length_map] at hl
     refine (?_:brK _ _ _)
     refine brT' (short_ok (by show (ons.map _).length≤900;rw [List.length_map];lia)) ?_
     refine dnew (by simp) hnew ?_
     have:=hR (done++[s],ons++[(s.n,ms)],ts) ⟨by show (done++[s])++l=d;rw [← hd];simp,by
      show (ons++[(s.n,ms)]).map _=((done++[s]).filter _).map _
      rw [List.map_append,h1,List.filter_append,List.map_append,List.filter_cons,e]
      simp [hm1],by
      show ts.map _=((done++[s]).filter _).flatMap _
      rw [List.filter_append,List.filter_cons,e,h2];simp,fun q hq=>by
      rcases List.mem_append.mp hq with h | h
      ·exact h3 q h
      ·simp only [List.mem_cons,List.not_mem_nil,or_false] at h;subst h;exact hm2,h4⟩
     dsimp only at this
     rw [mapA,List.map_append] at this
     exact this
    ·have e:s.left=false:=(kindL _).symm.trans e
     refine (?_:_∧_)
     refine ⟨by have e1:=congrArg List.length h2;have e2:=congrArg List.length hm1;have e4:=tl_len (done.filter fun s=>!s.left);have e5:=List.length_filter_le (fun s:Sc=>!s.left) done;have e6:s.on.toList.length≤1:=(by cases s.on<;>simp);simp only [List.length_map] at e1 e2 ⊢;lia,?_⟩
     have:=hR (done++[s],ons,ts++ms) ⟨by show (done++[s])++l=d;rw [← hd];simp,by
      show ons.map _=((done++[s]).filter _).map _
      rw [h1,List.filter_append,List.filter_cons,e];simp,by
      show (ts++ms).map _=((done++[s]).filter _).flatMap _
      rw [List.map_append,h2,List.filter_append,List.flatMap_append,List.filter_cons,e];simp [hm1],h3,fun m hm=>by
      rcases List.mem_append.mp hm with h | h
      ·exact h4 m h
      ·exact hm2 m h⟩
     dsimp only at this
     unfold tmsT at this
     rw [List.map_append] at this
     exact this
 ·have:(s.n:Int)∉d.map fun s=>(s.n:Int):=by
   rw [← hd,List.map_append,List.map_cons,List.nodup_append] at hn
   intro hm
   obtain ⟨x,hx,e⟩:=List.mem_map.mp hm
   exact hn.2.2 x.n (List.mem_map.mpr ⟨x,hx,rfl⟩) s.n (.head _) (by exact_mod_cast e)
  refine (?_:brK _ _ _)
  refine brT' (short_ok (by have:=congrArg List.length hd;simp at this ⊢;lia)) ?_
  refine dnew (by simp) this ?_
  have:=hR (d++[s]) (by rw [List.append_assoc];exact hd)
  rw [mapA,List.map_append] at this
  exact this
end
noncomputable def Tm.const (m:Tm):Bool:=(m.ms.length:Int)==0
noncomputable def Tm.known (ps:List Int) (m:Tm):Bool:=m.ms.all fun x=>ps.any (·==x)
noncomputable def Tm.ready (n:Nat) (ps:List Int) (m:Tm):Bool:=m.ms.contains (n:Int)&&m.ms.all fun x=>(x==(n:Int))||ps.any (·==x)
noncomputable def lefts (ts:List Tm) (os:List Int):Nat→List Tm
 | 0=>ts.filter fun m=>!m.const
 | i+1=>(lefts ts os i).filter fun m=>!m.known (os.take (i+1))
noncomputable def levelTs (ts:List Tm) (os:List Int) (i:Nat):List Tm:=(lefts ts os i).filter fun m=>m.known (os.take (i+1))
noncomputable def onTerms (ons:List (Nat×List Tm)) (ts:List Tm) (n:Nat):List Tm:=match ons.find? (fun q=>decide ((q.1:Int)=(n:Int))) with | some q=>q.2 | none=>ts
noncomputable def readyBds (n:Nat) (ps:List Int) (l:List Tm):List Bd:=(l.filter (·.ready n ps)).flatMap fun m=>(m.c.bds n).filterMap id
theorem dget_ok {α β:Type} {f:α→Int} {g:α→β} {i:Int} {l:List α} {k:Option β→Prop} (h:k ((l.find? fun q=>decide (f q=i)).map g)):dgetK (l.map f) (l.map g) i k:=by
 induction l with
 | nil=>exact h
 | cons q l ih=>rw [List.find?_cons] at h;exact br (fun e=>by rw [e] at h;exact h) fun e=>ih (by rw [e] at h;exact h)
theorem bds_len {c:Cd} {n:Nat}:(c.bds n).length≤2:=by
 have h1:∀ {op a b},(cmpBds n op a b).length≤2:=fun {op a b}=>by delta cmpBds;rw [List.length_append];split<;>split<;>simp
 cases c with
 | cmp op a b=>cases op<;>first | exact Nat.zero_le _ | exact h1
 | bet a lo hi=>show (betBds n a lo hi).length≤2;delta betBds;cases a.isCol n<;>cases lo.free n<;>cases hi.free n<;>simp
 | inl a xs=>show (inlBds n a xs).length≤2;delta inlBds;split<;>simp
 | or op a b op' a' b'=>simp [Cd.bds]
section
variable {T:Top} {r:Nat} {P:TV→Prop} {n:Nat}
noncomputable def c_Conditions_before:CS:=(.cons (.ret (.comp (.att (.nm 20) 11) [20] true false (.att (.nm 76) 53) (.te (.fmeth (.nm 20) 147 .nil)))) .nil)
theorem o_Conditions_before:okDf false 921 [true] [76] [] c_Conditions_before=true:=by decide +kernel
theorem before_ok {ons:List (Nat×List Tm)} {ts:List Tm} (h:P (.lst ((ts.filter Tm.const).map fun m=>m.c.t))):FN T (r+2) false 921 [condsT ons ts] P:=by
 refine enterF c_Conditions_before [true] [76] [] false o_Conditions_before ?_
 refine compL_fil Tm.t (fun m=>m.c.t) Tm.const (fun m hm R hR=>?_) h
 refine is_const_ok ?_
 refine (?_:brK _ _ _)
 refine br (fun e=>?_) fun e=>?_
 ·rw [if_pos (show m.const=true from e)] at hR;exact hR
 ·rw [if_neg (by rw [show m.const=false from e];simp)] at hR;exact hR
noncomputable def c_Conditions_ready_bounds_t:CS:=(.cons (.as (.nm 12) (.lstF .nil)) (.cons (.for_ 0 [20] true false (.nm 53) (.cons (.ifs (.te (.fmeth (.nm 20) 145 (.cons (.nm 15) (.cons (.nm 94) .nil)))) (.cons (.as (.nm 12) (.o2 .addL (.nm 12) (.fcall false 659 (.cons (.nm 20) (.cons (.nm 15) .nil))))) .nil) .nil) (.cons (.kp [76,15,94,53,12]) .nil))) (.cons (.ret (.nm 12)) .nil)))
noncomputable def c_Conditions_ready_bounds:CS:=(.cons (.as (.nm 53) (.ife (.te (.o2 .inD (.nm 15) (.att (.nm 76) 60))) (.sub (.att (.nm 76) 60) (.nm 15)) (.att (.nm 76) 53))) c_Conditions_ready_bounds_t)
theorem o_Conditions_ready_bounds:okDf false 916 [true,true,true] [76,15,94] [] c_Conditions_ready_bounds=true:=by decide +kernel
theorem ready_t {cv:TV} {l:List Tm} {ps:List Int} (hz:l.length≤100) (hc:∀ m∈l,m.c.ok 3) (h:P (.lst ((readyBds n ps l).map Bd.t))):sx T (r+6) c_Conditions_ready_bounds_t [(76,.t cv),(15,.t (.int n)),(94,.t (.lst (ps.map .int))),(53,.t (tmsT l))] [] [] fun f _ _ mem=>retK (endF false P) f mem:=by
 refine forL_ind (σ:=List Bd) (fun m=>.t (Tm.t m)) (fun b=>[(76,.t cv),(15,.t (.int n)),(94,.t (.lst (ps.map .int))),(53,.t (tmsT l)),(12,.t (.lst (b.map Bd.t)))]) (fun _=>[]) (fun _=>[]) (fun l b=>b.length+2 * l.length≤200∧(∀ m∈l,m.c.ok 3)∧P (.lst ((b++readyBds n ps l).map Bd.t))) (fun b h=>?_) (fun m l b hI R hR=>?_) l [] mm ⟨by simp;lia,hc,h⟩
 ·have:=h.2.2
  simp only [readyBds,List.filter_nil,List.flatMap_nil,List.append_nil] at this
  exact this
 ·obtain ⟨hz,hc,h⟩:=hI
  simp only [List.length_cons] at hz
  delta readyBds at h
  rw [List.filter_cons] at h
  refine is_ready_ok ?_
  refine (?_:brK _ _ _)
  refine br (fun e=>?_) fun e=>?_
  ·rw [if_pos (show m.ready n ps=true from e),List.flatMap_cons,← List.append_assoc] at h
   refine bounds_of_ok (hc m (.head _)) ?_
   have e1:(((m.c.bds n).filterMap id)).length≤2:=Nat.le_trans (List.length_filterMap_le _ _) bds_len
   refine (?_:_∧_)
   refine ⟨by rw [List.length_map,List.length_map];lia,?_⟩
   have:=hR (b++(m.c.bds n).filterMap id) ⟨by rw [List.length_append];lia,fun m hm=>hc m (.tail _ hm),h⟩
   rw [List.map_append] at this
   exact this
  ·rw [if_neg (by rw [show m.ready n ps=false from e];simp)] at h
   exact hR b ⟨by lia,fun m hm=>hc m (.tail _ hm),h⟩
theorem ready_ok {ons:List (Nat×List Tm)} {ts:List Tm} {ps:List Int} (hz:(onTerms ons ts n).length≤100) (hc:∀ m∈onTerms ons ts n,m.c.ok 3) (h:P (.lst ((readyBds n ps (onTerms ons ts n)).map Bd.t))):FN T (r+7) false 916 [condsT ons ts,.int n,.lst (ps.map .int)] P:=by
 refine enterF c_Conditions_ready_bounds [true,true,true] [76,15,94] [] false o_Conditions_ready_bounds ?_
 refine (?_:brK _ _ _)
 refine br (fun e=>?_) fun e=>?_
 ·refine dget_ok (f:=fun q:Nat×List Tm=>(q.1:Int)) (g:=fun q=>tmsT q.2) ?_
  delta onTerms at hz hc h
  cases e1:ons.find? (fun q=>decide ((q.1:Int)=(n:Int))) with
  | some q=>rw [e1] at hz hc h;exact ready_t hz hc h
  | none =>
   rw [List.find?_eq_none] at e1
   obtain ⟨x,hx,e2⟩:=List.any_eq_true.mp e
   obtain ⟨q,hq,rfl⟩:=List.mem_map.mp hx
   exact absurd (decide_eq_true (beq_iff_eq.mp e2)) (e1 q hq)
 ·have e1:ons.find? (fun q=>decide ((q.1:Int)=(n:Int)))=none:=by
   rw [List.find?_eq_none]
   intro q hq e2
   have e3:=List.any_eq_false.mp e _ (List.mem_map.mpr ⟨q,hq,rfl⟩)
   exact e3 (beq_iff_eq.mpr (of_decide_eq_true e2))
  delta onTerms at hz hc h
  rw [e1] at hz hc h
  exact ready_t hz hc h
theorem known_ok {m:Tm} {ps:List Int} {L:List TV} (e:L=ps.map .int) (h:P (.bool (m.known ps))):FN T (r+1) false 616 [m.t,.lst L] P:=by subst e;exact is_known_ok h
noncomputable def c_Conditions_by_level:CS:=(.cons (.as (.nm 9) (.comp (.nm 20) [20] true false (.att (.nm 76) 53) (.tnot (.te (.fmeth (.nm 20) 147 .nil))))) (.cons (.as (.nm 12) (.list .nil)) (.cons (.for_ 0 [48] true true (.o1 .len (.nm 52)) (.cons (.as (.nc 94) (.o2 .upto (.nm 52) (.o2 .add (.nm 48) (.k (.int 1))))) (.cons (.ex (.app (.nm 12) (.comp (.nm 20) [20] true false (.nm 9) (.te (.fmeth (.nm 20) 149 (.cons (.nc 94) .nil)))))) (.cons (.as (.nm 9) (.comp (.nm 20) [20] true false (.nm 9) (.tnot (.te (.fmeth (.nm 20) 149 (.cons (.nc 94) .nil)))))) (.cons (.kp [76,52,9,12]) (.cons (.kc []) .nil)))))) (.cons (.ret (.nm 12)) .nil))))
theorem o_Conditions_by_level:okDf false 926 [true,true] [76,52] [94] c_Conditions_by_level=true:=by decide +kernel
theorem by_level_ok {ons:List (Nat×List Tm)} {ts:List Tm} {os:List Int} (hz:os.length≤10) (h:P (.lst ((List.range os.length).map fun i=>tmsT (levelTs ts os i)))):FN T (r+2) false 926 [condsT ons ts,.lst (os.map .int)] P:=by
 refine enterF c_Conditions_by_level [true,true] [76,52] [94] false o_Conditions_by_level ?_
 refine compL_fil Tm.t Tm.t (fun m=>!m.const) (fun m hm R hR=>?_) ?_
 ·refine is_const_ok ?_
  refine (?_:brK _ _ _)
  refine br (fun e=>?_) fun e=>?_
  ·rw [if_pos (show (!m.const)=true from e)] at hR;exact hR
  ·rw [if_neg (by rw [show (!m.const)=false from e];simp)] at hR;exact hR
 refine (?_:((0:Int)≤_∧_≤(1000:Int))∧_)
 have hl:(os.map TV.int).length=os.length:=List.length_map _
 refine ⟨by show (0:Int)≤((os.map TV.int).length:Int)∧((os.map TV.int).length:Int)≤1000;rw [hl];exact ⟨nC _,nLe (c:=1000) (Nat.le_trans hz (by decide))⟩,?_⟩
 refine forR_ind (σ:=Nat) (fun i=>[(76,.t (condsT ons ts)),(52,.t (.lst (os.map .int))),(9,.t (tmsT (lefts ts os i))),(12,.ref 0)]) (fun _=>[]) (fun i=>[.lst (((List.range i).map fun i=>tmsT (levelTs ts os i)).map .t)]) (fun i s=>s=i) (fun s hs=>?_) (fun i s hi hs R hR=>?_) 0 rfl
 ·have hs:s=(os.map TV.int).length:=hs
  rw [hl] at hs
  subst hs
  refine fzc_t ?_
  refine resL_t ?_
  exact h
 ·subst hs
  have hi:s<(os.map TV.int).length:=hi
  rw [hl] at hi
  have et:(os.map TV.int).take ((s:Int)+1).toNat=(os.take (s+1)).map .int:=by rw [show ((s:Int)+1).toNat=s+1 from rfl,List.map_take]
  refine (?_:((0:Int)≤_∧_≤(_:Int))∧_)
  refine ⟨by show (0:Int)≤(s:Int)+1∧(s:Int)+1≤((os.map TV.int).length:Int);rw [hl];exact ⟨nC (s+1),nLe (n:=s+1) hi⟩,?_⟩
  refine compL_fil Tm.t Tm.t (fun m=>m.known (os.take (s+1))) (fun m hm R hR=>?_) ?_
  ·refine known_ok et ?_
   refine (?_:brK _ _ _)
   refine br (fun e=>?_) fun e=>?_
   ·rw [if_pos e] at hR;exact hR
   ·rw [if_neg (by rw [e];simp)] at hR;exact hR
  refine (?_:brK _ _ _)
  refine brT' (short2 (by rw [List.length_range];exact Nat.le_trans (Nat.le_of_lt hi) (Nat.le_trans hz (by decide)))) ?_
  refine compL_fil Tm.t Tm.t (fun m=>!m.known (os.take (s+1))) (fun m hm R hR=>?_) ?_
  ·refine known_ok et ?_
   refine (?_:brK _ _ _)
   refine br (fun e=>?_) fun e=>?_
   ·rw [if_pos e] at hR;exact hR
   ·rw [if_neg (by rw [e];simp)] at hR;exact hR
  have:=hR (s+1) rfl
  rw [List.range_succ,mapA] at this
  exact this
end
noncomputable def shV (L:Nat):AV→AV
 | .t v=>.t v
 | .ref n=>.ref (L+n)
noncomputable def shO (L:Nat):MO→MO
 | .lst l=>.lst (l.map (shV L))
 | .tup l=>.tup (l.map (shV L))
 | .fl l=>.fl (l.map (shV L))
 | .inst C xs l=>.inst C xs (l.map (shV L))
 | .dic ks l=>.dic ks (l.map (shV L))
 | .set l=>.set l
 | .pool=>.pool
 | .fz v=>.fz v
 | .dead=>.dead
theorem CALL.frame {T:Top} {r:Nat} {f:Value} {ts:List TV} {mem:Mem} {k:AV→Mem→Prop} (h:CALL T r f (ts.map .t) [] fun v m=>k (shV mem.length v) (mem++m.map (shO mem.length))):CALL T r f (ts.map .t) mem k:=by
 refine ⟨fun w A s₀ R₀ E Q s g rest vs rm W S hm ha kk=>?_⟩
 refine h.run w A s₀ R₀ E Q s ⟨[],[],g.R⟩ (g.chs++rest) vs rm W S ⟨rfl,rfl⟩ (treesL.mp ((treesL (g:=g)).mpr ha)) fun av m v s' g' hk S' hm' X' hv=>?_
 let g2:GS w:=⟨g.chs++g'.chs,g.al++g'.al,g'.R⟩
 have X2:Ext g g2:=⟨fun p hp=>X'.R p hp,g'.al,rfl⟩
 have hv':∀ {v:AV} {u:Value},AR g' v u→AR g2 (shV mem.length v) u:=fun {v u} h=>by
  cases v with
  | t _=>exact h
  | ref n =>
   obtain ⟨a,ha,rfl⟩:=h
   refine ⟨a,?_,rfl⟩
   show (g.al++g'.al)[mem.length+n]?=some a
   rw [← hm.len,List.getElem?_append_right (by lia)]
   simpa using ha
 have hl':∀ {l:List AV} {us:List Value},L2 (AR g') l us→L2 (AR g2) (l.map (shV mem.length)) us:=fun {l}=>by
  induction l with
  | nil=>exact fun h=>h
  | cons v l ih=>rintro _ ⟨u,us,rfl,h1,h2⟩;exact ⟨u,us,rfl,hv' h1,ih h2⟩
 have hO:∀ {a:Addr} {o:MO} {c:List Ch},OR g' a o c→OR g2 a (shO mem.length o) c:=fun {a o c} h=>by
  cases o with
  | lst l=>obtain ⟨vs,h1,h2,h3⟩:=h;exact ⟨vs,h1,h2,hl' h3⟩
  | tup l=>obtain ⟨vs,h1,h2,h3⟩:=h;exact ⟨vs,h1,h2,hl' h3⟩
  | fl l=>obtain ⟨h0,vs,h1,h2,h3⟩:=h;exact ⟨h0,vs,h1,h2,hl' h3⟩
  | inst C xs l=>obtain ⟨dx,m,vs,h1,h2,h3,h4,h5⟩:=h;exact ⟨dx,m,vs,h1,h2,h3,h4,hl' h5⟩
  | dic ks l=>obtain ⟨vs,h1,h2,h3⟩:=h;exact ⟨vs,h1,h2,hl' h3⟩
  | _=>exact h
 have hM:∀ {m:Mem} {as:List Addr} {chs:List Ch},MemL g' as m chs→MemL g2 as (m.map (shO mem.length)) chs:=fun {m}=>by
  induction m with
  | nil=>exact fun h=>h
  | cons o m ih=>rintro _ _ ⟨a,as,c,chs,rfl,rfl,ho,h⟩;exact ⟨a,as,c,chs,rfl,rfl,hO ho,ih h⟩
 refine kk _ _ v s' g2 hk (S'.perm ?_) (MemL.join (hM hm') (hm.mono X2)) X2 (hv' hv)
 show (g'.chs++(g.chs++rest)).Perm ((g.chs++g'.chs)++rest)
 rw [← List.append_assoc]
 exact List.perm_append_comm.append_right rest
noncomputable def PV (q:Pd) (j:Jk) (n:Nat):MO:=.inst 712 PX [.t (.str q.kind.str),.t (optT Ix.t q.ix),.ref (n+1),.ref (n+2),.t (endT q.low),.t (endT q.high),.t j.b,.t j.c,.t (optT osT q.inl),.t j.d,.t j.cov,.t j.ds,.t j.sg,.t (.int j.rows),.t (.int j.cost)]
noncomputable def Away (M' M:Mem) (n:Nat):Prop:=∀ i:Nat,i<n∨n+2<i→M'[i]?=M[i]?
noncomputable def Keeps (m M:Mem):Prop:=∀ (i:Nat) (o:MO),m[i]?=some o→M[i]?=some o
noncomputable abbrev HL (l:List O):MO:=.lst ((l.map O.t).map .t)
structure PAt (M:Mem) (n:Nat) (q:Pd) (j:Jk) (e:MO) (l:List TV):Prop where
 p:M[n]?=some (PV q j n)
 e:M[n+1]?=some e
 f:M[n+2]?=some (.lst (l.map .t))
theorem nthK_ok {α:Type} {k:α→Prop} {a:α} {l:List α} {n:Nat} (e:l[n]?=some a) (h:k a):nthK l n k:=by
 induction l generalizing n with
 | nil=>cases e
 | cons b l ih=>cases n with
  | zero=>cases e;exact h
  | succ n=>exact ih e
theorem setK_ok {α:Type} {a:α} {l:List α} {n:Nat} {k:List α→Prop} (hn:n<l.length) (h:k (l.set n a)):setK l n a k:=by
 induction l generalizing n k with
 | nil=>cases hn
 | cons b l ih=>cases n with
  | zero=>exact h
  | succ n=>exact ih (Nat.lt_of_succ_lt_succ hn) h
theorem snocK_ok {α:Type} {a:α}:∀ {l:List α} {k:Nat→List α→Prop},k l.length (l++[a])→snocK l a k
 | [],_,h=>h
 | b::l,k,h=>snocK_ok (l:=l) (k:=fun n l=>k (n+1) (b::l)) h
theorem get_lt {α:Type} {l:List α} {n:Nat} {a:α} (h:l[n]?=some a):n<l.length:=(List.getElem?_eq_some_iff.mp h).1
theorem set_1 {α:Type} {a c:α} {l:List α} {n:Nat} (hn:l[n]?=some c):(l.set n a)[n]?=some a:=List.getElem?_set_self (get_lt hn)
theorem set_n {α:Type} {a:α} {l:List α} {n e:Nat} (h:n≠e):(l.set n a)[e]?=l[e]?:=List.getElem?_set_ne h
theorem neF3 {n F:Nat} (h:n+2<F∨F<n):F≠n∧F≠n+1∧F≠n+2:=h.elim (fun h=>⟨Nat.ne_of_gt (Nat.lt_of_le_of_lt (Nat.le_add_right n 2) h),Nat.ne_of_gt (Nat.lt_of_le_of_lt (Nat.le_succ (n+1)) h),Nat.ne_of_gt h⟩) fun h=>⟨Nat.ne_of_lt h,Nat.ne_of_lt (Nat.lt_succ_of_lt h),Nat.ne_of_lt (Nat.lt_succ_of_lt (Nat.lt_succ_of_lt h))⟩
theorem neA {n i:Nat} (h:i<n∨n+2<i):n+2≠i:=fun e=>(neF3 h.symm).2.2 e.symm
section
variable {M:Mem} {n:Nat} {q q':Pd} {j j':Jk} {e e':MO} {l l':List TV} {k:Mem→Prop}
theorem PAt.stP' {X:MO} (h:PAt M n q j e l) (q':Pd) (j':Jk) (hX:X=PV q' j' n) (hk:∀ M',PAt M' n q' j' e l→Away M' M n→k M'):setK M n X k:=hX ▸
 setK_ok (get_lt h.p) (hk _ ⟨set_1 h.p,(set_n (Nat.ne_of_lt (Nat.lt_succ_self _))).trans h.e,(set_n (Nat.ne_of_lt (Nat.lt_add_of_pos_right (by decide)))).trans h.f⟩ fun i hi=>set_n (neF3 hi.symm).1.symm)
theorem PAt.stP {X:MO} (h:PAt M n q j e l) (q':Pd) (j':Jk) (hX:X=PV q' j' n) (hk:∀ M' j',PAt M' n q' j' e l→Away M' M n→k M'):setK M n X k:=h.stP' q' j' hX fun M'=>hk M' j'
theorem PAt.stR {X:MO} (h:PAt M n q j e l) (q':Pd) (j':Jk) (hX:X=PV q' j' n) (hr:0≤j'.rows) (hk:∀ M' j',0≤j'.rows→PAt M' n q' j' e l→Away M' M n→k M'):setK M n X k:=h.stP' q' j' hX fun M' h' a'=>hk M' j' hr h' a'
theorem PAt.stE (h:PAt M n q j e l) (hk:∀ M',PAt M' n q j e' l→Away M' M n→k M'):setK M (n+1) e' k :=
 setK_ok (get_lt h.e) (hk _ ⟨(set_n (Nat.succ_ne_self n)).trans h.p,set_1 h.e,(set_n (Nat.ne_of_lt (Nat.lt_succ_self _))).trans h.f⟩ fun i hi=>set_n (neF3 hi.symm).2.1.symm)
theorem PAt.stF (h:PAt M n q j e l) (hk:∀ M',PAt M' n q j e l'→Away M' M n→k M'):setK M (n+2) (.lst (l'.map .t)) k :=
 setK_ok (get_lt h.f) (hk _ ⟨(set_n (Nat.ne_of_gt (Nat.lt_add_of_pos_right (by decide)))).trans h.p,(set_n (Nat.succ_ne_self _)).trans h.e,set_1 h.f⟩ fun i hi=>set_n (neA hi))
end
theorem Away.trans {a b c:Mem} {n:Nat} (h:Away a b n) (h':Away b c n):Away a c n:=fun i hi=>(h i hi).trans (h' i hi)
theorem end_nv (e:Option (O×Bool)):nvB (endT e)=true:=by cases e<;>rfl
theorem os_nv (e:Option (List O)):nvB (optT osT e)=true:=by cases e<;>rfl
section
variable {T:Top} {r n:Nat} {P:TV→Prop} {M:Mem} {k:AV→Mem→Prop} {q:Pd} {j:Jk} {l:List TV}
noncomputable def c_Path_is_led:CS:=(.cons (.ret (.or (.o1 .nnil (.att (.nm 76) 33)) (.or (.o1 .isNN (.att (.nm 76) 28)) (.or (.o1 .isNN (.att (.nm 76) 29)) (.o1 .isNN (.att (.nm 76) 100)))))) .nil)
theorem o_Path_is_led:okDf false 695 [true] [76] [] c_Path_is_led=true:=by decide +kernel
theorem is_led_ok (h:PAt M n q j (.fz (osT q.eqs)) l) (hk:∀ b:Bool,k (.t (.bool b)) M):CALL T (r+1) (.ref 695) [.ref n] M k:=by
 refine enter c_Path_is_led [true] [76] [] false o_Path_is_led ?_
 refine nthK_ok h.p ?_
 refine nthK_ok h.e ?_
 refine treesM ?_
 refine (?_:brK _ _ _)
 refine br (fun _=>hk _) fun _=>?_
 refine nthK_ok h.p ?_
 refine (?_:brK _ _ _);refine brT' (end_nv _) ?_
 refine (?_:brK _ _ _);refine br (fun _=>hk _) fun _=>?_
 refine nthK_ok h.p ?_
 refine (?_:brK _ _ _);refine brT' (end_nv _) ?_
 refine (?_:brK _ _ _);refine br (fun _=>hk _) fun _=>?_
 refine nthK_ok h.p ?_
 refine (?_:brK _ _ _);refine brT' (os_nv _) ?_
 exact hk _
theorem fz_path {d:Nat} {k:TV→Mem→Prop} (h:PAt M n q j (.fz (osT q.eqs)) l) (hk:∀ M' j',j'.rows=j.rows→M'[n]?=some (.fz (pathT (q,j')))→Away M' M n→k (pathT (q,j')) M'):fzK (d+3) M (.ref n) k:=by
 refine nthK_ok h.p ?_
 refine nthK_ok h.e ?_
 refine nthK_ok h.e ?_
 refine h.stE fun M1 h1 a1=>?_
 refine nthK_ok h1.f ?_
 refine fzc_t ?_
 refine nthK_ok h1.f ?_
 refine resL_t ?_
 refine setK_ok (get_lt h1.f) ?_
 have hp:=(set_n (a:=MO.fz (.lst l)) (Nat.ne_of_gt (Nat.lt_add_of_pos_right (by decide)):n+2≠n)).trans h1.p
 have he:=(set_n (a:=MO.fz (.lst l)) (Nat.succ_ne_self _:n+2≠n+1)).trans h1.e
 have hf:=set_1 (a:=MO.fz (.lst l)) h1.f
 refine nthK_ok hp ?_
 refine nthK_ok he ?_
 refine nthK_ok hf ?_
 refine setK_ok (get_lt hp) ?_
 exact hk _ ⟨.lst l,j.b,j.c,j.d,j.cov,j.ds,j.sg,j.rows,j.cost⟩ rfl (set_1 hp) fun i hi=>(set_n (neF3 hi.symm).1.symm).trans ((set_n (neA hi)).trans (a1 i hi))
theorem fz_fz {d:Nat} {t:TV} {k:TV→Mem→Prop} (h:M[n]?=some (.fz t)) (hk:k t M):fzK (d+1) M (.ref n) k:=by
 refine nthK_ok h ?_
 refine nthK_ok h ?_
 refine setK_ok (get_lt h) ?_
 have:M.set n (.fz t)=M:=by
  obtain ⟨hn,e⟩:=List.getElem?_eq_some_iff.mp h
  rw [← e];exact List.set_getElem_self hn
 rw [this];exact hk
noncomputable def c_guess_d:CS:=(.cons (.as (.att (.nm 27) 32) (.o2 .min (.o2 .mul (.nm 32) (.nm 34)) (.k (.int 1000)))) (.cons (.as (.att (.nm 27) 35) (.o2 .add (.o2 .mul (.att (.nm 27) 32) (.nm 30)) (.ife (.te (.meth (.nm 27) 143 .nil)) (.o2 .mul (.k (.int 4)) (.nm 34)) (.k (.int 0))))) (.cons (.fzv 27) .nil)))
noncomputable def c_guess_c:CS:=(.cons (.as (.att (.nm 27) 31) (.and (.nm 31) (.o1 .isN (.att (.nm 27) 100)))) (.cons (.as (.nm 32) (.ife (.te (.nm 31)) (.k (.int 1)) (.o2 .max (.nm 32) (.k (.int 1))))) (.lab c_guess_d)))
noncomputable def c_guess_b:CS:=(.cons (.as (.nm 34) (.k (.int 1))) (.cons (.ifs (.te (.o1 .isNN (.att (.nm 27) 100))) (.cons (.as (.nm 34) (.o1 .len (.att (.nm 27) 100))) (.cons (.as (.nm 32) (.o2 .fdiv (.nm 32) (.k (.int 10)))) .nil)) .nil) (.lab c_guess_c)))
noncomputable def c_guess_h:CS:=(.cons (.ifs (.te (.o1 .isNN (.att (.nm 27) 29))) (.cons (.as (.nm 32) (.o2 .fdiv (.nm 32) (.k (.int 4)))) .nil) .nil) (.lab c_guess_b))
noncomputable def c_guess_a:CS:=(.cons (.ifs (.te (.o1 .isNN (.att (.nm 27) 28))) (.cons (.as (.nm 32) (.o2 .fdiv (.nm 32) (.k (.int 4)))) .nil) .nil) (.lab c_guess_h))
noncomputable def c_guess:CS:=(.cons (.as (.nm 32) (.k (.int 1000))) (.cons (.for_ 0 [11] true false (.fz (.att (.nm 27) 33)) (.cons (.as (.nm 32) (.o2 .fdiv (.nm 32) (.k (.int 10)))) (.cons (.kp [27,30,31,32]) .nil))) (.lab c_guess_a)))
theorem o_guess:okDf false 751 [true,true,true] [27,30,31] [] c_guess=true:=by decide +kernel
noncomputable abbrev GK (M:Mem) (n:Nat) (q:Pd) (k:AV→Mem→Prop):Prop:=∀ M' j',0≤j'.rows→M'[n]?=some (.fz (pathT (q,j')))→Away M' M n→k (.t .none) M'
theorem GK.away {M':Mem} (h:GK M n q k) (a:Away M' M n):GK M' n q k:=fun M2 j2 r2 h2 a2=>h M2 j2 r2 h2 (a2.trans a)
theorem guess_d {pr R mn:Int} {sg0:Bool} (hpr:0≤pr∧pr≤10) (hR:0≤R) (hm:0≤mn∧mn≤1000) (h:PAt M n q j (.fz (osT q.eqs)) l) (hk:GK M n q k) :
  sx T (r+1) c_guess_d [(27,.ref n),(30,.t (.int pr)),(31,.t (.bool sg0)),(32,.t (.int R)),(34,.t (.int mn))] [] M fun f _ _ mem=>retK k f mem:=by
 have fin:∀ {M':Mem} {j':Jk},0≤j'.rows→PAt M' n q j' (.fz (osT q.eqs)) l→Away M' M n→fzK 9 M' (.ref n) fun _ m=>k (.t .none) m:=fun hr h' a'=>fz_path h' fun M2 j2 e2 h2 a2=>hk M2 j2 (e2▸hr) h2 (a2.trans a')
 refine (?_:_∧_)
 refine ⟨mulSmall (.inr (by first | exact absLe hm | exact absLe ⟨hpr.1,Int.le_trans hpr.2 (by decide)⟩)),?_⟩
 refine nthK_ok h.p ?_
 refine h.stR q ⟨.none,_,_,_,_,_,_,_,_⟩ rfl (by have:=Int.mul_nonneg hR hm.1;show 0≤(if (1000:Int)<R * mn then 1000 else R * mn);split<;>lia) fun M1 j1 r1 h1 a1=>?_
 refine nthK_ok h1.p ?_
 refine (?_:_∧_)
 refine ⟨mulSmall (.inr (by first | exact absLe hm | exact absLe ⟨hpr.1,Int.le_trans hpr.2 (by decide)⟩)),?_⟩
 refine nthK_ok h1.p ?_
 refine is_led_ok h1 fun b=>?_
 refine (?_:brK _ _ _)
 refine br (fun _=>?_) fun _=>?_
 ·refine (?_:_∧_)
  refine ⟨mulSmall (.inr (by first | exact absLe hm | exact absLe ⟨hpr.1,Int.le_trans hpr.2 (by decide)⟩)),?_⟩
  refine nthK_ok h1.p ?_
  refine h1.stR q ⟨.none,_,_,_,_,_,_,_,_⟩ rfl r1 fun M2 j2 r2 h2 a2=>?_
  exact fin r2 h2 (a2.trans a1)
 ·refine nthK_ok h1.p ?_
  refine h1.stR q ⟨.none,_,_,_,_,_,_,_,_⟩ rfl r1 fun M2 j2 r2 h2 a2=>?_
  exact fin r2 h2 (a2.trans a1)
theorem guess_c {pr R mn:Int} {sg0:Bool} (hpr:0≤pr∧pr≤10) (hm:0≤mn∧mn≤1000) (h:PAt M n q j (.fz (osT q.eqs)) l) (hk:GK M n q k) :
  sx T (r+1) c_guess_c [(27,.ref n),(30,.t (.int pr)),(31,.t (.bool sg0)),(32,.t (.int R)),(34,.t (.int mn))] [] M fun f _ _ mem=>retK k f mem:=by
 cases sg0 with
 | true =>
  refine nthK_ok h.p ?_
  refine (?_:brK _ _ _);refine brT' (os_nv _) ?_
  refine nthK_ok h.p ?_
  refine h.stP q ⟨.none,_,_,_,_,_,_,_,_⟩ rfl fun M1 j1 h1 a1=>?_
  refine (?_:Lab _)
  exact ⟨guess_d (R:=1) hpr (by decide) hm h1 (hk.away a1)⟩
 | false =>
  refine nthK_ok h.p ?_
  refine h.stP q ⟨.none,_,_,_,_,_,_,_,_⟩ rfl fun M1 j1 h1 a1=>?_
  refine (?_:Lab _)
  exact ⟨guess_d (R:=if 1 > R then 1 else R) hpr (by split<;>lia) hm h1 (hk.away a1)⟩
theorem div_ok {a b:Int} {p:Prop} (hb:0<b∧b<2 ^ 30) (h:p):(b≠0∧Builtin.divisionGoesByPylong a b=false)∧p:=⟨⟨Int.ne_of_gt hb.1,PyProof.noPylong_small (absLt (c:=1073741824) (Int.le_of_lt hb.1) (Int.lt_of_lt_of_le hb.2 (by decide +kernel)))⟩,h⟩
theorem guess_b {pr R:Int} {sg0:Bool} (hz:∀ x,q.inl=some x→x.length≤1000) (hpr:0≤pr∧pr≤10) (h:PAt M n q j (.fz (osT q.eqs)) l) (hk:GK M n q k) :
  sx T (r+1) c_guess_b [(27,.ref n),(30,.t (.int pr)),(31,.t (.bool sg0)),(32,.t (.int R))] [] M fun f _ _ mem=>retK k f mem:=by
 obtain ⟨kd,ix,eqs,low,high,inl⟩:=q
 cases inl with
 | none =>
  refine nthK_ok h.p ?_
  refine (?_:Lab _)
  exact ⟨guess_c hpr (by decide) h hk⟩
 | some os =>
  have hl:(os.map O.t).length=os.length:=List.length_map _
  have hz:=hz os rfl
  refine nthK_ok h.p ?_
  refine nthK_ok h.p ?_
  refine (?_:(_≠_∧_)∧_)
  refine div_ok (by decide) ?_
  refine (?_:Lab _)
  exact ⟨guess_c (R:=R.fdiv 10) (mn:=((os.map O.t).length:Int)) hpr (by lia) h hk⟩
theorem guess_h {pr R:Int} {sg0:Bool} (hz:∀ x,q.inl=some x→x.length≤1000) (hpr:0≤pr∧pr≤10) (h:PAt M n q j (.fz (osT q.eqs)) l) (hk:GK M n q k) :
  sx T (r+1) c_guess_h [(27,.ref n),(30,.t (.int pr)),(31,.t (.bool sg0)),(32,.t (.int R))] [] M fun f _ _ mem=>retK k f mem:=by
 obtain ⟨kd,ix,eqs,low,high,inl⟩:=q
 cases high with
 | none =>
  refine nthK_ok h.p ?_
  refine (?_:Lab _)
  exact ⟨guess_b hz hpr h hk⟩
 | some _ =>
  refine nthK_ok h.p ?_
  refine (?_:(_≠_∧_)∧_)
  refine div_ok (by decide) ?_
  refine (?_:Lab _)
  exact ⟨guess_b (R:=R.fdiv 4) hz hpr h hk⟩
theorem guess_a {pr R:Int} {sg0:Bool} (hz:∀ x,q.inl=some x→x.length≤1000) (hpr:0≤pr∧pr≤10) (h:PAt M n q j (.fz (osT q.eqs)) l) (hk:GK M n q k) :
  sx T (r+1) c_guess_a [(27,.ref n),(30,.t (.int pr)),(31,.t (.bool sg0)),(32,.t (.int R))] [] M fun f _ _ mem=>retK k f mem:=by
 obtain ⟨kd,ix,eqs,low,high,inl⟩:=q
 cases low with
 | none =>
  refine nthK_ok h.p ?_
  refine (?_:Lab _)
  exact ⟨guess_h hz hpr h hk⟩
 | some _ =>
  refine nthK_ok h.p ?_
  refine (?_:(_≠_∧_)∧_)
  refine div_ok (by decide) ?_
  refine (?_:Lab _)
  exact ⟨guess_h (R:=R.fdiv 4) hz hpr h hk⟩
theorem guess_ok {pr:Int} {sg0:Bool} (hz:∀ x,q.inl=some x→x.length≤1000) (hpr:0≤pr∧pr≤10) (h:PAt M n q j (HL q.eqs) l) (hk:GK M n q k):CALL T (r+2) (.ref 751) [.ref n,.t (.int pr),.t (.bool sg0)] M k:=by
 refine enter c_guess [true,true,true] [27,30,31] [] false o_guess ?_
 refine nthK_ok h.p ?_
 refine nthK_ok h.e ?_
 refine fzc_t ?_
 refine nthK_ok h.e ?_
 refine resL_t ?_
 refine h.stE fun M1 h1 a1=>?_
 refine forL_ind (σ:=Int) (fun o=>.t (O.t o)) (fun R=>[(27,.ref n),(30,.t (.int pr)),(31,.t (.bool sg0)),(32,.t (.int R))]) (fun _=>[]) (fun _=>M1) (fun _ _=>True) (fun R _=>?_) (fun x _ R _ W hW=>?_) q.eqs 1000 mm trivial
 ·refine (?_:Lab _)
  exact ⟨guess_a hz hpr h1 (hk.away a1)⟩
 ·refine (?_:(_≠_∧_)∧_)
  refine div_ok (by decide) ?_
  exact hW _ trivial
end
noncomputable abbrev bT (x:Int×Op×O):TV:=Bd.t (.cmp x.1 x.2.1 x.2.2)
noncomputable def lowE (x:Int×Op×O):O×Bool:=(x.2.2,x.2.1.str==">=")
noncomputable def highE (x:Int×Op×O):O×Bool:=(x.2.2,x.2.1.str=="<=")
theorem Keeps.away {m M M':Mem} (h:Keeps m M) (a:Away M' M m.length):Keeps m M':=fun i o e=>(a i (.inl (get_lt e))).trans (h i o e)
section
variable {T:Top} {r n:Nat} {P:TV→Prop} {M m:Mem} {k:AV→Mem→Prop} {q:Pd} {j:Jk} {l:List TV}
noncomputable def c_put_equal:CS:=(.cons (.ex (.app (.att (.nm 27) 33) (.att (.nm 26) 17))) (.cons (.ex (.app (.att (.nm 27) 97) (.att (.nm 26) 56))) .nil))
theorem o_put_equal:okDf false 730 [true,true] [27,26] [] c_put_equal=true:=by decide +kernel
theorem put_equal_ok {b:Int×Op×O} (h:PAt M n q j (HL q.eqs) l) (hz:q.eqs.length≤900∧l.length≤900) (hk:∀ M' l',l'.length=l.length+1→PAt M' n { q with eqs:=q.eqs++[b.2.2] } j (HL (q.eqs++[b.2.2])) l'→Away M' M n→k (.t .none) M'):CALL T (r+1) (.ref 730) [.ref n,.t (bT b)] M k:=by
 refine enter c_put_equal [true,true] [27,26] [] false o_put_equal ?_
 refine nthK_ok h.p ?_
 refine nthK_ok h.e ?_
 refine nthK_ok h.e ?_
 refine (?_:brK _ _ _)
 refine brT' (short_ok (by simpa using hz.1)) ?_
 have e1:((q.eqs.map O.t).map AV.t)++[.t b.2.2.t]=(((q.eqs++[b.2.2]).map O.t).map AV.t):=by simp
 rw [e1]
 refine h.stE fun M1 h1 a1=>?_
 refine nthK_ok h1.p ?_
 refine nthK_ok h1.f ?_
 refine nthK_ok h1.f ?_
 refine (?_:brK _ _ _)
 refine brT' (short_ok (by simpa using hz.2)) ?_
 have e2:(l.map AV.t)++[.t (ledT (neg b.1) b.2.2.isR)]=(l++[ledT (neg b.1) b.2.2.isR]).map AV.t:=by simp
 rw [e2]
 refine h1.stF fun M2 h2 a2=>?_
 exact hk M2 _ (by simp) ⟨h2.p,h2.e,h2.f⟩ (a2.trans a1)
noncomputable def c_put_list:CS:=(.cons (.unt false (.cons (.att (.nm 27) 100) (.cons (.att (.nm 27) 101) .nil)) (.cons (.att (.nm 26) 17) (.cons (.att (.nm 26) 56) .nil))) .nil)
theorem o_put_list:okDf false 737 [true,true] [27,26] [] c_put_list=true:=by decide +kernel
theorem put_list_ok {p:Int} {os:List O} (h:PAt M n q j (HL q.eqs) l) (hk:∀ M' j',PAt M' n { q with inl:=some os } j' (HL q.eqs) l→Away M' M n→k (.t .none) M'):CALL T (r+1) (.ref 737) [.ref n,.t (Bd.t (.inl p os))] M k:=by
 refine enter c_put_list [true,true] [27,26] [] false o_put_list ?_
 refine nthK_ok h.p ?_
 refine h.stP { q with inl:=some os } ⟨.none,_,_,_,_,_,_,_,_⟩ rfl fun M1 j1 h1 a1=>?_
 refine nthK_ok h1.p ?_
 refine h1.stP { q with inl:=some os } ⟨.none,_,_,_,_,_,_,_,_⟩ rfl fun M2 j2 h2 a2=>?_
 exact hk M2 _ h2 (a2.trans a1)
noncomputable def c_put_range_t:CS:=(.cons (.ifs (.te (.o1 .isNN (.nm 29))) (.cons (.unt false (.cons (.att (.nm 27) 29) (.cons (.att (.nm 27) 99) .nil)) (.cons (.tup (.cons (.att (.nm 29) 17) (.cons (.o2 .eqS (.att (.nm 29) 16) (.k (.str "<="))) .nil))) (.cons (.att (.nm 29) 56) .nil))) .nil) .nil) .nil)
noncomputable def c_put_range:CS:=(.cons (.ifs (.te (.o1 .isNN (.nm 28))) (.cons (.unt false (.cons (.att (.nm 27) 28) (.cons (.att (.nm 27) 98) .nil)) (.cons (.tup (.cons (.att (.nm 28) 17) (.cons (.o2 .eqS (.att (.nm 28) 16) (.k (.str ">="))) .nil))) (.cons (.att (.nm 28) 56) .nil))) .nil) .nil) (.lab c_put_range_t))
theorem o_put_range:okDf false 744 [true,true,true] [27,28,29] [] c_put_range=true:=by decide +kernel
theorem put_range_ok {lo hi:Option (Int×Op×O)} (h:PAt M n q j (HL q.eqs) l) (h1:q.low=none) (h2:q.high=none) (hk:∀ M' j',PAt M' n { q with low:=lo.map lowE,high:=hi.map highE } j' (HL q.eqs) l→Away M' M n→k (.t .none) M') :
  CALL T (r+1) (.ref 744) [.ref n,.t (optT bT lo),.t (optT bT hi)] M k:=by
 have tail:∀ {M1:Mem} {j1:Jk},PAt M1 n { q with low:=lo.map lowE } j1 (HL q.eqs) l→Away M1 M n→sx T r c_put_range_t [(27,.ref n),(28,.t (optT bT lo)),(29,.t (optT bT hi))] [] M1 fun f _ _ mem=>retK k f mem:=fun {M1 j1} h a1=>by
  cases hi with
  | none=>exact hk M1 _ (by rw [show (Option.map highE (none:Option (Int×Op×O)))=q.high from h2.symm];exact h) a1
  | some b =>
   refine nthK_ok h.p ?_
   refine h.stP { q with low:=lo.map lowE,high:=some (highE b) } ⟨.none,_,_,_,_,_,_,_,_⟩ rfl fun M1 j1 h1 a2=>?_
   refine nthK_ok h1.p ?_
   refine h1.stP { q with low:=lo.map lowE,high:=some (highE b) } ⟨.none,_,_,_,_,_,_,_,_⟩ rfl fun M2 j2 h2 a3=>?_
   exact hk M2 _ h2 (a3.trans (a2.trans a1))
 refine enter c_put_range [true,true,true] [27,28,29] [] false o_put_range ?_
 cases lo with
 | none =>
  refine (?_:Lab _)
  exact ⟨tail (by rw [show (Option.map lowE (none:Option (Int×Op×O)))=q.low from h1.symm];exact h) fun i _=>rfl⟩
 | some b =>
  refine nthK_ok h.p ?_
  refine h.stP { q with low:=some (lowE b) } ⟨.none,_,_,_,_,_,_,_,_⟩ rfl fun M1 j1 h1 a2=>?_
  refine nthK_ok h1.p ?_
  refine h1.stP { q with low:=some (lowE b) } ⟨.none,_,_,_,_,_,_,_,_⟩ rfl fun M2 j2 h2 a3=>?_
  refine (?_:Lab _)
  exact ⟨tail h2 (a3.trans a2)⟩
noncomputable def c_Path_mk:CS:=(.cons (.as (.att (.nm 76) 58) (.nm 58)) (.cons (.as (.att (.nm 76) 38) (.nm 38)) (.cons (.as (.att (.nm 76) 33) (.list .nil)) (.cons (.as (.att (.nm 76) 97) (.list .nil)) (.cons (.as (.att (.nm 76) 28) (.k .none)) (.cons (.as (.att (.nm 76) 29) (.k .none)) (.cons (.as (.att (.nm 76) 98) (.k .none)) (.cons (.as (.att (.nm 76) 99) (.k .none)) (.cons (.as (.att (.nm 76) 100) (.k .none)) (.cons (.as (.att (.nm 76) 101) (.k .none)) (.cons (.as (.att (.nm 76) 42) (.k (.bool false))) (.cons (.as (.att (.nm 76) 102) (.k (.bool false))) (.cons (.as (.att (.nm 76) 31) (.k (.bool false))) (.cons (.as (.att (.nm 76) 32) (.k (.int 1000))) (.cons (.as (.att (.nm 76) 35) (.o2 .mul (.k (.int 1000)) (.k (.int 2)))) .nil)))))))))))))))
theorem o_Path_mk:okDf false 688 [true,true,true] [76,58,38] [] c_Path_mk=true:=by decide +kernel
theorem p_Path_mk:okDf true 688 [true,true,true] [76,58,38] [] c_Path_mk=true:=by decide +kernel
noncomputable abbrev NewP (m:Mem) (q:Pd) (k:AV→Mem→Prop):Prop:=∀ M j,PAt M m.length q j (HL q.eqs) []→Keeps m M→k (.ref m.length) M
theorem newP {q:Pd} {j:Jk} (e:q.eqs=[]) (h:NewP m q k):k (.ref m.length) (m++[PV q j m.length,.lst [],.lst []]):=by
 refine h _ j ⟨?_,?_,?_⟩ fun i o hi=>?_
 ·rw [List.getElem?_append_right (Nat.le_refl _),Nat.sub_self];rfl
 ·rw [List.getElem?_append_right (by lia),Nat.add_sub_cancel_left,e];rfl
 ·rw [List.getElem?_append_right (by lia),Nat.add_sub_cancel_left];rfl
 ·rw [List.getElem?_append_left (get_lt hi)];exact hi
theorem path_ok {kd:Pk} (h:NewP m ⟨kd,none,[],none,none,none⟩ k):CALL T (r+2) (.ref 712) [.t (.str kd.str)] m k :=
 CALL.frame (ts:=[.str kd.str]) (maker 688 c_Path_mk [true,true,true] [76,58,38] [] true (by decide +kernel) p_Path_mk (show (IntMulOk 1000 2∧_) from ⟨mulSmall (.inl (by decide)),newP (j:=⟨.none,.none,.none,.none,.bool false,.bool false,.bool false,1000,1000 * 2⟩) rfl h⟩))
theorem path_ix {kd:Pk} {ix:Ix} (h:NewP m ⟨kd,some ix,[],none,none,none⟩ k):CALL T (r+2) (.ref 712) [.t (.str kd.str),.t ix.t] m k :=
 CALL.frame (ts:=[.str kd.str,ix.t]) (maker 688 c_Path_mk [true,true,true] [76,58,38] [] false (by decide +kernel) o_Path_mk (show (IntMulOk 1000 2∧_) from ⟨mulSmall (.inl (by decide)),newP (j:=⟨.none,.none,.none,.none,.bool false,.bool false,.bool false,1000,1000 * 2⟩) rfl h⟩))
end
noncomputable def sure:O→Bool
 | .lit .txt=>false
 | .lit _=>true
 | .name _ p=>neg p
structure Ix.Ok (x:Ix):Prop where
 cols:∀ c∈x.cols,-1≤c.1∧c.1≤2
 len:x.cols.length≤3
structure Good (bs:List Bd) (q:Pd):Prop where
 ixs:∀ x,q.ix=some x→x.Ok
 len:q.eqs.length≤q.places.length
 eqs:∀ (i:Nat) o p,q.eqs[i]?=some o→q.places[i]?=some p→Bd.cmp p .eq o∈bs
 low:∀ e,q.low=some e→∃ p,q.places[q.eqs.length]?=some p∧Bd.cmp p (endOp false e.2) e.1∈bs
 high:∀ e,q.high=some e→∃ p,q.places[q.eqs.length]?=some p∧Bd.cmp p (endOp true e.2) e.1∈bs
 inl:∀ os,q.inl=some os→∃ p,q.places[q.eqs.length]?=some p∧Bd.inl p os∈bs
noncomputable abbrev CmpO (bs:List Bd) (p:Int) (ops:List Str) (x:Option (Int×Op×O)):Prop:=∀ y,x=some y→y.1=p∧Bd.cmp p y.2.1 y.2.2∈bs∧ops.any (·==y.2.1.str)=true
theorem low_op {op:Op} (h:(([">",">="]:List Str).any (·==op.str))=true):endOp false (op.str==">=")=op:=by cases op<;>first | rfl | exact absurd h (by decide +kernel)
theorem high_op {op:Op} (h:(([("<":Str),"<="]:List Str).any (·==op.str))=true):endOp true (op.str=="<=")=op:=by cases op<;>first | rfl | exact absurd h (by decide +kernel)
theorem cmp_low {bs:List Bd} {p:Int} {lo:Option (Int×Op×O)} (h:CmpO bs p [">",">="] lo) {y:O×Bool} (hy:lo.map lowE=some y):Bd.cmp p (endOp false y.2) y.1∈bs:=by
 obtain ⟨z,e,rfl⟩:=Option.map_eq_some_iff.mp hy
 obtain ⟨_,h2,h3⟩:=h z e
 rw [show endOp false (lowE z).2=z.2.1 from low_op h3];exact h2
theorem cmp_high {bs:List Bd} {p:Int} {lo:Option (Int×Op×O)} (h:CmpO bs p ["<","<="] lo) {y:O×Bool} (hy:lo.map highE=some y):Bd.cmp p (endOp true y.2) y.1∈bs:=by
 obtain ⟨z,e,rfl⟩:=Option.map_eq_some_iff.mp hy
 obtain ⟨_,h2,h3⟩:=h z e
 rw [show endOp true (highE z).2=z.2.1 from high_op h3];exact h2
theorem eq_op {op:Op} (h:(([("=":Str)]:List Str).any (·==op.str))=true):op=.eq:=by cases op<;>first | rfl | exact absurd h (by decide +kernel)
section
variable {T:Top} {r n:Nat} {P:TV→Prop} {M m:Mem} {k:AV→Mem→Prop} {q:Pd} {j:Jk} {l:List TV} {nm:Str} {ixs cols:List TV} {p:Int} {bs:List Bd} {cv:Bool} {ops:List Str}
noncomputable abbrev fitV (p:Int) (cv:Bool) (nm:Str) (ixs cols:List TV):TV:=fitT p (match cv with | true=>.str "binary" | false=>.none) (tabT nm ixs cols)
theorem first_cmp (hp:-1≤p) (hb:∀ b∈bs,-1≤b.place) (ho:ops.any (·=="in")=false) (h:∀ x,CmpO bs p ops x→P (optT bT x)):FN T (r+2) false 723 [.lst (bs.map Bd.t),fitV p cv nm ixs cols,.tup (ops.map .str)] P:=by
 refine first_ok hp hb ?_
 cases e:bs.find? (hit p ops) with
 | none=>exact h none fun _ h=>nomatch h
 | some b =>
  have hm:=List.mem_of_find?_eq_some e
  have h2:hit p _ b=true:=List.find?_some e
  obtain ⟨h1,h3⟩:=and_of h2
  cases b with
  | cmp p' op o=>exact h (some (p',op,o)) fun y hy=>by cases hy;have h1:p'=p:=beq_iff_eq.mp h1;subst h1;exact ⟨rfl,hm,h3⟩
  | inl p' os=>exact absurd (ho.symm.trans h3) (fun e=>nomatch e)
theorem op_in (op:Op):(op.str=="in")=false:=by cases op<;>decide +kernel
theorem first_in (hp:-1≤p) (hb:∀ b∈bs,-1≤b.place) (h:∀ x:Option (List O),(∀ os,x=some os→Bd.inl p os∈bs)→P (optT (fun os=>Bd.t (.inl p os)) x)):FN T (r+2) false 723 [.lst (bs.map Bd.t),fitV p cv nm ixs cols,.tup ((["in"]:List Str).map .str)] P:=by
 refine first_ok hp hb ?_
 cases e:bs.find? (hit p ["in"]) with
 | none=>exact h none fun _ h=>nomatch h
 | some b =>
  have hm:=List.mem_of_find?_eq_some e
  have h2:hit p _ b=true:=List.find?_some e
  obtain ⟨h1,h2⟩:=and_of h2
  cases b with
  | inl p' os=>have h1:p'=p:=beq_iff_eq.mp h1;subst h1;exact h (some os) fun y hy=>by cases hy;exact hm
  | cmp p' op o =>
   have h2:(("in":Str)==op.str||false)=true:=h2
   rw [Bool.or_false,beq_iff_eq] at h2
   exact absurd (beq_iff_eq.mpr h2.symm) (by rw [op_in];exact fun e=>nomatch e)
noncomputable def c_fits_column:CS:=(.cons (.un (.cons (.nm 21) (.cons (.nm 44) (.cons (.nm 102) .nil))) (.nm 37)) (.cons (.ret (.tup (.cons (.nm 21) (.cons (.fcall false 666 (.cons (.nm 21) (.cons (.nm 22) .nil))) (.cons (.nm 44) (.cons (.nm 22) .nil)))))) .nil))
theorem o_fits_column:okDf false 763 [true,true] [37,22] [] c_fits_column=true:=by decide +kernel
theorem fits_ok {c:Int×Bool} (h:P (fitV c.1 true nm ixs cols)):FN T (r+2) false 763 [colT c,tabT nm ixs cols] P:=by
 refine enterF c_fits_column [true,true] [37,22] [] false o_fits_column ?_
 exact rowid_ok rfl h
noncomputable def c_surely_integer:CS:=(.cons (.ifs (.te (.o2 .isi (.nm 11) (.k (.val (Value.ref 90))))) (.cons (.ret (.or (.o1 .isN (.att (.nm 11) 17)) (.o1 .isInt (.att (.nm 11) 17)))) .nil) .nil) (.cons (.ifs (.te (.o2 .isi (.nm 11) (.k (.val (Value.ref 142))))) .stop .nil) (.cons (.ifs (.te (.o2 .isi (.nm 11) (.k (.val (Value.ref 168))))) .stop .nil) (.cons (.ifs (.te (.o2 .isi (.nm 11) (.tup (.cons (.k (.val (Value.ref 194))) (.cons (.k (.val (Value.ref 220))) (.cons (.k (.val (Value.ref 246))) (.cons (.k (.val (Value.ref 272))) (.cons (.k (.val (Value.ref 426))) (.cons (.k (.val (Value.ref 452))) .nil))))))))) (.cons (.ret (.k (.bool true))) .nil) .nil) (.cons (.ifs (.te (.o2 .isi (.nm 11) (.k (.val (Value.ref 374))))) .stop .nil) (.cons (.ifs (.te (.o2 .isi (.nm 11) (.k (.val (Value.ref 348))))) .stop .nil) (.cons (.ret (.and (.o2 .isi (.nm 11) (.k (.val (Value.ref 116)))) (.o2 .ltI (.att (.nm 11) 21) (.k (.int 0))))) .nil)))))))
theorem o_surely_integer:okDf false 673 [true] [11] [] c_surely_integer=true:=by decide +kernel
theorem sure_ok {o:O} (h:P (.bool (sure o))):FN T (r+1) false 673 [o.t] P:=by
 refine enterF c_surely_integer [true] [11] [] false o_surely_integer ?_
 cases o with
 | lit x=>cases x<;>exact h
 | name n p=>exact h
noncomputable def c_scan_path:CS:=(.cons (.as (.nm 27) (.call 712 (.cons (.k (.str "scan")) .nil))) (.cons (.ifs (.te (.o1 .isN (.att (.nm 43) 22))) (.cons (.unt false (.cons (.att (.nm 27) 32) (.cons (.att (.nm 27) 35) .nil)) (.cons (.k (.int 200)) (.cons (.o2 .mul (.k (.int 200)) (.k (.int 2))) .nil))) .nil) .nil) (.cons (.ret (.nm 27)) .nil)))
theorem o_scan_path:okDf false 784 [true] [43] [] c_scan_path=true:=by decide +kernel
theorem scan_ok {s:Sc} (h:∀ j:Jk,0≤j.rows→P (pathT (⟨.scan,none,[],none,none,none⟩,j))):FN T (r+3) false 784 [s.t] P:=by
 refine enterF c_scan_path [true] [43] [] false o_scan_path ?_
 refine maker 688 c_Path_mk [true,true,true] [76,58,38] [] true (by decide +kernel) p_Path_mk ?_
 refine (?_:IntMulOk 1000 2∧_)
 refine ⟨mulSmall (.inl (by decide)),?_⟩
 refine (?_:P _)
 exact h ⟨.lst [],.none,.none,.none,.bool false,.bool false,.bool false,1000,1000 * 2⟩ (by decide)
noncomputable def c_new_index_path:CS:=(.cons (.as (.nm 27) (.call 712 (.cons (.k (.str "index")) (.cons (.nm 38) .nil)))) (.cons (.for_ 0 [26] true false (.nm 40) (.cons (.ex (.call 730 (.cons (.nm 27) (.cons (.nm 26) .nil)))) (.cons (.kp [38,40,39,27]) .nil))) (.cons (.as (.att (.nm 27) 42) (.nm 39)) (.cons (.ret (.nm 27)) .nil))))
theorem o_new_index_path:okDf false 777 [true,true,true] [38,40,39] [] c_new_index_path=true:=by decide +kernel
theorem new_index_ok {ix:Ix} {hd:List (Int×Op×O)} (hz:hd.length≤900) (h:∀ M j l,PAt M m.length ⟨.index,some ix,hd.map (·.2.2),none,none,none⟩ j (HL (hd.map (·.2.2))) l→Keeps m M→k (.ref m.length) M):CALL T (r+3) (.ref 777) [.t ix.t,.t (.lst (hd.map bT)),.t (.bool false)] m k:=by
 refine enter c_new_index_path [true,true,true] [38,40,39] [] false o_new_index_path ?_
 refine path_ix (kd:=.index) fun M j h0 hK=>?_
 refine forL_ind (σ:=Mem×List O×List TV) (fun b=>.t (bT b)) (fun _=>_) (fun _=>[]) (fun s=>s.1) (fun l s=>PAt s.1 m.length ⟨.index,some ix,s.2.1,none,none,none⟩ j (HL s.2.1) s.2.2∧Keeps m s.1∧s.2.1++l.map (·.2.2)=hd.map (·.2.2)∧s.2.2.length=s.2.1.length) (fun s hs=>?_) (fun b l s hI R hR=>?_) hd (M,[],[]) mm ⟨h0,hK,rfl,rfl⟩
 ·obtain ⟨h1,h2,h3,h4⟩:=hs
  rw [List.map_nil,List.append_nil] at h3
  rw [h3] at h1
  refine nthK_ok h1.p ?_
  refine h1.stP ⟨.index,some ix,hd.map (·.2.2),none,none,none⟩ ⟨.none,_,_,_,_,_,_,_,_⟩ rfl fun M1 j1 h1 a1=>?_
  exact h M1 _ _ h1 (h2.away a1)
 ·obtain ⟨h1,h2,h3,h4⟩:=hI
  have hl:=congrArg List.length h3
  simp only [List.length_append,List.length_map,List.length_cons] at hl
  have hy:s.2.1.length≤900:=Nat.le_trans (Nat.le_add_right _ _) (Nat.le_trans (Nat.le_of_eq hl) hz)
  refine put_equal_ok (b:=b) h1 (by simp only;exact ⟨hy,Nat.le_trans (Nat.le_of_eq h4) hy⟩) fun M2 l2 e2 h2' a2=>?_
  exact hR (M2,s.2.1++[b.2.2],l2) ⟨h2',h2.away a2,by rw [List.append_assoc];exact h3,by simp only [List.length_append,List.length_cons,List.length_nil];lia⟩
noncomputable def wholeB:Bd→Bool
 | .cmp _ _ o=>sure o
 | .inl _ _=>false
theorem fz_lst {d:Nat} {k:TV→Mem→Prop} (h:M[n]?=some (.lst (l.map .t))) (hk:∀ M',k (.lst l) M'):fzK (d+2) M (.ref n) k:=by
 refine nthK_ok h ?_
 refine fzc_t ?_
 refine nthK_ok h ?_
 refine resL_t ?_
 refine setK_ok (get_lt h) ?_
 exact hk _
theorem app_lst {k:Mem→Prop} {u:TV} (h:M[n]?=some (.lst (l.map .t))) (hz:l.length≤900) (hk:∀ M',M'[n]?=some (.lst ((l++[u]).map .t))→(∀ i,i≠n→M'[i]?=M[i]?)→k M'):appK M (.ref n) (.t u) k:=by
 refine nthK_ok h ?_
 refine brT' (short_ok (by simpa using hz)) ?_
 refine setK_ok (get_lt h) ?_
 exact hk _ (by rw [set_1 h];simp) fun i hi=>set_n hi.symm
theorem whole_eq {bs:List Bd}:∀ b∈bs.filter wholeB,b∈bs:=fun b h=>(List.mem_filter.mp h).1
noncomputable def c_rowid_paths_c:CS:=(.cons (.ifs (.tor (.te (.o1 .isNN (.nm 28))) (.tor (.te (.o1 .isNN (.nm 29))) .ff)) (.cons (.as (.nm 27) (.call 712 (.cons (.k (.str "rowid_range")) .nil))) (.cons (.ex (.call 744 (.cons (.nm 27) (.cons (.nm 28) (.cons (.nm 29) .nil))))) (.cons (.ex (.call 751 (.cons (.nm 27) (.cons (.k (.int 2)) (.cons (.k (.bool false)) .nil))))) (.cons (.fzv 27) (.cons (.ex (.app (.nm 12) (.nm 27))) .nil))))) .nil) (.cons (.ret (.nm 12)) .nil))
noncomputable def c_rowid_paths_b:CS:=(.cons (.as (.nm 36) (.comp (.nm 26) [26] true false (.nm 23) (.tand (.te (.o2 .neS (.att (.nm 26) 16) (.k (.str "in")))) (.tand (.te (.fcall false 673 (.cons (.att (.nm 26) 17) .nil))) .tt)))) (.cons (.unt true (.cons (.nm 29) (.cons (.nm 28) .nil)) (.cons (.fcall false 723 (.cons (.nm 36) (.cons (.nm 24) (.cons (.tup (.cons (.k (.str ">")) (.cons (.k (.str ">=")) .nil))) .nil)))) (.cons (.fcall false 723 (.cons (.nm 36) (.cons (.nm 24) (.cons (.tup (.cons (.k (.str "<")) (.cons (.k (.str "<=")) .nil))) .nil)))) .nil))) (.cons (.kp [12,28,29]) (.lab c_rowid_paths_c))))
noncomputable def c_rowid_paths_a:CS:=(.cons (.ifs (.te (.o1 .isNN (.nm 34))) (.cons (.as (.nm 27) (.call 712 (.cons (.k (.str "rowid")) .nil))) (.cons (.ex (.call 737 (.cons (.nm 27) (.cons (.nm 34) .nil)))) (.cons (.ex (.call 751 (.cons (.nm 27) (.cons (.k (.int 2)) (.cons (.k (.bool true)) .nil))))) (.cons (.fzv 27) (.cons (.ex (.app (.nm 12) (.nm 27))) .nil))))) .nil) (.cons (.kp [22,23,24,12]) (.lab c_rowid_paths_b)))
noncomputable def c_rowid_paths:CS:=(.cons (.as (.nm 24) (.tup (.cons (.o1 .neg (.k (.int 1))) (.cons (.k (.bool true)) (.cons (.k .none) (.cons (.nm 22) .nil)))))) (.cons (.as (.nm 12) (.list .nil)) (.cons (.unt true (.cons (.nm 34) (.cons (.nm 106) .nil)) (.cons (.fcall false 723 (.cons (.nm 23) (.cons (.nm 24) (.cons (.tup (.cons (.k (.str "=")) .nil)) .nil)))) (.cons (.fcall false 723 (.cons (.nm 23) (.cons (.nm 24) (.cons (.tup (.cons (.k (.str "in")) .nil)) .nil)))) .nil))) (.cons (.ifs (.te (.o1 .isNN (.nm 106))) (.cons (.as (.nm 27) (.call 712 (.cons (.k (.str "rowid")) .nil))) (.cons (.ex (.call 730 (.cons (.nm 27) (.cons (.nm 106) .nil)))) (.cons (.ex (.call 751 (.cons (.nm 27) (.cons (.k (.int 2)) (.cons (.k (.bool true)) .nil))))) (.cons (.fzv 27) (.cons (.ex (.app (.nm 12) (.nm 27))) .nil))))) .nil) (.cons (.kp [22,23,24,12,34]) (.lab c_rowid_paths_a))))))
theorem o_rowid_paths:okDf false 756 [true,true] [22,23] [] c_rowid_paths=true:=by decide +kernel
noncomputable abbrev QK (bs:List Bd) (P:TV→Prop):Prop:=∀ qs:List (Pd×Jk),(∀ q∈qs,Good bs q.1∧0≤q.2.rows)→qs.length≤3→P (.lst (qs.map pathT))
noncomputable abbrev HQ (M:Mem) (qs:List (Pd×Jk)):Prop:=M[0]?=some (.lst ((qs.map pathT).map .t))
theorem HQ.app {k:Mem→Prop} {qs:List (Pd×Jk)} {q:Pd×Jk} (h:HQ M qs) (hz:qs.length≤3) (hk:∀ M',HQ M' (qs++[q])→k M'):appK M (.ref 0) (.t (pathT q)) k :=
 app_lst h (by rw [List.length_map];lia) fun M' h' _=>hk M' (by show M'[0]?=_;rw [h',List.map_append (f:=pathT)];rfl)
theorem rowid_c {qs:List (Pd×Jk)} {lo hi:Option (Int×Op×O)} (hq:∀ q∈qs,Good bs q.1∧0≤q.2.rows) (hz:qs.length≤2) (hM:HQ M qs) (hlo:CmpO bs (-1) [">",">="] lo) (hhi:CmpO bs (-1) ["<","<="] hi) (h:QK bs P) :
  sx T (r+2) c_rowid_paths_c [(12,.ref 0),(28,.t (optT bT lo)),(29,.t (optT bT hi))] [] M fun f _ _ mem=>retK (endF false P) f mem:=by
 have fin:∀ {qs:List (Pd×Jk)} {M:Mem},HQ M qs→(∀ q∈qs,Good bs q.1∧0≤q.2.rows)→qs.length≤3→endF false P (.ref 0) M:=fun hM hq hz=>fz_lst hM fun _=>h _ hq hz
 have key:CALL T (r+2) (.ref 712) [.t (.str "rowid_range")] M fun v mem=>sx T (r+2) (.cons (.ex (.call 744 (.cons (.nm 27) (.cons (.nm 28) (.cons (.nm 29) .nil))))) (.cons (.ex (.call 751 (.cons (.nm 27) (.cons (.k (.int 2)) (.cons (.k (.bool false)) .nil))))) (.cons (.fzv 27) (.cons (.ex (.app (.nm 12) (.nm 27))) .nil)))) [(12,.ref 0),(28,.t (optT bT lo)),(29,.t (optT bT hi)),(27,v)] [] mem (seqK (sx T (r+2) (.cons (.ret (.nm 12)) .nil)) fun f _ _ mem=>retK (endF false P) f mem):=by
  refine path_ok (kd:=.range) fun M1 j1 h1 K1=>?_
  refine put_range_ok h1 rfl rfl fun M2 j2 h2 a2=>?_
  refine guess_ok (fun _ h=>by cases h) (by decide) h2 fun M3 j3 r3 h3 a3=>?_
  refine fz_fz h3 ?_
  have h0:HQ M3 qs:=(K1.away (a3.trans a2)) 0 _ hM
  refine nthK_ok h0 ?_
  refine h0.app (by lia) fun M4 h4=>?_
  refine fin h4 (fun q hq'=>?_) (by rw [List.length_append];simp;lia)
  rcases List.mem_append.mp hq' with e | e
  ·exact hq q e
  ·cases List.mem_singleton.mp e
   refine ⟨?_,r3⟩;exact ⟨(fun _ h=>by cases h),Nat.zero_le _,fun _ _ _ h=>(by cases h),fun y hy=>⟨-1,rfl,cmp_low hlo hy⟩,fun y hy=>⟨-1,rfl,cmp_high hhi hy⟩,fun _ h=>by cases h⟩
 cases lo with
 | some b=>exact key
 | none =>
  cases hi with
  | some b=>exact key
  | none=>exact fin hM hq (by lia)
theorem CmpO.sub {bs bs':List Bd} {p:Int} {ops:List Str} {x:Option (Int×Op×O)} (h:CmpO bs' p ops x) (hs:∀ b∈bs',b∈bs):CmpO bs p ops x:=fun y hy=>⟨(h y hy).1,hs _ (h y hy).2.1,(h y hy).2.2⟩
theorem rowid_b {qs:List (Pd×Jk)} (hb:∀ b∈bs,-1≤b.place) (hq:∀ q∈qs,Good bs q.1∧0≤q.2.rows) (hz:qs.length≤2) (hM:HQ M qs) (h:QK bs P) :
  sx T (r+2) c_rowid_paths_b [(22,.t (tabT nm ixs cols)),(23,.t (.lst (bs.map Bd.t))),(24,.t (fitV (-1) false nm ixs cols)),(12,.ref 0)] [] M fun f _ _ mem=>retK (endF false P) f mem:=by
 refine compL_fil Bd.t Bd.t wholeB (fun b hb R hR=>?_) ?_
 ·cases b with
  | cmp p op o =>
   refine (?_:brK _ _ _)
   refine brT' (by show (!(op.str=="in"))=true;rw [op_in];rfl) ?_
   refine sure_ok ?_
   refine (?_:brK _ _ _)
   refine br (fun e=>?_) fun e=>?_
   ·rw [if_pos (show wholeB (.cmp p op o)=true from e)] at hR;exact hR
   ·rw [if_neg (by rw [show wholeB (.cmp p op o)=false from e];simp)] at hR;exact hR
  | inl p os=>exact hR
 ·have hb':∀ b∈bs.filter wholeB,-1≤b.place:=fun b h=>hb b (whole_eq b h)
  refine first_cmp (p:=-1) (cv:=false) (ops:=[">",">="]) (by decide) hb' (by decide +kernel) fun lo hlo=>?_
  refine first_cmp (p:=-1) (cv:=false) (ops:=["<","<="]) (by decide) hb' (by decide +kernel) fun hi hhi=>?_
  refine (?_:Lab _)
  exact ⟨rowid_c hq hz hM (hlo.sub whole_eq) (hhi.sub whole_eq) h⟩
theorem rowid_a {qs:List (Pd×Jk)} {x:Option (List O)} (hx:∀ os,x=some os→Bd.inl (-1) os∈bs) (hl:∀ p os,Bd.inl p os∈bs→os.length≤1000) (hb:∀ b∈bs,-1≤b.place) (hq:∀ q∈qs,Good bs q.1∧0≤q.2.rows) (hz:qs.length≤1) (hM:HQ M qs) (h:QK bs P) :
  sx T (r+2) c_rowid_paths_a [(22,.t (tabT nm ixs cols)),(23,.t (.lst (bs.map Bd.t))),(24,.t (fitV (-1) false nm ixs cols)),(12,.ref 0),(34,.t (optT (fun os=>Bd.t (.inl (-1) os)) x))] [] M fun f _ _ mem=>retK (endF false P) f mem:=by
 cases x with
 | none =>
  refine (?_:Lab _)
  exact ⟨rowid_b hb hq (by lia) hM h⟩
 | some os =>
  refine path_ok (kd:=.rowid) fun M1 j1 h1 K1=>?_
  refine put_list_ok h1 fun M2 j2 h2 a2=>?_
  refine guess_ok (fun _ h=>by cases h;exact hl _ _ (hx _ rfl)) (by decide) h2 fun M3 j3 r3 h3 a3=>?_
  refine fz_fz h3 ?_
  have h0:HQ M3 qs:=(K1.away (a3.trans a2)) 0 _ hM
  refine nthK_ok h0 ?_
  refine h0.app (by lia) fun M4 h4=>?_
  refine (?_:Lab _)
  refine ⟨rowid_b hb (fun q hq'=>?_) (by rw [List.length_append];simp;lia) h4 h⟩
  rcases List.mem_append.mp hq' with e | e
  ·exact hq q e
  ·cases List.mem_singleton.mp e
   refine ⟨?_,r3⟩;exact ⟨(fun _ h=>by cases h),Nat.zero_le _,fun _ _ _ h=>(by cases h),fun _ h=>(by cases h),fun _ h=>(by cases h),fun _ h=>by cases h;exact ⟨-1,rfl,hx _ rfl⟩⟩
theorem rowid_paths_ok (hl:∀ p os,Bd.inl p os∈bs→os.length≤1000) (hb:∀ b∈bs,-1≤b.place) (h:QK bs P):FN T (r+3) false 756 [tabT nm ixs cols,.lst (bs.map Bd.t)] P:=by
 refine enterF c_rowid_paths [true,true] [22,23] [] false o_rowid_paths ?_
 refine first_cmp (p:=-1) (cv:=false) (ops:=["="]) (by decide) hb (by decide +kernel) fun x hx=>?_
 refine first_in (p:=-1) (cv:=false) (by decide) hb fun y hy=>?_
 have h0:HQ [.lst []] []:=rfl
 cases x with
 | none =>
  refine (?_:Lab _)
  exact ⟨rowid_a hy hl hb (fun _ h=>by cases h) (by decide) h0 h⟩
 | some b =>
  refine path_ok (kd:=.rowid) fun M1 j1 h1 K1=>?_
  refine put_equal_ok (b:=b) h1 (by decide) fun M2 l2 _ h2 a2=>?_
  refine guess_ok (fun _ h=>by cases h) (by decide) h2 fun M3 j3 r3 h3 a3=>?_
  refine fz_fz h3 ?_
  have h0:HQ M3 []:=(K1.away (a3.trans a2)) 0 _ h0
  refine nthK_ok h0 ?_
  refine h0.app (by decide) fun M4 h4=>?_
  refine (?_:Lab _)
  refine ⟨rowid_a hy hl hb (fun q hq'=>?_) (by simp) h4 h⟩
  cases List.mem_singleton.mp hq'
  refine ⟨?_,r3⟩;refine ⟨(fun _ h=>by cases h),Nat.le_refl _,fun i o p ho hp=>?_,fun _ h=>(by cases h),fun _ h=>(by cases h),fun _ h=>by cases h⟩
  match i,ho,hp with
  | 0,ho,hp=>cases ho;cases hp;obtain ⟨_,h2,h3⟩:=hx b rfl;rw [eq_op h3] at h2;exact h2
end
structure PL (M:Mem) (F:Nat) (ps:List (Nat×Pd)):Prop where
 fd:M[F]?=some (.lst (ps.map fun x=>.ref x.1))
 at_:∀ x∈ps,∃ j l,PAt M x.1 x.2 j (HL x.2.eqs) l
 lt:∀ x∈ps,x.1+2<F∨F<x.1
 ord:ps.Pairwise fun a b=>a.1+2<b.1
section
variable {M M' m:Mem} {F n d:Nat} {ps:List (Nat×Pd)} {q:Pd} {j:Jk} {e:MO} {l:List TV}
theorem PAt.keeps (h:PAt M n q j e l) (k:Keeps M M'):PAt M' n q j e l:=⟨k _ _ h.p,k _ _ h.e,k _ _ h.f⟩
theorem PL.keeps (h:PL M F ps) (k:Keeps M M'):PL M' F ps:=⟨k _ _ h.fd,fun x hx=>by obtain ⟨j,l,q⟩:=h.at_ x hx;exact ⟨j,l,q.keeps k⟩,h.lt,h.ord⟩
theorem PL.app (h:PL M F ps) (hz:ps.length≤900) (hn:PAt M n q j (HL q.eqs) l) (hF:F<n) (hp:∀ x∈ps,x.1+2<n) {k:Mem→Prop} (hk:∀ M',PL M' F (ps++[(n,q)])→k M'):appK M (.ref F) (.ref n) k:=by
 refine nthK_ok h.fd ?_
 refine brT' (short_ok (by simpa using hz)) ?_
 refine setK_ok (get_lt h.fd) ?_
 have sk:∀ {n:Nat} {q:Pd} {j:Jk} {l:List TV},n+2<F∨F<n→PAt M n q j (HL q.eqs) l→PAt (M.set F (.lst ((ps.map fun x=>AV.ref x.1)++[.ref n]))) n q j (HL q.eqs) l:=fun hF hn =>
  ⟨(set_n (neF3 hF).1).trans hn.p,(set_n (neF3 hF).2.1).trans hn.e,(set_n (neF3 hF).2.2).trans hn.f⟩
 have sk:∀ {a:MO} {n:Nat} {q:Pd} {j:Jk} {l:List TV},n+2<F∨F<n→PAt M n q j (HL q.eqs) l→PAt (M.set F a) n q j (HL q.eqs) l:=fun hF hn =>
  ⟨(set_n (neF3 hF).1).trans hn.p,(set_n (neF3 hF).2.1).trans hn.e,(set_n (neF3 hF).2.2).trans hn.f⟩
 refine hk _ ⟨by rw [set_1 h.fd,List.map_append];rfl,fun x hx=>?_,fun x hx=>?_,List.pairwise_append.mpr ⟨h.ord,List.pairwise_singleton _ _,fun a ha b hb=>by cases List.mem_singleton.mp hb;exact hp a ha⟩⟩
 ·rcases List.mem_append.mp hx with hx | hx
  ·obtain ⟨j,l,q⟩:=h.at_ x hx
   exact ⟨j,l,sk (h.lt x hx) q⟩
  ·cases List.mem_singleton.mp hx;exact ⟨j,l,sk (.inr hF) hn⟩
 ·rcases List.mem_append.mp hx with hx | hx
  ·exact h.lt x hx
  ·cases List.mem_singleton.mp hx;exact .inr hF
theorem fz_refs {k:TV→Mem→Prop} {ps:List (Nat×TV)} (hF:M[F]?=some (.fl (ps.map fun x=>.ref x.1))) (h:∀ x∈ps,M[x.1]?=some (.fz x.2)) (hk:∀ M',k (.lst (ps.map (·.2))) M'):fzK (d+2) M (.ref F) k:=by
 have one:∀ (ps:List (Nat×TV)) (k:Mem→Prop),(∀ x∈ps,M[x.1]?=some (.fz x.2))→k M→fzc (fzK (d+1)) (ps.map fun x=>.ref x.1) M k:=fun ps=>by
  induction ps with
  | nil=>exact fun k _ h=>h
  | cons x ps ih=>exact fun k h hk=>fz_fz (h x (.head _)) (ih k (fun y hy=>h y (.tail _ hy)) hk)
 have two:∀ (ps:List (Nat×TV)) (k:List TV→Prop),(∀ x∈ps,M[x.1]?=some (.fz x.2))→k (ps.map (·.2))→resL M (ps.map fun x=>.ref x.1) k:=fun ps=>by
  induction ps with
  | nil=>exact fun k _ h=>h
  | cons x ps ih=>exact fun k h hk=>nthK_ok (h x (.head _)) (ih (fun us=>k (x.2::us)) (fun y hy=>h y (.tail _ hy)) hk)
 refine nthK_ok hF ?_
 refine one ps _ h ?_
 refine nthK_ok hF ?_
 refine two ps _ h ?_
 refine setK_ok (get_lt hF) ?_
 exact hk _
end
section
variable {T:Top} {r n F:Nat} {P:TV→Prop} {M m:Mem} {l:List TV} {ix:Ix} {bs:List Bd} {hd:List (Int×Op×O)} {nm:Str} {ixs cols:List TV} {ps:List (Nat×Pd)}
noncomputable def c_index_paths_m:CS:=(.cons (.ifs (.te (.o1 .isNN (.nm 34))) (.cons (.as (.nm 27) (.call 777 (.cons (.nm 38) (.cons (.nm 40) (.cons (.nm 39) .nil))))) (.cons (.ex (.call 737 (.cons (.nm 27) (.cons (.nm 34) .nil)))) (.cons (.ex (.app (.nm 12) (.nm 27))) .nil))) .nil) .nil)
noncomputable def c_index_paths_g:CS:=(.cons (.ex (.call 751 (.cons (.nm 27) (.cons (.ife (.te (.nm 39)) (.k (.int 2)) (.k (.int 3))) (.cons (.nm 31) .nil))))) (.cons (.kp [38,39,12]) .nil))
noncomputable def c_index_paths_l:CS:=(.cons (.for_ 0 [27] true false (.nm 12) (.cons (.as (.nm 74) (.o2 .add (.o1 .len (.att (.nm 27) 33)) (.ife (.te (.o1 .isN (.att (.nm 27) 100))) (.k (.int 0)) (.k (.int 1))))) (.cons (.as (.nm 31) (.and (.att (.nm 38) 116) (.o2 .eqI (.nm 74) (.o1 .len (.att (.nm 38) 41))))) (.lab c_index_paths_g)))) (.cons (.ret (.nm 12)) .nil))
noncomputable def c_index_paths_d:CS:=(.cons (.ifs (.te (.o2 .ltI (.o1 .len (.nm 40)) (.o1 .len (.att (.nm 38) 41)))) (.cons (.as (.nm 24) (.fcall false 763 (.cons (.sub (.att (.nm 38) 41) (.o1 .len (.nm 40))) (.cons (.nm 22) .nil)))) (.cons (.unt true (.cons (.nm 29) (.cons (.nm 28) .nil)) (.cons (.fcall false 723 (.cons (.nm 23) (.cons (.nm 24) (.cons (.tup (.cons (.k (.str ">")) (.cons (.k (.str ">=")) .nil))) .nil)))) (.cons (.fcall false 723 (.cons (.nm 23) (.cons (.nm 24) (.cons (.tup (.cons (.k (.str "<")) (.cons (.k (.str "<=")) .nil))) .nil)))) .nil))) (.cons (.as (.nm 34) (.fcall false 723 (.cons (.nm 23) (.cons (.nm 24) (.cons (.tup (.cons (.k (.str "in")) .nil)) .nil))))) (.cons (.kp [38,40,39,12,28,29,34]) (.cons (.ifs (.tor (.te (.o1 .isNN (.nm 28))) (.tor (.te (.o1 .isNN (.nm 29))) .ff)) (.cons (.as (.nm 27) (.call 777 (.cons (.nm 38) (.cons (.nm 40) (.cons (.nm 39) .nil))))) (.cons (.ex (.call 744 (.cons (.nm 27) (.cons (.nm 28) (.cons (.nm 29) .nil))))) (.cons (.ex (.app (.nm 12) (.nm 27))) .nil))) .nil) (.cons (.kp [38,40,39,12,34]) (.lab c_index_paths_m))))))) .nil) (.cons (.kp [38,39,12]) (.cons (.shf 12) (.lab c_index_paths_l))))
noncomputable def c_index_paths_f:CS:=(.cons (.as (.nm 12) (.list (.cons (.call 777 (.cons (.nm 38) (.cons (.nm 40) (.cons (.nm 39) .nil)))) .nil))) (.lab c_index_paths_d))
noncomputable def c_index_paths:CS:=(.cons (.as (.nm 40) (.list .nil)) (.cons (.for_ 0 [37] true false (.att (.nm 38) 41) (.cons (.as (.nm 106) (.fcall false 723 (.cons (.nm 23) (.cons (.fcall false 763 (.cons (.nm 37) (.cons (.nm 22) .nil))) (.cons (.tup (.cons (.k (.str "=")) .nil)) .nil))))) (.cons (.ifs (.te (.o1 .isN (.nm 106))) (.cons (.brk) .nil) .nil) (.cons (.ex (.app (.nm 40) (.nm 106))) (.cons (.kp [38,22,23,39,40]) .nil))))) (.cons (.fzv 40) (.cons (.kp [38,22,23,39,40]) (.lab c_index_paths_f)))))
theorem o_index_paths:okDf false 770 [true,true,true,true] [38,22,23,39] [] c_index_paths=true:=by decide +kernel
theorem index_g {q:Pd} {j:Jk} {t:TV} {b:Bool} {K:Fl→Fr→Fr→Mem→Prop} (hl:∀ os,q.inl=some os→os.length≤1000) (h:PAt M n q j (HL q.eqs) l) (hk:∀ M' j',0≤j'.rows→M'[n]?=some (.fz (pathT (q,j')))→Away M' M n→K .next [(38,.t ix.t),(39,.t (.bool false)),(12,.ref F)] [] M') :
  sx T (r+4) c_index_paths_g [(38,.t ix.t),(39,.t (.bool false)),(12,.ref F),(27,.ref n),(74,.t t),(31,.t (.bool b))] [] M K:=by
 refine guess_ok (r:=r+2) hl (by decide) h fun M' j' r' h' a'=>?_
 exact hk M' j' r' h' a'
theorem index_l (hg:∀ x∈ps,Good bs x.2) (hl:∀ x∈ps,∀ os,x.2.inl=some os→os.length≤1000) (hz:ps.length≤3) (hF:M[F]?=some (.fl (ps.map fun x=>.ref x.1))) (ha:∀ x∈ps,∃ j l,PAt M x.1 x.2 j (HL x.2.eqs) l) (hlt:∀ x∈ps,x.1+2<F∨F<x.1) (ho:ps.Pairwise fun a b=>a.1+2<b.1) (h:QK bs P) :
  sx T (r+4) c_index_paths_l [(38,.t ix.t),(39,.t (.bool false)),(12,.ref F)] [] M fun f _ _ mem=>retK (endF false P) f mem:=by
 refine nthK_ok hF ?_
 refine forL_ind (σ:=Mem×List (Nat×Pd×Jk)) (fun x:Nat×Pd=>.ref x.1) (fun _=>_) (fun _=>[]) (fun s=>s.1) (fun l s=>s.1[F]?=some (.fl (ps.map fun x=>.ref x.1))∧s.2.map (fun x=>(x.1,x.2.1))++l=ps∧(∀ x∈s.2,s.1[x.1]?=some (.fz (pathT x.2))∧0≤x.2.2.rows)∧∀ x∈l,∃ j l,PAt s.1 x.1 x.2 j (HL x.2.eqs) l) (fun s hs=>?_) (fun x l s hI R hR=>?_) ps (M,[]) rfl ⟨hF,rfl,(fun _ h=>nomatch h),ha⟩
 ·obtain ⟨h1,h2,h3,_⟩:=hs
  rw [List.append_nil] at h2
  refine fz_refs (ps:=s.2.map fun x=>(x.1,pathT x.2)) (by rw [h1,← h2,List.map_map,List.map_map];rfl) (fun x hx=>?_) fun _=>?_
  ·obtain ⟨y,hy,rfl⟩:=List.mem_map.mp hx;exact (h3 y hy).1
  ·have:=h (s.2.map (·.2)) (fun q hq=>by obtain ⟨y,hy,rfl⟩:=List.mem_map.mp hq;exact ⟨hg (y.1,y.2.1) (h2▸List.mem_map.mpr ⟨y,hy,rfl⟩),(h3 y hy).2⟩) (by rw [List.length_map];have:=congrArg List.length h2;rw [List.length_map] at this;exact Nat.le_trans (Nat.le_of_eq this) hz)
   rw [List.map_map] at this ⊢
   exact this
 ·obtain ⟨h1,h2,h3,h4⟩:=hI
  obtain ⟨j,ll,h5⟩:=h4 x (.head _)
  have hx:x∈ps:=by rw [← h2];simp
  have G:∀ (t:TV) (b:Bool),Lab (sx T (r+4) c_index_paths_g [(38,.t ix.t),(39,.t (.bool false)),(12,.ref F),(27,.ref x.1),(74,.t t),(31,.t (.bool b))] [] s.1 (loopK 0 R fun f fr cl mem=>seqK (sx T (r+4) (.cons (.ret (.nm 12)) .nil)) (fun f _ _ mem=>retK (endF false P) f mem) f fr cl mem)):=fun t b=>by
   refine ⟨index_g (hl x hx) h5 fun M' j' r' h' a'=>?_⟩
   refine hR (M',s.2++[(x.1,x.2,j')]) ⟨?_,by rw [List.map_append,List.append_assoc];exact h2,fun y hy=>?_,fun y hy=>?_⟩
   ·rw [← h1];exact a' F (hlt x hx).symm
   ·rcases List.mem_append.mp hy with hy | hy
    ·refine ⟨?_,(h3 y hy).2⟩
     rw [← (h3 y hy).1]
     refine a' _ (.inl ?_)
     rw [← h2] at ho
     have:=(List.pairwise_append.mp ho).2.2 (y.1,y.2.1) (List.mem_map.mpr ⟨y,hy,rfl⟩) x (.head _)
     simp only at this;exact Nat.lt_of_le_of_lt (Nat.le_add_right _ 2) this
    ·cases List.mem_singleton.mp hy;exact ⟨h',r'⟩
   ·obtain ⟨j2,l2,q⟩:=h4 y (.tail _ hy)
    rw [← h2] at ho
    have:=(List.pairwise_cons.mp (List.pairwise_append.mp ho).2.1).1 y hy
    exact ⟨j2,l2,(a' _ (.inr this)).trans q.p,(a' _ (.inr (Nat.lt_succ_of_lt this))).trans q.e,(a' _ (.inr (Nat.lt_succ_of_lt (Nat.lt_succ_of_lt this)))).trans q.f⟩
  refine nthK_ok h5.p ?_
  refine nthK_ok h5.e ?_
  refine nthK_ok h5.p ?_
  refine (?_:brK _ _ _)
  refine brT' (os_nv _) ?_
  have G2:∀ i:Int,sx T (r+4) (.cons (.as (.nm 31) (.and (.att (.nm 38) 116) (.o2 .eqI (.nm 74) (.o1 .len (.att (.nm 38) 41))))) (.lab c_index_paths_g)) [(38,.t ix.t),(39,.t (.bool false)),(12,.ref F),(27,.ref x.1),(74,.t (.int i))] [] s.1 (loopK 0 R fun f fr cl mem=>seqK (sx T (r+4) (.cons (.ret (.nm 12)) .nil)) (fun f _ _ mem=>retK (endF false P) f mem) f fr cl mem):=fun i=>by
   refine (?_:brK _ _ _)
   refine br (fun _=>?_) fun _=>?_
   ·exact G _ _
   ·exact G _ _
  refine (?_:brK _ _ _)
  refine br (fun _=>?_) fun _=>?_
  ·exact G2 _
  ·exact G2 _
noncomputable abbrev q0 (ix:Ix) (hd:List (Int×Op×O)):Pd:=⟨.index,some ix,hd.map (·.2.2),none,none,none⟩
structure HdOk (bs:List Bd) (ix:Ix) (hd:List (Int×Op×O)):Prop where
 ixo:ix.Ok
 len:hd.length≤ix.cols.length
 eq:∀ (i:Nat) y c,hd[i]?=some y→ix.cols[i]?=some c→Bd.cmp c.1 .eq y.2.2∈bs
structure IS (bs:List Bd) (M:Mem) (F:Nat) (ps:List (Nat×Pd)):Prop where
 pl:PL M F ps
 good:∀ x∈ps,Good bs x.2
 inl:∀ x∈ps,∀ os,x.2.inl=some os→os.length≤1000
theorem IS.push {q:Pd} {j:Jk} {M0:Mem} {k:Mem→Prop} (h:IS bs M0 F ps) (K:Keeps M0 M) (hn:PAt M M0.length q j (HL q.eqs) l) (g:Good bs q) (hl:∀ os,q.inl=some os→os.length≤1000) (hz:ps.length≤900) (hk:∀ M',IS bs M' F (ps++[(M0.length,q)])→k M'):appK M (.ref F) (.ref M0.length) k :=
 (h.pl.keeps K).app hz hn (get_lt h.pl.fd) (fun x hx=>by obtain ⟨j,l,q⟩:=h.pl.at_ x hx;exact get_lt q.f) fun M' h'=>hk M' ⟨h',fun x hx=>by
  rcases List.mem_append.mp hx with hx | hx
  ·exact h.good x hx
  ·cases List.mem_singleton.mp hx;exact g,fun x hx=>by
  rcases List.mem_append.mp hx with hx | hx
  ·exact h.inl x hx
  ·cases List.mem_singleton.mp hx;exact hl⟩
theorem HdOk.good {lo hi:Option (O×Bool)} {il:Option (List O)} (h:HdOk bs ix hd) (h1:∀ e,lo=some e→∃ c,ix.cols[hd.length]?=some c∧Bd.cmp c.1 (endOp false e.2) e.1∈bs) (h2:∀ e,hi=some e→∃ c,ix.cols[hd.length]?=some c∧Bd.cmp c.1 (endOp true e.2) e.1∈bs) (h3:∀ os,il=some os→∃ c,ix.cols[hd.length]?=some c∧Bd.inl c.1 os∈bs):Good bs ⟨.index,some ix,hd.map (·.2.2),lo,hi,il⟩:=by
 have pl:∀ {n:Nat} {c:Int×Bool},ix.cols[n]?=some c→(ix.cols.map (·.1))[n]?=some c.1:=fun e=>by rw [List.getElem?_map,e];rfl
 have e0:(hd.map (·.2.2)).length=hd.length:=List.length_map _
 refine ⟨fun x e=>(by cases e;exact h.ixo),by show (hd.map _).length≤(ix.cols.map _).length;rw [List.length_map,List.length_map];exact h.len,fun i o p ho hp=>?_,fun e he=>?_,fun e he=>?_,fun os he=>?_⟩
 ·have ho:(hd.map (·.2.2))[i]?=some o:=ho
  have hp:(ix.cols.map (·.1))[i]?=some p:=hp
  rw [List.getElem?_map] at ho hp
  obtain ⟨y,hy,rfl⟩:=Option.map_eq_some_iff.mp ho
  obtain ⟨c,hc,rfl⟩:=Option.map_eq_some_iff.mp hp
  exact h.eq i y c hy hc
 ·obtain ⟨c,hc,q⟩:=h1 e he;exact ⟨c.1,pl (e0▸hc),q⟩
 ·obtain ⟨c,hc,q⟩:=h2 e he;exact ⟨c.1,pl (e0▸hc),q⟩
 ·obtain ⟨c,hc,q⟩:=h3 os he;exact ⟨c.1,pl (e0▸hc),q⟩
theorem index_m {p:Int} {c:Int×Bool} {x:Option (List O)} {K:Fl→Fr→Fr→Mem→Prop} (H:HdOk bs ix hd) (hz:hd.length≤900) (hc:ix.cols[hd.length]?=some c) (hp:c.1=p) (hx:∀ os,x=some os→Bd.inl p os∈bs) (hl:∀ p os,Bd.inl p os∈bs→os.length≤1000) (h:IS bs M F ps) (hn:ps.length≤2)
  (hk:∀ M' ps' e,IS bs M' F ps'→ps'.length≤3→K .next ([(38,.t ix.t),(40,.t (.lst (hd.map bT))),(39,.t (.bool false)),(12,.ref F),(34,.t (optT (fun os=>Bd.t (.inl p os)) x))]++e) [] M') :
  sx T (r+4) c_index_paths_m [(38,.t ix.t),(40,.t (.lst (hd.map bT))),(39,.t (.bool false)),(12,.ref F),(34,.t (optT (fun os=>Bd.t (.inl p os)) x))] [] M K:=by
 subst hp
 cases x with
 | none=>exact hk M ps [] h (by lia)
 | some os =>
  refine new_index_ok (r:=r+1) hz fun M1 j1 l1 h1 K1=>?_
  refine put_list_ok h1 fun M2 j2 h2 a2=>?_
  have K2:=K1.away a2
  refine nthK_ok (h.pl.keeps K2).fd ?_
  refine h.push K2 h2 (H.good (fun _ h=>nomatch h) (fun _ h=>nomatch h) fun os e=>by cases e;exact ⟨c,hc,hx os rfl⟩) (fun os e=>by cases e;exact hl _ _ (hx os rfl)) (by lia) fun M3 h3=>?_
  exact hk M3 _ [_] h3 (by rw [List.length_append];simp;lia)
theorem index_d (hp:∀ c∈ix.cols,-1≤c.1) (hb:∀ b∈bs,-1≤b.place) (hc:ix.cols.length≤900) (H:HdOk bs ix hd) (hl:∀ p os,Bd.inl p os∈bs→os.length≤1000) (hI:IS bs M F ps) (hn:ps.length≤1) (h:QK bs P) :
  sx T (r+4) c_index_paths_d [(38,.t ix.t),(22,.t (tabT nm ixs cols)),(23,.t (.lst (bs.map Bd.t))),(39,.t (.bool false)),(40,.t (.lst (hd.map bT))),(12,.ref F)] [] M fun f _ _ mem=>retK (endF false P) f mem:=by
 have hz:hd.length≤900:=Nat.le_trans H.len hc
 have fin:∀ {M:Mem} {ps:List (Nat×Pd)},IS bs M F ps→ps.length≤3→sx T (r+4) (.cons (.shf 12) (.lab c_index_paths_l)) [(38,.t ix.t),(39,.t (.bool false)),(12,.ref F)] [] M fun f _ _ mem=>retK (endF false P) f mem:=fun {M ps} hI hn=>by
  refine nthK_ok hI.pl.fd ?_
  refine setK_ok (get_lt hI.pl.fd) ?_
  refine (?_:Lab _)
  exact ⟨index_l hI.good hI.inl hn (set_1 hI.pl.fd) (fun x hx=>by obtain ⟨j,l,q⟩:=hI.pl.at_ x hx;have:=hI.pl.lt x hx;exact ⟨j,l,(set_n (neF3 this).1).trans q.p,(set_n (neF3 this).2.1).trans q.e,(set_n (neF3 this).2.2).trans q.f⟩) hI.pl.lt hI.pl.ord h⟩
 refine (?_:brK _ _ _)
 refine br (fun e=>?_) fun e=>?_
 ·have e:hd.length<ix.cols.length:=by have e:=of_decide_eq_true e;rw [List.length_map,List.length_map] at e;exact Int.ofNat_lt.mp e
  have hc0:=List.getElem?_eq_getElem e
  generalize ix.cols[hd.length]=c at hc0
  refine nthN_t (g:=colT) (l:=ix.cols) (i:=(hd.map bT).length) (by rw [List.length_map];exact e) (Nat.le_trans hc (by decide)) fun c' hc'=>?_
  rw [List.length_map,hc0] at hc'
  cases hc'
  have hp1:=hp c (List.mem_of_getElem? hc0)
  refine fits_ok (r:=r+2) (c:=c) ?_
  refine first_cmp (r:=r+2) (p:=c.1) (cv:=true) (ops:=[">",">="]) hp1 hb (by decide +kernel) fun lo hlo=>?_
  refine first_cmp (r:=r+2) (p:=c.1) (cv:=true) (ops:=["<","<="]) hp1 hb (by decide +kernel) fun hi hhi=>?_
  refine first_in (r:=r+2) (p:=c.1) (cv:=true) hp1 hb fun x hx=>?_
  have M_:∀ {M:Mem} {ps:List (Nat×Pd)},IS bs M F ps→ps.length≤2→Lab (sx T (r+4) c_index_paths_m [(38,.t ix.t),(40,.t (.lst (hd.map bT))),(39,.t (.bool false)),(12,.ref F),(34,.t (optT (fun os=>Bd.t (.inl c.1 os)) x))] [] M (seqK (sx T (r+4) (.cons (.kp [38,39,12]) (.cons (.shf 12) (.lab c_index_paths_l)))) fun f _ _ mem=>retK (endF false P) f mem)):=fun hI hn =>
   ⟨index_m H hz hc0 rfl hx hl hI hn fun M' ps' e h' hn'=>fin h' hn'⟩
  have key:CALL T (r+4) (.ref 777) [.t ix.t,.t (.lst (hd.map bT)),.t (.bool false)] M fun v mem=>sx T (r+4) (.cons (.ex (.call 744 (.cons (.nm 27) (.cons (.nm 28) (.cons (.nm 29) .nil))))) (.cons (.ex (.app (.nm 12) (.nm 27))) .nil)) [(38,.t ix.t),(40,.t (.lst (hd.map bT))),(39,.t (.bool false)),(12,.ref F),(28,.t (optT bT lo)),(29,.t (optT bT hi)),(34,.t (optT (fun os=>Bd.t (.inl c.1 os)) x)),(27,v)] [] mem (seqK (sx T (r+4) (.cons (.kp [38,40,39,12,34]) (.lab c_index_paths_m))) (seqK (sx T (r+4) (.cons (.kp [38,39,12]) (.cons (.shf 12) (.lab c_index_paths_l)))) fun f _ _ mem=>retK (endF false P) f mem)):=by
   refine new_index_ok (r:=r+1) hz fun M1 j1 l1 h1 K1=>?_
   refine put_range_ok h1 rfl rfl fun M2 j2 h2 a2=>?_
   have K2:=K1.away a2
   refine nthK_ok (hI.pl.keeps K2).fd ?_
   refine hI.push K2 h2 (H.good (fun y hy=>⟨c,hc0,cmp_low hlo hy⟩) (fun y hy=>⟨c,hc0,cmp_high hhi hy⟩) fun os e=>nomatch e) (fun os e=>nomatch e) (Nat.le_trans hn (by decide)) fun M3 h3=>?_
   exact M_ h3 (by rw [List.length_append];exact Nat.succ_le_succ hn)
  cases lo with
  | some b=>exact key
  | none =>
   cases hi with
   | some b=>exact key
   | none=>exact M_ hI (Nat.le_succ_of_le hn)
 ·exact fin hI (Nat.le_trans hn (by decide))
theorem index_f (hp:∀ c∈ix.cols,-1≤c.1) (hb:∀ b∈bs,-1≤b.place) (hc:ix.cols.length≤900) (H:HdOk bs ix hd) (hl:∀ p os,Bd.inl p os∈bs→os.length≤1000) (h:QK bs P) :
  sx T (r+4) c_index_paths_f [(38,.t ix.t),(22,.t (tabT nm ixs cols)),(23,.t (.lst (bs.map Bd.t))),(39,.t (.bool false)),(40,.t (.lst (hd.map bT)))] [] M fun f _ _ mem=>retK (endF false P) f mem:=by
 refine new_index_ok (r:=r+1) (Nat.le_trans H.len hc) fun M1 j1 l1 h1 K1=>?_
 refine snocK_ok ?_
 have ap:∀ {i:Nat} {o:MO},M1[i]?=some o→(M1++[MO.lst [.ref M.length]])[i]?=some o:=fun e=>by rw [List.getElem?_append_left (get_lt e)];exact e
 refine (?_:Lab _)
 refine ⟨index_d (ps:=[(M.length,q0 ix hd)]) hp hb hc H hl ⟨⟨by rw [List.getElem?_append_right (Nat.le_refl _),Nat.sub_self];rfl,fun x hx=>?_,fun x hx=>?_,List.pairwise_singleton _ _⟩,fun x hx=>?_,fun x hx os e=>?_⟩ (Nat.le_refl 1) h⟩
 ·cases List.mem_singleton.mp hx;exact ⟨j1,l1,ap h1.p,ap h1.e,ap h1.f⟩
 ·cases List.mem_singleton.mp hx;exact .inl (get_lt h1.f)
 ·cases List.mem_singleton.mp hx;exact H.good (fun _ h=>nomatch h) (fun _ h=>nomatch h) fun _ h=>nomatch h
 ·cases List.mem_singleton.mp hx;cases e
theorem index_paths_ok (hx:ix.Ok) (hb:∀ b∈bs,-1≤b.place) (hl:∀ p os,Bd.inl p os∈bs→os.length≤1000) (h:QK bs P):FN T (r+5) false 770 [ix.t,tabT nm ixs cols,.lst (bs.map Bd.t),.bool false] P:=by
 have hp:∀ c∈ix.cols,-1≤c.1:=fun c h=>(hx.cols c h).1
 have hc:ix.cols.length≤800:=Nat.le_trans hx.len (by decide)
 refine enterF c_index_paths [true,true,true,true] [38,22,23,39] [] false o_index_paths ?_
 have fin:∀ {hd:List (Int×Op×O)} {e:Fr},HdOk bs ix hd→sx T (r+4) (.cons (.fzv 40) (.cons (.kp [38,22,23,39,40]) (.lab c_index_paths_f))) ([(38,.t ix.t),(22,.t (tabT nm ixs cols)),(23,.t (.lst (bs.map Bd.t))),(39,.t (.bool false)),(40,.ref 0)]++e) [] [.lst ((hd.map bT).map .t)] fun f _ _ mem=>retK (endF false P) f mem:=fun H=>by
  refine fzc_t ?_
  refine resL_t ?_
  refine (?_:Lab _)
  exact ⟨index_f hp hb (Nat.le_trans hc (by decide)) H hl h⟩
 refine forL_ind (σ:=List (Int×Op×O)) (fun c=>.t (colT c)) (fun _=>_) (fun _=>[]) (fun hd=>[.lst ((hd.map bT).map .t)]) (fun l hd=>HdOk bs ix hd∧∃ done,done++l=ix.cols∧hd.length=done.length) (fun hd hI=>?_) (fun c l hd hI R hR=>?_) ix.cols [] mm ⟨⟨hx,Nat.zero_le _,fun _ _ _ h=>nomatch h⟩,[],rfl,rfl⟩
 ·exact fin (e:=[]) hI.1
 ·obtain ⟨H,done,e1,e2⟩:=hI
  have hcm:c∈ix.cols:=by rw [← e1];simp
  have hl1:=congrArg List.length e1
  rw [List.length_append,List.length_cons] at hl1
  refine fits_ok (r:=r+2) (c:=c) ?_
  refine first_cmp (r:=r+2) (p:=c.1) (cv:=true) (ops:=["="]) (hp c hcm) hb (by decide +kernel) fun x hxx=>?_
  cases x with
  | none=>exact fin (e:=[_,_]) H
  | some y =>
   refine (?_:brK _ _ _)
   refine brT' (short2 (Nat.le_trans H.len (Nat.le_trans hc (by decide)))) ?_
   have:=hR (hd++[y]) ⟨⟨hx,by rw [List.length_append,e2,← hl1];exact Nat.add_le_add_left (Nat.le_add_left 1 _) _,fun i z c' hz hc'=>?_⟩,done++[c],by rw [← e1,List.append_assoc];rfl,by simp [e2]⟩
   ·rw [mapA] at this;exact this
   ·rw [← e1] at hc'
    by_cases hi:i<hd.length
    ·rw [List.getElem?_append_left hi] at hz
     rw [List.getElem?_append_left (e2▸hi)] at hc'
     exact H.eq i z c' hz (by rw [← e1,List.getElem?_append_left (e2▸hi)];exact hc')
    ·have hi2:=get_lt hz
     rw [List.length_append,List.length_singleton] at hi2
     have hi3:i=hd.length:=Nat.le_antisymm (Nat.le_of_lt_succ hi2) (Nat.not_lt.mp hi)
     subst hi3
     rw [List.getElem?_append_right (Nat.le_refl _),Nat.sub_self] at hz
     rw [e2,List.getElem?_append_right (Nat.le_refl _),Nat.sub_self] at hc'
     cases hz;cases hc'
     obtain ⟨_,h2,h3⟩:=hxx _ rfl
     rw [eq_op h3] at h2;exact h2
end
structure Lv where
 s:Sc
 q:Pd×Jk
 here:List Cd
 left:Bool
 on:List Cd
noncomputable abbrev csT (l:List Cd):TV:=.lst (l.map Cd.t)
noncomputable def Lv.t (l:Lv):TV:=.obj 867 [43,27,53,107,60] [l.s.t,pathT l.q,csT l.here,.bool l.left,csT l.on]
noncomputable def planT (lv:List Lv) (b:List Cd) (c:Int):TV:=.obj 893 [54,108,109,35] [.lst (lv.map Lv.t),.bool true,csT b,.int c]
noncomputable def onGet (ons:List (Nat×List Tm)) (n:Nat):List Tm:=match ons.find? (fun q=>decide ((q.1:Int)=(n:Int))) with | some q=>q.2 | none=>[]
section
variable {T:Top} {r n:Nat} {P:TV→Prop} {q:Pd} {j:Jk} {ss:List Sc} {qs:List (Pd×Jk)} {ons:List (Nat×List Tm)} {ts:List Tm}
noncomputable def c_Path_turned:CS:=(.cons (.as (.nm 12) (.call 712 (.cons (.att (.nm 76) 58) (.cons (.att (.nm 76) 38) .nil)))) (.cons (.unt false (.cons (.att (.nm 12) 33) (.cons (.att (.nm 12) 97) .nil)) (.cons (.att (.nm 76) 33) (.cons (.att (.nm 76) 97) .nil))) (.cons (.unt false (.cons (.att (.nm 12) 28) (.cons (.att (.nm 12) 98) .nil)) (.cons (.att (.nm 76) 28) (.cons (.att (.nm 76) 98) .nil))) (.cons (.unt false (.cons (.att (.nm 12) 29) (.cons (.att (.nm 12) 99) .nil)) (.cons (.att (.nm 76) 29) (.cons (.att (.nm 76) 99) .nil))) (.cons (.unt false (.cons (.att (.nm 12) 100) (.cons (.att (.nm 12) 101) .nil)) (.cons (.att (.nm 76) 100) (.cons (.att (.nm 76) 101) .nil))) (.cons (.unt false (.cons (.att (.nm 12) 42) (.cons (.att (.nm 12) 31) .nil)) (.cons (.att (.nm 76) 42) (.cons (.att (.nm 76) 31) .nil))) (.cons (.unt false (.cons (.att (.nm 12) 32) (.cons (.att (.nm 12) 35) .nil)) (.cons (.att (.nm 76) 32) (.cons (.att (.nm 76) 35) .nil))) (.cons (.as (.att (.nm 12) 102) (.nm 102)) (.cons (.ret (.nm 12)) .nil)))))))))
theorem o_Path_turned:okDf false 702 [true,true] [76,102] [] c_Path_turned=true:=by decide +kernel
theorem turned_ok {d:TV} (h:∀ j',P (pathT (q,j'))):FN T (r+3) false 702 [pathT (q,j),d] P:=by
 refine enterF c_Path_turned [true,true] [76,102] [] false o_Path_turned ?_
 refine maker 688 c_Path_mk [true,true,true] [76,58,38] [] false (by decide +kernel) o_Path_mk ?_
 refine (?_:IntMulOk 1000 2∧_)
 refine ⟨mulSmall (.inl (by decide)),?_⟩
 refine (?_:P _)
 exact h ⟨j.a,j.b,j.c,j.d,j.cov,d,j.sg,j.rows,j.cost⟩
noncomputable def c_OrderWalk_mk:CS:=(.cons (.as (.att (.nm 76) 9) (.comp (.tup (.cons (.att (.nm 20) 17) (.cons (.o1 .bool (.att (.nm 20) 102)) .nil))) [20] true false (.nm 46) (.tt))) .nil)
theorem o_OrderWalk_mk:okDf false 815 [true,true] [76,46] [] c_OrderWalk_mk=true:=by decide +kernel
noncomputable def c_turns_of:CS:=(.cons (.as (.nm 47) (.call 825 (.cons (.nm 46) .nil))) (.cons (.fzv 47) (.cons (.as (.nm 12) (.o2 .mulL (.lstF (.cons (.k (.bool false)) .nil)) (.o1 .len (.nm 45)))) (.cons (.for_ 0 [48] true true (.o1 .len (.nm 45)) (.cons (.ifs (.te (.o1 .enil (.att (.nm 47) 9))) (.cons (.brk) .nil) .nil) (.cons (.stop) (.cons (.as (.sub (.nm 12) (.nm 48)) (.nm 135)) (.cons (.ifs (.tnot (.te (.nm 136))) (.cons (.brk) .nil) .nil) .nil))))) (.cons (.ret (.ife (.te (.o1 .enil (.att (.nm 47) 9))) (.nm 12) (.k .none))) .nil)))))
theorem o_turns_of:okDf false 843 [true,true,true] [14,45,46] [] c_turns_of=true:=by decide +kernel
theorem turns_ok {x:TV} (hz:qs.length≤100) (h:P (.lst (List.replicate qs.length (.bool false)))):FN T (r+3) false 843 [x,.lst (qs.map pathT),.lst []] P:=by
 refine enterF c_turns_of [true,true,true] [14,45,46] [] false o_turns_of ?_
 refine maker 815 c_OrderWalk_mk [true,true] [76,46] [] false (by decide +kernel) o_OrderWalk_mk ?_
 refine (?_:((0:Int)≤_∧_≤(100:Int)∧_)∧_)
 have hl:(qs.map pathT).length=qs.length:=List.length_map _
 refine ⟨⟨nC _,by show ((qs.map pathT).length:Int)≤100;rw [hl];exact nLe (c:=100) hz,by decide⟩,?_⟩
 refine (?_:((0:Int)≤_∧_≤(1000:Int))∧_)
 refine ⟨⟨nC _,by show ((qs.map pathT).length:Int)≤1000;rw [hl];exact nLe (c:=1000) (Nat.le_trans hz (by decide))⟩,?_⟩
 have fin:P (.lst (List.replicate ((qs.map pathT).length:Int).toNat [TV.bool false]).flatten):=by
  have:∀ n:Nat,(List.replicate n [TV.bool false]).flatten=List.replicate n (.bool false):=fun n=>by
   induction n with
   | zero=>rfl
   | succ n ih=>rw [List.replicate_succ,List.flatten_cons,ih];rfl
  rw [this,Int.toNat_natCast,hl];exact h
 generalize ((qs.map pathT).length:Int).toNat=n at fin ⊢
 refine forR_ind (σ:=Unit) (fun _=>_) (fun _=>[]) (fun _=>_) (fun _ _=>True) (fun _ _=>?_) (fun i _ hi _ R hR=>?_) () trivial
 ·exact fin
 ·exact fin
noncomputable def c_cost_of:CS:=(.cons (.unt false (.cons (.nm 35) (.cons (.nm 32) .nil)) (.cons (.k (.int 0)) (.cons (.k (.int 1)) .nil))) (.cons (.for_ 0 [27] true false (.nm 45) (.cons (.as (.nm 35) (.o2 .add (.nm 35) (.o2 .mul (.nm 32) (.att (.nm 27) 35)))) (.cons (.as (.nm 32) (.o2 .min (.o2 .mul (.nm 32) (.att (.nm 27) 32)) (.k (.int 1000000000000)))) (.cons (.kp [45,49,35,32]) .nil)))) (.cons (.ret (.o2 .add (.nm 35) (.ife (.te (.nm 49)) (.o2 .mul (.nm 32) (.k (.int 4))) (.k (.int 0))))) .nil)))
theorem o_cost_of:okDf false 940 [true,true] [45,49] [] c_cost_of=true:=by decide +kernel
theorem cost_ok (hr:∀ q∈qs,0≤q.2.rows) (h:∀ c,P (.int c)):FN T (r+1) false 940 [.lst (qs.map pathT),.bool false] P:=by
 refine enterF c_cost_of [true,true] [45,49] [] false o_cost_of ?_
 refine forL_ind (σ:=Int×Int) (fun q=>.t (pathT q)) (fun s=>[(45,.t (.lst (qs.map pathT))),(49,.t (.bool false)),(35,.t (.int s.1)),(32,.t (.int s.2))]) (fun _=>[]) (fun _=>[]) (fun l s=>(∀ q∈l,0≤q.2.rows)∧0≤s.2∧s.2≤1000000000000) (fun s _=>h _) (fun q l s hI R hR=>?_) qs (0,1) mm ⟨hr,by decide,by decide⟩
 obtain ⟨h1,h2,h3⟩:=hI
 refine (?_:_∧_)
 refine ⟨mulSmall (.inl (abs64 (c:=1000000000001) h2 (Int.lt_of_le_of_lt h3 (by decide)) (by decide))),?_⟩
 refine (?_:_∧_)
 refine ⟨mulSmall (.inl (abs64 (c:=1000000000001) h2 (Int.lt_of_le_of_lt h3 (by decide)) (by decide))),?_⟩
 exact hR (s.1+s.2 * q.2.cost,if (1000000000000:Int)<s.2 * q.2.rows then 1000000000000 else s.2 * q.2.rows) ⟨fun q hq=>h1 q (.tail _ hq),by have:=Int.mul_nonneg h2 (h1 q (.head _));dsimp only;split<;>lia,by dsimp only;split<;>lia⟩
noncomputable def c_Level_mk:CS:=(.cons (.as (.att (.nm 76) 43) (.nm 43)) (.cons (.as (.att (.nm 76) 27) (.nm 27)) (.cons (.as (.att (.nm 76) 53) (.nm 53)) (.cons (.as (.att (.nm 76) 107) (.nm 107)) (.cons (.as (.att (.nm 76) 60) (.nm 60)) .nil)))))
theorem o_Level_mk:okDf false 857 [true,true,true,true,true,true] [76,43,27,53,107,60] [] c_Level_mk=true:=by decide +kernel
theorem level_ok {l:Lv} (h:P l.t):FN T (r+2) false 867 [l.s.t,pathT l.q,csT l.here,.bool l.left,csT l.on] P:=makerF 857 c_Level_mk [true,true,true,true,true,true] [76,43,27,53,107,60] [] false (by decide +kernel) o_Level_mk h
noncomputable def c_Plan_mk:CS:=(.cons (.as (.att (.nm 76) 54) (.nm 54)) (.cons (.as (.att (.nm 76) 108) (.nm 108)) (.cons (.as (.att (.nm 76) 109) (.nm 109)) (.cons (.as (.att (.nm 76) 35) (.nm 35)) .nil))))
theorem o_Plan_mk:okDf false 885 [true,true,true,true,true] [76,54,108,109,35] [] c_Plan_mk=true:=by decide +kernel
theorem plan_ok {lv:List Lv} {b:List Cd} {c:Int} (h:P (planT lv b c)):FN T (r+2) false 893 [.lst (lv.map Lv.t),.bool true,csT b,.int c] P:=makerF 885 c_Plan_mk [true,true,true,true,true] [76,54,108,109,35] [] false (by decide +kernel) o_Plan_mk h
noncomputable def leftB (ons:List (Nat×List Tm)) (n:Nat):Bool:=(ons.map fun q=>(q.1:Int)).any (·==(n:Int))
structure LvOk (ss:List Sc) (qs:List (Pd×Jk)) (ons:List (Nat×List Tm)) (ts:List Tm) (i:Nat) (l:Lv):Prop where
 s:ss[i]?=some l.s
 q:∃ q,qs[i]?=some q∧q.1=l.q.1
 here:l.here=(levelTs ts (ss.map fun s=>(s.n:Int)) i).map (·.c)
 left:l.left=leftB ons l.s.n
 on:l.on=(onGet ons l.s.n).map (·.c)
noncomputable def c_make_plan_h:CS:=(.cons (.as (.nm 111) (.comp (.att (.nm 20) 11) [20] true false (.sub (.nm 53) (.nm 48)) (.tt))) (.cons (.ex (.app (.nm 54) (.fcall false 867 (.cons (.sub (.nm 14) (.nm 48)) (.cons (.nm 27) (.cons (.nm 111) (.cons (.o2 .inD (.nm 15) (.att (.nm 50) 60)) (.cons (.nm 60) .nil)))))))) (.cons (.kp [50,14,45,46,51,52,53,54]) .nil)))
noncomputable def c_make_plan:CS:=(.cons (.as (.nm 51) (.fcall false 843 (.cons (.nm 14) (.cons (.nm 45) (.cons (.nm 46) .nil))))) (.cons (.as (.nm 52) (.comp (.att (.nm 43) 15) [43] true false (.nm 14) (.tt))) (.cons (.as (.nm 53) (.fmeth (.nm 50) 110 (.cons (.nm 52) .nil))) (.cons (.as (.nm 54) (.list .nil)) (.cons (.for_ 0 [48] true true (.o1 .len (.nm 14)) (.cons (.as (.nm 15) (.sub (.nm 52) (.nm 48))) (.cons (.as (.nm 27) (.fmeth (.sub (.nm 45) (.nm 48)) 138 (.cons (.and (.o1 .isNN (.nm 51)) (.sub (.nm 51) (.nm 48))) .nil))) (.cons (.as (.nm 60) (.comp (.att (.nm 20) 11) [20] true false (.dget (.att (.nm 50) 60) (.nm 15)) (.tt))) (.lab c_make_plan_h))))) (.cons (.fzv 54) (.cons (.as (.nm 35) (.fcall false 940 (.cons (.nm 45) (.cons (.and (.o1 .nnil (.nm 46)) (.o1 .isN (.nm 51))) .nil)))) (.cons (.ret (.fcall false 893 (.cons (.nm 54) (.cons (.o1 .isNN (.nm 51)) (.cons (.fmeth (.nm 50) 109 .nil) (.cons (.nm 35) .nil)))))) .nil))))))))
theorem o_make_plan:okDf false 945 [true,true,true,true] [50,14,45,46] [] c_make_plan=true:=by decide +kernel
theorem e2 {l:List Tm}:l.map (fun m=>m.c.t)=(l.map (·.c)).map Cd.t:=by rw [List.map_map];rfl
theorem plan_h {x45 x46 x51 x52:TV} {i:Nat} {os:List Int} {lv:List Lv} {s:Sc} {q:Pd×Jk} {on:List Cd} {K:Fl→Fr→Fr→Mem→Prop} (hz0:lv.length≤900) (hi:i<ss.length) (hz:ss.length≤10) (hs:ss[i]?=some s) (ho:os.length=ss.length)
  (hk:K .next [(50,.t (condsT ons ts)),(14,.t (.lst (ss.map Sc.t))),(45,.t x45),(46,.t x46),(51,.t x51),(52,.t x52),(53,.t (.lst ((List.range os.length).map fun i=>tmsT (levelTs ts os i)))),(54,.ref 0)] [] [.lst (((lv++[(⟨s,q,(levelTs ts os i).map (·.c),leftB ons s.n,on⟩:Lv)]).map Lv.t).map .t)]) :
  Lab (sx T (r+3) c_make_plan_h [(50,.t (condsT ons ts)),(14,.t (.lst (ss.map Sc.t))),(45,.t x45),(46,.t x46),(51,.t x51),(52,.t x52),(53,.t (.lst ((List.range os.length).map fun i=>tmsT (levelTs ts os i)))),(54,.ref 0),(48,.t (.int i)),(15,.t (.int s.n)),(27,.t (pathT q)),(60,.t (csT on))] [] [.lst ((lv.map Lv.t).map .t)] K):=by
 refine ⟨?_⟩
 refine nthN_t (g:=fun i=>tmsT (levelTs ts os i)) (l:=List.range os.length) (i:=i) (by rw [List.length_range,ho];exact hi) (by rw [List.length_range,ho];exact Nat.le_trans hz (by decide)) fun a ha=>?_
 rw [List.getElem?_range (ho▸hi)] at ha;cases ha
 refine compL_one Tm.t (fun m=>m.c.t) (fun m _ R hR=>hR) ?_
 rw [e2]
 refine nthN_t (g:=Sc.t) (l:=ss) (i:=i) hi (Nat.le_trans hz (by decide)) fun a ha=>?_
 rw [hs] at ha;cases ha
 refine level_ok (r:=r+1) (l:=⟨s,q,(levelTs ts os i).map (·.c),(ons.map fun q=>(q.1:Int)).any (·==(s.n:Int)),on⟩) ?_
 refine (?_:brK _ _ _)
 refine brT' (short_ok (by simp;lia)) ?_
 rw [mapA] at hk
 exact hk
theorem make_plan_ok (hz:ss.length≤10) (hq:qs.length=ss.length) (hr:∀ q∈qs,0≤q.2.rows) (h:∀ lv c,lv.length=ss.length→(∀ i l,lv[i]?=some l→LvOk ss qs ons ts i l)→P (planT lv ((ts.filter Tm.const).map (·.c)) c)):FN T (r+4) false 945 [condsT ons ts,.lst (ss.map Sc.t),.lst (qs.map pathT),.lst []] P:=by
 refine enterF c_make_plan [true,true,true,true] [50,14,45,46] [] false o_make_plan ?_
 refine turns_ok (r:=r) (Nat.le_trans (Nat.le_of_eq hq) (Nat.le_trans hz (by decide))) ?_
 refine compL_one Sc.t (fun s=>.int s.n) (fun s _ R hR=>hR) ?_
 have eo:ss.map (fun s=>TV.int s.n)=(ss.map fun s=>(s.n:Int)).map .int:=by rw [List.map_map];rfl
 rw [eo]
 refine by_level_ok (r:=r+1) (by rw [List.length_map];exact hz) ?_
 refine (?_:((0:Int)≤_∧_≤(1000:Int))∧_)
 have hl:(ss.map Sc.t).length=ss.length:=List.length_map _
 refine ⟨⟨nC _,by show ((ss.map Sc.t).length:Int)≤1000;rw [hl];exact nLe (c:=1000) (Nat.le_trans hz (by decide))⟩,?_⟩
 refine forR_ind (σ:=List Lv) (fun lv=>_) (fun _=>[]) (fun lv=>[.lst ((lv.map Lv.t).map .t)]) (fun i lv=>lv.length=i∧∀ i l,lv[i]?=some l→LvOk ss qs ons ts i l) (fun lv hI=>?_) (fun i lv hi hI R hR=>?_) [] ⟨rfl,fun _ _ h=>nomatch h⟩
 ·obtain ⟨h1,h2⟩:=hI
  refine fzc_t ?_
  refine resL_t ?_
  refine cost_ok (r:=r+2) hr fun c=>?_
  refine before_ok (r:=r+1) ?_
  have:=h lv c (by rw [h1,Int.toNat_natCast,hl]) h2
  rw [e2]
  exact plan_ok (r:=r+1) this
 ·obtain ⟨h1,h2⟩:=hI
  rw [Int.toNat_natCast,hl] at hi
  subst h1
  have hs:=List.getElem?_eq_getElem hi
  generalize ss[lv.length]=s at hs
  have hqi:=List.getElem?_eq_getElem (hq▸hi:lv.length<qs.length)
  generalize qs[lv.length]=q at hqi
  refine nthN_t (g:=TV.int) (l:=ss.map fun s=>(s.n:Int)) (i:=lv.length) (by rw [List.length_map];exact hi) (by rw [List.length_map];exact Nat.le_trans hz (by decide)) fun a ha=>?_
  rw [List.getElem?_map,hs] at ha;cases ha
  refine nthN_t (g:=pathT) (l:=qs) (i:=lv.length) (Nat.lt_of_lt_of_eq hi hq.symm) (Nat.le_trans (Nat.le_of_eq hq) (Nat.le_trans hz (by decide))) fun a ha=>?_
  rw [hqi] at ha;cases ha
  refine (?_:nthI ((List.replicate qs.length (TV.bool false)).map .t) (lv.length:Int) _)
  refine nthI_ok (nC _) (by rw [List.length_map,List.length_replicate];exact nLt (Nat.lt_of_lt_of_eq hi hq.symm)) (by rw [List.length_map,List.length_replicate];exact Nat.le_trans (Nat.le_of_eq hq) (Nat.le_trans hz (by decide))) fun a ha=>?_
  rw [List.getElem?_map] at ha
  obtain ⟨b,_,rfl⟩:=Option.map_eq_some_iff.mp ha
  obtain ⟨q,j⟩:=q
  refine turned_ok (r:=r) fun j'=>?_
  have this:=hR (lv++[⟨s,(q,j'),(levelTs ts (ss.map fun s=>(s.n:Int)) lv.length).map (·.c),leftB ons s.n,(onGet ons s.n).map (·.c)⟩]) ⟨by rw [List.length_append];rfl,fun i l hl=>by
   by_cases hi2:i<lv.length
   ·rw [List.getElem?_append_left hi2] at hl;exact h2 i l hl
   ·have hi3:=get_lt hl
    rw [List.length_append,List.length_singleton] at hi3
    have hi4:i=lv.length:=Nat.le_antisymm (Nat.le_of_lt_succ hi3) (Nat.not_lt.mp hi2)
    subst hi4
    rw [List.getElem?_append_right (Nat.le_refl _),Nat.sub_self] at hl
    cases hl
    exact ⟨hs,⟨_,hqi,rfl⟩,rfl,rfl,rfl⟩⟩
  refine dget_ok (f:=fun q:Nat×List Tm=>(q.1:Int)) (g:=fun q=>tmsT q.2) ?_
  cases e:ons.find? (fun q=>decide ((q.1:Int)=(s.n:Int))) with
  | none =>
   rw [show onGet ons s.n=[] by delta onGet;rw [e]] at this
   exact plan_h (on:=[]) (Nat.le_trans (Nat.le_of_lt hi) (Nat.le_trans hz (by decide))) hi hz hs (List.length_map _) this
  | some x =>
   rw [show onGet ons s.n=x.2 by delta onGet;rw [e]] at this
   refine compL_one Tm.t (fun m=>m.c.t) (fun m _ R hR=>hR) ?_
   rw [e2]
   exact plan_h (Nat.le_trans (Nat.le_of_lt hi) (Nat.le_trans hz (by decide))) hi hz hs (List.length_map _) this
end
noncomputable def V.row:V→TV
 | .nul=>.tup [.str "literal",.str "null",.none]
 | .int i=>.tup [.str "literal",.str "integer",.int i]
 | .txt=>.tup [.str "literal",.str "text",.str "t"]
noncomputable def O.row:O→TV
 | .lit x=>x.row
 | .name n p=>.tup [.str "name",.str (als n),.str (coln p)]
noncomputable def cmpR (op:Op) (a b:O):TV:=.tup [.str "binary",.str op.str,a.row,b.row]
noncomputable def Cd.row:Cd→TV
 | .cmp op a b=>cmpR op a b
 | .bet a lo hi=>.tup [.str "between",a.row,lo.row,hi.row,.bool false]
 | .inl a xs=>.tup [.str "in",a.row,.tup (xs.map O.row),.bool false]
 | .or op a b op' a' b'=>.tup [.str "binary",.str "or",cmpR op a b,cmpR op' a' b']
section
variable {T:Top} {r:Nat} {P:TV→Prop}
noncomputable def rwK (T:Top) (r:Nat) (x:TV) (K:TV→Prop):Prop:=treesK [.t x] fun ss=>match ss with
 | [.obj C xs l]=>methK C 71 (fun f=>treesK [] fun ts=>FN T r false f (.obj C xs l::ts) K) mtab
 | _=>False
noncomputable def RowP (T:Top) (r:Nat) (x x':TV):Prop:=∀ K:TV→Prop,K x'→rwK T r x K
noncomputable def c_Literal_row:CS:=(.cons (.ifs (.te (.o1 .isN (.att (.nm 76) 17))) (.cons (.ret (.tup (.cons (.k (.str "literal")) (.cons (.k (.str "null")) (.cons (.k .none) .nil))))) .nil) .nil) (.cons (.ifs (.te (.o1 .isInt (.att (.nm 76) 17))) (.cons (.ret (.tup (.cons (.k (.str "literal")) (.cons (.k (.str "integer")) (.cons (.att (.nm 76) 17) .nil))))) .nil) .nil) (.cons (.ret (.tup (.cons (.k (.str "literal")) (.cons (.ife (.te (.o1 .isStr (.att (.nm 76) 17))) (.k (.str "text")) (.k (.str "blob"))) (.cons (.att (.nm 76) 17) .nil))))) .nil)))
theorem o_Literal_row:okDf false 87 [true] [76] [] c_Literal_row=true:=by decide +kernel
theorem lit_row {x:V} (h:P x.row):FN T (r+1) false 87 [.obj 90 [17] [x.t]] P:=by
 refine enterF c_Literal_row [true] [76] [] false o_Literal_row ?_
 cases x<;>exact h
noncomputable def c_Name_row:CS:=(.cons (.ret (.tup (.cons (.k (.str "name")) (.cons (.att (.nm 76) 22) (.cons (.att (.nm 76) 37) .nil))))) .nil)
theorem o_Name_row:okDf false 113 [true] [76] [] c_Name_row=true:=by decide +kernel
theorem name_row {n:Nat} {p:Int} (h:P (O.name n p).row):FN T (r+1) false 113 [(O.name n p).t] P:=enterF c_Name_row [true] [76] [] false o_Name_row h
theorem row_O {o:O}:RowP T (r+1) o.t o.row:=fun K h=>by
 cases o with
 | lit x=>exact lit_row h
 | name n p=>exact name_row h
noncomputable def c_Binary_row:CS:=(.cons (.ret (.tup (.cons (.k (.str "binary")) (.cons (.att (.nm 76) 16) (.cons (.fmeth (.att (.nm 76) 9) 71 .nil) (.cons (.fmeth (.att (.nm 76) 10) 71 .nil) .nil)))))) .nil)
theorem o_Binary_row:okDf false 165 [true] [76] [] c_Binary_row=true:=by decide +kernel
theorem bin_row {s:Str} {x y x' y':TV} (hx:RowP T r x x') (hy:RowP T r y y'):RowP T (r+1) (.obj 168 [16,9,10] [.str s,x,y]) (.tup [.str "binary",.str s,x',y']):=fun K h=>by
 refine (?_:FN T (r+1) false 165 [.obj 168 [16,9,10] [.str s,x,y]] _)
 refine enterF c_Binary_row [true] [76] [] false o_Binary_row ?_
 refine hx _ ?_
 refine hy _ ?_
 exact h
noncomputable def c_Between_row:CS:=(.cons (.ret (.tup (.cons (.k (.str "between")) (.cons (.fmeth (.att (.nm 76) 17) 71 .nil) (.cons (.fmeth (.att (.nm 76) 28) 71 .nil) (.cons (.fmeth (.att (.nm 76) 29) 71 .nil) (.cons (.att (.nm 76) 78) .nil))))))) .nil)
theorem o_Between_row:okDf false 191 [true] [76] [] c_Between_row=true:=by decide +kernel
noncomputable def c_row_of:CS:=(.cons (.ret (.ife (.te (.o1 .isN (.nm 1))) (.k .none) (.fmeth (.nm 1) 71 .nil))) .nil)
theorem o_row_of:okDf false 28 [true] [1] [] c_row_of=true:=by decide +kernel
noncomputable def c_rows_of:CS:=(.cons (.ret (.o1 .tuple (.comp (.fcall false 28 (.cons (.nm 1) .nil)) [1] true false (.nm 2) (.tt)))) .nil)
theorem o_rows_of:okDf false 33 [true] [2] [] c_rows_of=true:=by decide +kernel
noncomputable def c_InList_row:CS:=(.cons (.ret (.tup (.cons (.k (.str "in")) (.cons (.fmeth (.att (.nm 76) 17) 71 .nil) (.cons (.fcall false 33 (.cons (.att (.nm 76) 19) .nil)) (.cons (.att (.nm 76) 78) .nil)))))) .nil)
theorem o_InList_row:okDf false 217 [true] [76] [] c_InList_row=true:=by decide +kernel
theorem row_C {c:Cd}:RowP T (r+4) c.t c.row:=by
 cases c with
 | cmp op a b=>exact bin_row (r:=r+3) row_O row_O
 | or op a b op' a' b'=>exact bin_row (r:=r+3) (bin_row (r:=r+2) row_O row_O) (bin_row (r:=r+2) row_O row_O)
 | bet a lo hi =>
  intro K h
  refine (?_:FN T (r+4) false 191 [_] _)
  refine enterF c_Between_row [true] [76] [] false o_Between_row ?_
  refine row_O (r:=r+2) _ ?_
  refine row_O (r:=r+2) _ ?_
  refine row_O (r:=r+2) _ ?_
  exact h
 | inl a xs =>
  intro K h
  refine (?_:FN T (r+4) false 217 [_] _)
  refine enterF c_InList_row [true] [76] [] false o_InList_row ?_
  refine row_O (r:=r+2) _ ?_
  refine (?_:FN T (r+3) false 33 [.lst (xs.map O.t)] _)
  refine enterF c_rows_of [true] [2] [] false o_rows_of ?_
  refine compL_one O.t O.row (fun o _ R hR=>?_) ?_
  ·refine (?_:FN T (r+2) false 28 [o.t] _)
   refine enterF c_row_of [true] [1] [] false o_row_of ?_
   have nv:nvB o.t=true∧isNB o.t=false:=by cases o<;>exact ⟨rfl,rfl⟩
   refine (?_:brK _ _ _);refine brT' nv.1 ?_
   refine (?_:brK _ _ _);refine brF nv.2 ?_
   refine row_O (r:=r) _ ?_
   cases o with
   | lit x=>cases x<;>exact hR
   | name n p=>exact hR
  ·exact h
end
noncomputable abbrev Tl:=Cd×List Int
noncomputable def tlT (x:Tl):TV:=.tup [x.1.t,.lst (x.2.map .int)]
noncomputable def due (n:Nat) (os:List Int) (x:Tl):Bool:=x.2.any (·==(n:Int))&&x.2.all fun y=>os.any (·==y)
theorem O.rowB {o:O} {n:Nat}:Ev.rowB (n+1) o.row=true:=by
 cases o with
 | lit x=>cases x<;>cases n<;>rfl
 | name m p=>cases n<;>rfl
theorem cmpR_B {op:Op} {a b:O} {n:Nat}:Ev.rowB (n+2) (cmpR op a b)=true:=by
 have p:∀ s:Str,Ev.rowB (n+1) (.str s)=true:=fun _=>rfl
 show (Ev.rowB (n+1) (.str "binary")&&(Ev.rowB (n+1) (.str op.str)&&(Ev.rowB (n+1) a.row&&(Ev.rowB (n+1) b.row&&true))))=true
 rw [O.rowB,O.rowB,p,p];rfl
theorem Cd.rowB {c:Cd}:Ev.rowB 4 c.row=true:=by
 cases c with
 | cmp op a b=>exact cmpR_B
 | bet a b c =>
  show (true&&(Ev.rowB 3 a.row&&(Ev.rowB 3 b.row&&(Ev.rowB 3 c.row&&true))))=true
  rw [O.rowB,O.rowB,O.rowB];rfl
 | inl a xs =>
  show (true&&(Ev.rowB 3 a.row&&((xs.map O.row).all (Ev.rowB 2)&&true)))=true
  have:(xs.map O.row).all (Ev.rowB 2)=true:=List.all_eq_true.mpr fun o h=>by obtain ⟨x,_,rfl⟩:=List.mem_map.mp h;exact O.rowB
  rw [O.rowB,this];rfl
 | or op a b op' a' b' =>
  show (true&&(true&&(Ev.rowB 3 (cmpR op a b)&&(Ev.rowB 3 (cmpR op' a' b')&&true))))=true
  rw [cmpR_B,cmpR_B];rfl
section
variable {T:Top} {r:Nat} {P:TV→Prop} {lv:List Lv} {bf:List Cd} {ss:List Sc} {tl:List Tl} {c:Int}
theorem neL_ok {l l':List Cd} (e:l=l'):l.map Cd.row=l'.map Cd.row∧∀ t∈l.map Cd.row,rowB 4 t=true :=
 ⟨e▸rfl,fun t ht=>by obtain ⟨c,_,rfl⟩:=List.mem_map.mp ht;exact Cd.rowB⟩
structure StandOk (lv:List Lv) (bf:List Cd) (ss:List Sc) (tl:List Tl):Prop where
 bf:bf=(tl.filter (·.2.isEmpty)).map (·.1)
 len:lv.length=ss.length
 here:∀ (i:Nat) l s,lv[i]?=some l→ss[i]?=some s→l.here=(tl.filter (due s.n ((ss.take (i+1)).map fun s=>(s.n:Int)))).map (·.1)
 left:∀ (i:Nat) l s,lv[i]?=some l→ss[i]?=some s→s.left=true→∃ c,s.on=some c∧l.on=[c]∧l.left=true
 inner:∀ (i:Nat) l s,lv[i]?=some l→ss[i]?=some s→s.left=false→l.on=[]∧l.left=false
noncomputable def c_l_stand_right_o:CS:=(.cons (.as (.nm 60) (.ife (.te (.o2 .eqS (.att (.sub (.nm 52) (.nm 48)) 58) (.k (.str "left")))) (.lstF (.cons (.fmeth (.att (.sub (.nm 52) (.nm 48)) 60) 71 .nil) .nil)) (.lstF .nil))) (.cons (.ifs (.tor (.te (.o2 .neL (.comp (.fmeth (.nm 11) 71 .nil) [11] true false (.att (.nm 129) 60) (.tt)) (.nm 60))) (.tor (.te (.o2 .neB (.att (.nm 129) 107) (.o1 .nnil (.nm 60)))) .ff)) (.cons (.ret (.k (.bool false))) .nil) .nil) (.cons (.kp [73,52,74]) (.cons (.kc []) .nil))))
noncomputable def c_l_stand_right_d:CS:=(.cons (.ifs (.te (.o2 .neL (.comp (.fmeth (.nm 11) 71 .nil) [11] true false (.att (.nm 129) 53) (.tt)) (.nm 128))) (.cons (.ret (.k (.bool false))) .nil) .nil) (.lab c_l_stand_right_o))
noncomputable def c_l_stand_right:CS:=(.cons (.ifs (.te (.o2 .neL (.comp (.fmeth (.nm 11) 71 .nil) [11] true false (.att (.nm 73) 109) (.tt)) (.comp (.fmeth (.nm 11) 71 .nil) [11,92] false false (.nm 74) (.te (.o1 .enil (.nm 92)))))) (.cons (.ret (.k (.bool false))) .nil) .nil) (.cons (.for_ 0 [48] true true (.o1 .len (.nm 52)) (.cons (.unt false (.cons (.nm 129) (.cons (.nc 111) .nil)) (.cons (.sub (.att (.nm 73) 54) (.nm 48)) (.cons (.comp (.att (.nm 69) 15) [69] true false (.o2 .upto (.nm 52) (.o2 .add (.nm 48) (.k (.int 1)))) (.tt)) .nil))) (.cons (.as (.nm 128) (.list .nil)) (.cons (.for_ 0 [11,92] false false (.nm 74) (.cons (.ifs (.tand (.te (.o2 .inI (.att (.sub (.nm 52) (.nm 48)) 15) (.nm 92))) (.tand (.te (.o1 .all (.comp (.o2 .inI (.nm 15) (.nc 111)) [15] true false (.nm 92) (.tt)))) .tt)) (.cons (.ex (.app (.nm 128) (.fmeth (.nm 11) 71 .nil))) .nil) .nil) (.cons (.kp [73,52,74,48,129,128]) .nil))) (.lab c_l_stand_right_d))))) (.cons (.ret (.k (.bool true))) .nil)))
theorem o_l_stand_right:okDf false 1200 [true,true,true] [73,52,74] [111] c_l_stand_right=true:=by decide +kernel
theorem stand_o {x73 x74:TV} {v128:AV} {i:Nat} {l:Lv} {s:Sc} {M:Mem} {cl:Fr} {K:Fl→Fr→Fr→Mem→Prop} (hi:i<ss.length) (hz:ss.length≤10) (hs:ss[i]?=some s) (h1:s.left=true→∃ c,s.on=some c∧l.on=[c]∧l.left=true) (h2:s.left=false→l.on=[]∧l.left=false) (hk:K .next [(73,.t x73),(52,.t (.lst (ss.map Sc.t))),(74,.t x74)] [] M) :
  sx T (r+5) c_l_stand_right_o [(73,.t x73),(52,.t (.lst (ss.map Sc.t))),(74,.t x74),(48,.t (.int i)),(129,.t l.t),(128,v128)] cl M K:=by
 have gs:∀ {k:AV→Prop},k (.t s.t)→nthI ((ss.map Sc.t).map .t) (i:Int) k:=fun h=>nthN_t (g:=Sc.t) (l:=ss) (i:=i) hi (Nat.le_trans hz (by decide)) fun a ha=>by rw [hs] at ha;cases ha;exact h
 obtain ⟨ls,lq,lh,ll,lo⟩:=l
 refine gs ?_
 refine (?_:brK _ _ _)
 cases e:s.left with
 | true =>
  obtain ⟨c,h3,h4,h5⟩:=h1 e
  refine brT' ((kindL _).trans rfl) ?_
  refine gs ?_
  obtain ⟨sn,sl,sx,son⟩:=s
  subst h3
  refine row_C (r:=r+1) _ ?_
  dsimp only at h4 h5
  subst h4 h5
  refine row_C (r:=r+1) _ ?_
  refine (?_:(_∧_)∧_)
  refine ⟨neL_ok (l:=[c]) (l':=[c]) rfl,?_⟩
  exact hk
 | false =>
  obtain ⟨h4,h5⟩:=h2 e
  dsimp only at h4 h5
  subst h4 h5
  refine brF ((kindL _).trans rfl) ?_
  refine (?_:(_∧_)∧_)
  refine ⟨neL_ok (l:=[]) (l':=[]) rfl,?_⟩
  exact hk
theorem stand_d {cl:Fr} {x52 x73 x74:TV} {i:Nat} {n:Nat} {l:Lv} {M:Mem} {cs:List Cd} {K:Fl→Fr→Fr→Mem→Prop} (he:l.here=cs) (hM:M[n]?=some (.lst ((cs.map Cd.row).map .t))) (hk:∀ _:Unit,sx T (r+5) c_l_stand_right_o [(73,.t x73),(52,.t x52),(74,.t x74),(48,.t (.int i)),(129,.t l.t),(128,.ref n)] cl M K) :
  sx T (r+5) c_l_stand_right_d [(73,.t x73),(52,.t x52),(74,.t x74),(48,.t (.int i)),(129,.t l.t),(128,.ref n)] cl M K:=by
 refine compL_one Cd.t Cd.row (fun c _ R hR=>row_C (r:=r+1) _ hR) ?_
 refine nthK_ok hM ?_
 refine treesM ?_
 refine (?_:(_∧_)∧_)
 refine ⟨neL_ok he,?_⟩
 exact ⟨hk ()⟩
theorem stand_ok (hz:ss.length≤10) (ht:tl.length≤100) (H:StandOk lv bf ss tl) (h:P (.bool true)):FN T (r+6) false 1200 [planT lv bf c,.lst (ss.map Sc.t),.lst (tl.map tlT)] P:=by
 refine enterF c_l_stand_right [true,true,true] [73,52,74] [111] false o_l_stand_right ?_
 refine compL_one Cd.t Cd.row (fun c _ R hR=>row_C (r:=r+1) _ hR) ?_
 refine compL_fil tlT (fun x=>x.1.row) (fun x=>x.2.isEmpty) (fun x _ R hR=>?_) ?_
 ·obtain ⟨c,ns⟩:=x
  cases ns with
  | nil=>exact row_C (r:=r+1) _ hR
  | cons _ _=>exact hR
 have e1:(tl.filter fun x=>x.2.isEmpty).map (fun x=>x.1.row)=((tl.filter fun x=>x.2.isEmpty).map (·.1)).map Cd.row:=by rw [List.map_map];rfl
 rw [e1]
 refine (?_:(_∧_)∧_)
 refine ⟨neL_ok H.bf,?_⟩
 refine (?_:((0:Int)≤_∧_≤(1000:Int))∧_)
 have hl:(ss.map Sc.t).length=ss.length:=List.length_map _
 refine ⟨⟨nC _,by show ((ss.map Sc.t).length:Int)≤1000;rw [hl];exact nLe (c:=1000) (Nat.le_trans hz (by decide))⟩,?_⟩
 refine forR_ind (σ:=Mem) (fun _=>_) (fun _=>[]) (fun M=>M) (fun _ _=>True) (fun M _=>h) (fun i M hi _ R hR=>?_) [] trivial
 replace hR:=fun M=>hR M trivial
 rw [Int.toNat_natCast,hl] at hi
 have hs:=List.getElem?_eq_getElem hi
 generalize ss[i]=s at hs
 have hli:=List.getElem?_eq_getElem (H.len▸hi:i<lv.length)
 generalize lv[i]'_=l at hli
 have gs:∀ {k:AV→Prop},k (.t s.t)→nthI ((ss.map Sc.t).map .t) (i:Int) k:=fun h=>nthN_t (g:=Sc.t) (l:=ss) (i:=i) hi (Nat.le_trans hz (by decide)) fun a ha=>by rw [hs] at ha;cases ha;exact h
 refine nthN_t (g:=Lv.t) (l:=lv) (i:=i) (H.len▸hi) (Nat.le_trans (Nat.le_of_eq H.len) (Nat.le_trans hz (by decide))) fun a ha=>?_
 rw [hli] at ha;cases ha
 refine (?_:((0:Int)≤_∧_≤(_:Int))∧_)
 refine ⟨⟨nC (i+1),by show (i:Int)+1≤((ss.map Sc.t).length:Int);rw [hl];exact nLe (n:=i+1) hi⟩,?_⟩
 have et:(ss.map Sc.t).take ((i:Int)+1).toNat=(ss.take (i+1)).map Sc.t:=by rw [show ((i:Int)+1).toNat=i+1 from rfl,List.map_take]
 rw [et]
 refine compL_one Sc.t (fun s=>.int s.n) (fun s _ R hR=>hR) ?_
 have eo:(ss.take (i+1)).map (fun s=>TV.int s.n)=((ss.take (i+1)).map fun s=>(s.n:Int)).map .int:=by rw [List.map_map];rfl
 rw [eo]
 refine snocK_ok ?_
 generalize hos:(ss.take (i+1)).map (fun s=>(s.n:Int))=os
 refine forL_ind (σ:=Mem×List Cd) (fun x=>.t (tlT x)) (fun s=>_) (fun _=>_) (fun s=>s.1) (fun l s'=>s'.1[M.length]?=some (.lst ((s'.2.map Cd.row).map .t))∧s'.2++(l.filter (due s.n os)).map (·.1)=(tl.filter (due s.n os)).map (·.1)) (fun s' hI=>?_) (fun x l s' hI W hW=>?_) tl (M++[.lst []],[]) mm ⟨by rw [List.getElem?_append_right (Nat.le_refl _),Nat.sub_self];rfl,rfl⟩
 ·obtain ⟨h1,h2⟩:=hI
  rw [List.filter_nil,List.map_nil,List.append_nil] at h2
  refine (?_:Lab _)
  refine ⟨stand_d (hos▸H.here i l s hli hs) (h2▸h1) fun e=>stand_o hi hz hs (H.left i l s hli hs) (H.inner i l s hli hs) (hR _)⟩
 ·obtain ⟨h1,h2⟩:=hI
  rw [List.filter_cons] at h2
  have hs2:=congrArg List.length h2
  have hf:=List.length_filter_le (due s.n os) tl
  simp only [List.length_append,List.length_map] at hs2
  refine gs ?_
  refine intM ?_
  refine (?_:brK _ _ _)
  have no:due s.n os x=false→_:=fun e=>hW s' ⟨h1,by rw [if_neg (by rw [e];simp)] at h2;exact h2⟩
  refine br (fun e=>?_) fun e=>no (by delta due;rw [e];rfl)
  refine compL_bool TV.int (fun y=>os.any (·==y)) (fun y _ R hR=>intM hR) ?_
  refine boolM ?_
  rw [allM]
  refine (?_:brK _ _ _)
  refine br (fun e2=>?_) fun e2=>no (by delta due;rw [e,e2];rfl)
  have yes:due s.n os x=true:=by delta due;rw [e,e2];rfl
  rw [if_pos yes] at h2
  simp only [List.map_cons] at h2
  refine nthK_ok h1 ?_
  refine row_C (r:=r+1) _ ?_
  refine app_lst h1 (by simp only [List.length_map];exact Nat.le_trans (Nat.le_add_right _ _) (Nat.le_trans (Nat.le_of_eq hs2) (Nat.le_trans hf (Nat.le_trans ht (by decide))))) fun M2 h3 _=>?_
  exact hW (M2,s'.2++[x.1]) ⟨by rw [h3,List.map_append (f:=Cd.row)];rfl,by rw [List.append_assoc];exact h2⟩
end
section
variable {T:Top} {r:Nat} {P:TV→Prop}
noncomputable def c_affinity_of_type:CS:=.cons (.ifs (.tor (.te (.o1 .isN (.nm 6))) (.tor .stop .ff)) (.cons (.ret (.k (.str "blob"))) .nil) .nil) .stop
theorem o_affinity_of_type:okDf false 469 [true] [6] [] c_affinity_of_type=true:=by decide +kernel
theorem affn_ok (h:P (.str "blob")):FN T (r+1) false 469 [.none] P:=enterF c_affinity_of_type [true] [6] [] false o_affinity_of_type h
noncomputable def c_Column_mk:CS:=(.cons (.as (.att (.nm 76) 7) (.nm 7)) (.cons (.as (.att (.nm 76) 6) (.nm 6)) (.cons (.as (.att (.nm 76) 56) (.fcall false 469 (.cons (.nm 6) .nil))) (.cons (.as (.att (.nm 76) 44) (.k (.str "binary"))) (.cons (.as (.att (.nm 76) 113) (.k (.bool false))) (.cons (.as (.att (.nm 76) 114) (.k .none)) .nil))))))
theorem p_Column_mk:okDf true 1015 [true,true,true] [76,7,6] [] c_Column_mk=true:=by decide +kernel
theorem column_ok {x:Str} (h:P (columnT x)):FN T (r+3) false 1018 [.str x] P:=by
 refine makerF (r:=r+1) 1015 c_Column_mk [true,true,true] [76,7,6] [] true (by decide +kernel) p_Column_mk ?_
 refine affn_ok (r:=r) ?_
 exact h
noncomputable def c_Index_mk:CS:=(.cons (.as (.att (.nm 76) 7) (.nm 7)) (.cons (.as (.att (.nm 76) 22) (.nm 22)) (.cons (.as (.att (.nm 76) 115) (.nm 115)) (.cons (.as (.att (.nm 76) 41) (.nm 41)) (.cons (.as (.att (.nm 76) 116) (.nm 116)) (.cons (.as (.att (.nm 76) 117) (.nm 117)) (.cons (.as (.att (.nm 76) 118) (.nm 118)) .nil)))))))
theorem o_Index_mk:okDf false 1036 [true,true,true,true,true,true,true,true] [76,7,22,115,41,116,117,118] [] c_Index_mk=true:=by decide +kernel
theorem ix_ok {x:Ix} (h:P x.t):FN T (r+2) false 1051 [.str x.nm,.str x.tn,.int 3,.lst (x.cols.map colT),.bool x.uq,.str "c",.str ""] P:=makerF 1036 c_Index_mk [true,true,true,true,true,true,true,true] [76,7,22,115,41,116,117,118] [] false (by decide +kernel) o_Index_mk h
noncomputable def c_Table_mk:CS:=(.cons (.as (.att (.nm 76) 7) (.nm 7)) (.cons (.as (.att (.nm 76) 115) (.nm 115)) (.cons (.as (.att (.nm 76) 41) (.nm 41)) (.cons (.as (.att (.nm 76) 119) (.k .none)) (.cons (.as (.att (.nm 76) 120) (.list .nil)) (.cons (.as (.att (.nm 76) 121) (.lstF .nil)) (.cons (.as (.att (.nm 76) 118) (.nm 118)) (.cons (.as (.att (.nm 76) 122) (.lstF .nil)) .nil))))))))
theorem o_Table_mk:okDf false 1069 [true,true,true,true,true] [76,7,115,41,118] [] c_Table_mk=true:=by decide +kernel
theorem cols_of {ps:List Int}:∀ {us:List TV},L2 (fun p u=>∃ b,u=colT (p,b)) ps us→∃ cs:List (Int×Bool),cs.map (·.1)=ps∧us=cs.map colT:=by
 induction ps with
 | nil=>intro us h;cases h;exact ⟨[],rfl,rfl⟩
 | cons p ps ih =>
  rintro us ⟨u,us,rfl,⟨b,rfl⟩,h⟩
  obtain ⟨cs,h1,rfl⟩:=ih h
  exact ⟨(p,b)::cs,by rw [List.map_cons,h1],rfl⟩
noncomputable def c_l_table:CS:=(.cons (.as (.nm 22) (.call 1091 (.cons (.nm 7) (.cons (.k (.int 2)) (.cons (.lstF (.cons (.fcall false 1018 (.cons (.k (.str "a")) .nil)) (.cons (.fcall false 1018 (.cons (.k (.str "b")) .nil)) (.cons (.fcall false 1018 (.cons (.k (.str "c")) .nil)) .nil)))) (.cons (.k (.str "")) .nil)))))) (.cons (.for_ 0 [67] true true (.fcall true 1109 (.cons (.nc 43) (.cons (.k (.int 3)) .nil))) (.cons (.as (.nm 72) (.fcall true 1116 (.cons (.nc 43) (.cons (.lstF (.cons (.lstF (.cons (.k (.int 0)) .nil)) (.cons (.lstF (.cons (.k (.int 1)) .nil)) (.cons (.lstF (.cons (.k (.int 0)) (.cons (.k (.int 1)) .nil))) (.cons (.lstF (.cons (.k (.int 1)) (.cons (.k (.int 0)) .nil))) (.cons (.lstF (.cons (.k (.int 2)) (.cons (.o1 .neg (.k (.int 1))) .nil))) (.cons (.lstF (.cons (.k (.int 0)) (.cons (.k (.int 1)) (.cons (.k (.int 2)) .nil)))) .nil))))))) .nil)))) (.cons (.as (.nm 41) (.comp (.tup (.cons (.nm 21) (.cons (.k (.str "binary")) (.cons (.o2 .eqI (.fcall true 1109 (.cons (.nc 43) (.cons (.k (.int 3)) .nil))) (.k (.int 0))) .nil)))) [21] true false (.nm 72) (.tt))) (.cons (.ex (.app (.att (.nm 22) 120) (.fcall false 1051 (.cons (.o2 .addS (.nm 7) (.o1 .str (.nm 67))) (.cons (.nm 7) (.cons (.k (.int 3)) (.cons (.nm 41) (.cons (.o2 .eqI (.fcall true 1109 (.cons (.nc 43) (.cons (.k (.int 2)) .nil))) (.k (.int 0))) (.cons (.k (.str "c")) (.cons (.k (.str "")) .nil)))))))))) (.cons (.kp [7,22]) .nil))))) (.cons (.ret (.nm 22)) .nil)))
theorem o_l_table:okDf false 1121 [false,true] [43,7] [43] c_l_table=true:=by decide +kernel
theorem als_len (n:Nat):(als n).length≤1:=by delta als;split;(· decide +kernel);split<;>decide +kernel
theorem places_of {v:TV} (h:v∈([.lst [.int 0],.lst [.int 1],.lst [.int 0,.int 1],.lst [.int 1,.int 0],.lst [.int 2,.int (-1)],.lst [.int 0,.int 1,.int 2]]:List TV)):∃ ps:List Int,v=.lst (ps.map .int)∧(∀ p∈ps,-1≤p∧p≤2)∧ps.length≤3:=by
 simp only [List.mem_cons,List.not_mem_nil,or_false] at h
 rcases h with rfl | rfl | rfl | rfl | rfl | rfl
 ·exact ⟨[0],rfl,by decide,by decide⟩
 ·exact ⟨[1],rfl,by decide,by decide⟩
 ·exact ⟨[0,1],rfl,by decide,by decide⟩
 ·exact ⟨[1,0],rfl,by decide,by decide⟩
 ·exact ⟨[2,-1],rfl,by decide,by decide⟩
 ·exact ⟨[0,1,2],rfl,by decide,by decide⟩
noncomputable abbrev tabM (n:Nat):MO:=.inst 1091 [7,115,41,119,120,121,118,122] [.t (.str (als n)),.t (.int 2),.t (.lst [columnT "a",columnT "b",columnT "c"]),.t .none,.ref 2,.t (.lst []),.t (.str ""),.t (.lst [])]
theorem table_ok {n:Nat} (h:∀ ixs:List Ix,(∀ x∈ixs,x.Ok)→ixs.length≤2→P (tab n ixs)):FN T (r+4) true 1121 [.str (als n)] P:=by
 refine enterF c_l_table [false,true] [43,7] [43] false o_l_table ?_
 refine column_ok (r:=r) ?_
 refine column_ok (r:=r) ?_
 refine column_ok (r:=r) ?_
 refine maker 1069 c_Table_mk [true,true,true,true,true] [76,7,115,41,118] [] false (by decide +kernel) o_Table_mk ?_
 refine take_ok (r:=r+2) (k:=3) (by decide) fun v hv=>?_
 refine (?_:((0:Int)≤_∧_≤(1000:Int))∧_)
 refine ⟨⟨hv.1,Int.le_trans (Int.le_of_lt hv.2) (by decide)⟩,?_⟩
 refine forR_ind (σ:=List Ix) (fun _=>_) (fun _=>_) (fun ixs=>[.pool,tabM n,.lst ((ixs.map Ix.t).map .t)]) (fun i ixs=>ixs.length=i∧∀ x∈ixs,x.Ok) (fun ixs hI=>?_) (fun i ixs hi hI R hR=>?_) [] ⟨rfl,fun _ h=>nomatch h⟩
 ·refine fzc_t ?_
  refine resL_t ?_
  exact h ixs hI.2 (by rw [hI.1];exact Nat.le_of_lt_succ (toLt (c:=3) hv))
 ·obtain ⟨h1,h2⟩:=hI
  have hv0:=hv
  refine one_ok (r:=r+1) (by decide) fun v hv=>?_
  obtain ⟨ps,rfl,hp,hz⟩:=places_of hv
  refine compL_rel TV.int (fun p u=>∃ b,u=colT (p,b)) (fun p _ R hR=>?_) fun us hus=>?_
  ·refine take_ok (r:=r+2) (k:=3) (by decide) fun v hv=>?_
   exact hR _ ⟨_,rfl⟩
  obtain ⟨cs,rfl,rfl⟩:=cols_of hus
  have hi2:i<2:=Nat.lt_of_lt_of_le hi (Nat.le_of_lt_succ (toLt (c:=3) hv0))
  refine (?_:((0:Int)≤_∧_<(3:Int))∧_)
  refine ⟨⟨nC i,nLt (c:=3) (Nat.lt_succ_of_lt hi2)⟩,?_⟩
  refine (?_:_∧_)
  refine ⟨by have:=als_len n;have e:∀ m:Nat,(⟨#[m]⟩:Str).length=1:=fun _=>rfl;rw [e];lia,?_⟩
  refine take_ok (r:=r+2) (k:=2) (by decide) fun v hv=>?_
  refine ix_ok (r:=r+1) (x:=⟨_,als n,cs,_⟩) ?_
  refine (?_:brK _ _ _)
  refine brT' (short2 (Nat.le_trans (Nat.le_of_eq h1) (Nat.le_trans (Nat.le_of_lt hi2) (by decide)))) ?_
  have:=hR (ixs++[⟨als n++⟨#[48+(i:Int).toNat]⟩,als n,cs,v==0⟩]) ⟨by rw [List.length_append,h1];rfl,fun x hx=>?_⟩
  ·rw [mapA] at this;exact this
  ·rcases List.mem_append.mp hx with hx | hx
   ·exact h2 x hx
   ·cases List.mem_singleton.mp hx
    exact ⟨fun c hc=>hp c.1 (List.mem_map.mpr ⟨c,hc,rfl⟩),by rw [List.length_map] at hz;exact hz⟩
end
structure SrcB (m:Mem) (v:AV) (n:Nat):Prop where
 num:∀ (g:Mem) (k:AV→Prop),k (.t (.int n))→attK (m++g) v 15 k
 ali:∀ (g:Mem) (k:AV→Prop),k (.t (.str (als n)))→attK (m++g) v 57 k
 col:∀ (g:Mem) (k:AV→Prop),k (.t (.lst [ctupT "a",ctupT "b",ctupT "c"]))→attK (m++g) v 41 k
structure KnAt (m:Mem) (kn:AV) (K:Nat):Prop where
 pos:0<K∧K≤3
 it:∃ L:List AV,L.length=K∧(kn=.ref 1∧(∃ m',m=.pool::.lst L::m')∨(∃ l,kn=.t (.lst l)∧L=l.map .t∧∃ m',m=.pool::m'))∧∀ v∈L,∃ n,n<K∧SrcB m v n
theorem SrcB.app {m g:Mem} {v:AV} {n:Nat} (h:SrcB m v n):SrcB (m++g) v n:=⟨fun g'=>by rw [List.append_assoc];exact h.num _,fun g'=>by rw [List.append_assoc];exact h.ali _,fun g'=>by rw [List.append_assoc];exact h.col _⟩
theorem KnAt.app {m g:Mem} {kn:AV} {K:Nat} (h:KnAt m kn K):KnAt (m++g) kn K:=⟨h.pos,by
 obtain ⟨L,h1,h2,h3⟩:=h.it
 refine ⟨L,h1,?_,fun v hv=>by obtain ⟨n,hn,q⟩:=h3 v hv;exact ⟨n,hn,q.app⟩⟩
 rcases h2 with ⟨rfl,m',rfl⟩ | ⟨l,rfl,e,m',rfl⟩
 ·exact .inl ⟨rfl,m'++g,rfl⟩
 ·exact .inr ⟨l,rfl,e,m'++g,rfl⟩⟩
theorem SrcB.t {m:Mem} (s:Sc):SrcB m (.t s.t) s.n:=⟨fun _ _ h=>h,fun _ _ h=>h,fun _ _ h=>h⟩
section
variable {T:Top} {r n K:Nat} {P:TV→Prop} {m:Mem} {k:AV→Mem→Prop} {kn:AV}
theorem one_kn (h:KnAt m kn K) (hk:∀ v n,n<K→SrcB m v n→k v m):CALL T (r+2) (.ref 1116) [.ref 0,kn] m k:=by
 refine enter c_l_one [true,true] [43,66] [] false o_l_one ?_
 obtain ⟨L,h1,h2,h3⟩:=h.it
 have hp:=h.pos
 have hL:L.length≤3:=Nat.le_trans (Nat.le_of_eq h1) hp.2
 have hL0:0<L.length:=Nat.lt_of_lt_of_eq hp.1 h1.symm
 have fin:∀ v:Int,0≤v∧v<L.length→nthI L v fun u=>k u m:=fun v hv=>nthI_ok hv.1 hv.2 (Nat.le_trans hL (by decide)) fun a ha=>by
  obtain ⟨n,hn,q⟩:=h3 a (List.mem_of_getElem? ha)
  exact hk a n hn q
 rcases h2 with ⟨rfl,m',rfl⟩ | ⟨l,rfl,rfl,m',rfl⟩
 ·refine take_ok (k:=(L.length:Int)) ⟨nLt hL0,nLt (c:=1000) (Nat.lt_of_le_of_lt hL (by decide))⟩ fun v hv=>?_
  exact fin v hv
 ·have hl:(l.map AV.t).length=l.length:=List.length_map _
  refine take_ok (k:=(l.length:Int)) (by rw [← hl];exact ⟨nLt hL0,nLt (c:=1000) (Nat.lt_of_le_of_lt hL (by decide))⟩) fun v hv=>?_
  exact fin v (by rw [hl];exact hv)
noncomputable def c_Name_mk:CS:=(.cons (.as (.att (.nm 76) 22) (.nm 22)) (.cons (.as (.att (.nm 76) 37) (.nm 37)) (.cons (.as (.att (.nm 76) 43) (.k .none)) (.cons (.as (.att (.nm 76) 21) (.k .none)) (.cons (.as (.att (.nm 76) 55) (.k (.int 0))) .nil)))))
theorem o_Name_mk:okDf false 106 [true,true,true] [76,22,37] [] c_Name_mk=true:=by decide +kernel
theorem name_ok {a b:TV} (h:P (.obj 116 [22,37,43,21,55] [a,b,.none,.none,.int 0])):FN T (r+2) false 116 [a,b] P:=makerF 106 c_Name_mk [true,true,true] [76,22,37] [] false (by decide +kernel) o_Name_mk h
theorem name_held {a b:TV} (h:k (.ref m.length) (m++[.inst 116 [22,37,43,21,55] [.t a,.t b,.t .none,.t .none,.t (.int 0)]])):CALL T (r+2) (.ref 116) [.t a,.t b] m k:=CALL.frame (ts:=[a,b]) (maker 106 c_Name_mk [true,true,true] [76,22,37] [] false (by decide +kernel) o_Name_mk h)
theorem last_get {o:MO}:(m++[o])[m.length]?=some o:=by rw [List.getElem?_append_right (Nat.le_refl _),Nat.sub_self];rfl
theorem last_set {o o':MO} {k:Mem→Prop} (h:k (m++[o'])):setK (m++[o]) m.length o' k:=setK_ok (by simp) (by rw [List.set_append_right _ _ (Nat.le_refl _),Nat.sub_self];exact h)
noncomputable def c_bound_name:CS:=(.cons (.as (.nm 12) (.call 116 (.cons (.att (.nm 1) 22) (.cons (.att (.nm 1) 37) .nil)))) (.cons (.as (.att (.nm 12) 43) (.att (.nm 43) 15)) (.cons (.as (.att (.nm 12) 21) (.nm 21)) (.cons (.as (.att (.nm 12) 55) (.nm 55)) (.cons (.as (.att (.nm 12) 56) (.ife (.te (.o2 .ltI (.nm 21) (.k (.int 0)))) (.k (.str "integer")) (.sub (.sub (.att (.nm 43) 41) (.nm 21)) (.k (.int 1))))) (.cons (.as (.att (.nm 12) 44) (.ife (.te (.o2 .ltI (.nm 21) (.k (.int 0)))) (.k (.str "binary")) (.sub (.sub (.att (.nm 43) 41) (.nm 21)) (.k (.int 2))))) (.cons (.ret (.nm 12)) .nil)))))))
theorem o_bound_name:okDf false 987 [true,true,true,true] [1,43,21,55] [] c_bound_name=true:=by decide +kernel
theorem bound_name_ok {v:AV} {p:Int} (h:SrcB m v n) (hp:-1≤p∧p≤2) (hk:k (.ref m.length) (m++[.inst 116 [22,37,43,21,55,56,44] [.t (.str (als n)),.t (.str (coln p)),.t (.int n),.t (.int p),.t (.int 0),.t (.str (affn (neg p))),.t (.str "binary")]])) :
  CALL T (r+3) (.ref 987) [.t (.obj 116 [22,37,43,21,55] [.str (als n),.str (coln p),.none,.none,.int 0]),v,.t (.int p),.t (.int 0)] m k:=by
 refine enter c_bound_name [true,true,true,true] [1,43,21,55] [] false o_bound_name ?_
 refine name_held ?_
 refine h.num _ _ ?_
 refine nthK_ok last_get ?_
 refine last_set ?_
 refine nthK_ok last_get ?_
 refine last_set ?_
 refine nthK_ok last_get ?_
 refine last_set ?_
 have e:p=-1∨p=0∨p=1∨p=2:=in4 hp
 rcases e with rfl | rfl | rfl | rfl
 ·refine nthK_ok last_get ?_
  refine last_set ?_
  refine nthK_ok last_get ?_
  refine last_set ?_
  exact hk
 all_goals
  refine h.col _ _ ?_
  refine nthK_ok (l:=m++[_]) last_get ?_
  refine last_set ?_
  refine h.col _ _ ?_
  refine nthK_ok (l:=m++[_]) last_get ?_
  refine last_set ?_
  exact hk
noncomputable def c_l_column:CS:=(.cons (.as (.nm 69) (.call 1116 (.cons (.nm 43) (.cons (.nm 68) .nil)))) (.cons (.as (.nm 21) (.o2 .sub (.fcall true 1109 (.cons (.nm 43) (.cons (.k (.int 4)) .nil))) (.k (.int 1)))) (.cons (.ret (.fz (.call 987 (.cons (.fcall false 116 (.cons (.att (.nm 69) 57) (.cons (.sub (.lstF (.cons (.k (.str "rowid")) (.cons (.k (.str "a")) (.cons (.k (.str "b")) (.cons (.k (.str "c")) .nil))))) (.o2 .add (.nm 21) (.k (.int 1)))) .nil))) (.cons (.nm 69) (.cons (.nm 21) (.cons (.k (.int 0)) .nil))))))) .nil)))
theorem o_l_column:okDf false 1128 [true,true] [43,68] [] c_l_column=true:=by decide +kernel
theorem column_kn (h:KnAt m kn K) (hk:∀ n p g,n<K→-1≤p∧p≤2→k (.t (O.name n p).t) (m++g)):CALL T (r+4) (.ref 1128) [.ref 0,kn] m k:=by
 refine enter c_l_column [true,true] [43,68] [] false o_l_column ?_
 refine one_kn (r:=r+1) h fun v n hn hv=>?_
 have key:∀ i:Int,0≤i∧i<4→sx T (r+3) (.cons (.ret (.fz (.call 987 (.cons (.fcall false 116 (.cons (.att (.nm 69) 57) (.cons (.sub (.lstF (.cons (.k (.str "rowid")) (.cons (.k (.str "a")) (.cons (.k (.str "b")) (.cons (.k (.str "c")) .nil))))) (.o2 .add (.nm 21) (.k (.int 1)))) .nil))) (.cons (.nm 69) (.cons (.nm 21) (.cons (.k (.int 0)) .nil))))))) .nil) [(43,.ref 0),(68,kn),(69,v),(21,.t (.int (i - 1)))] [] m fun f _ _ mem=>retK k f mem:=fun i hi=>by
  have e:i=0∨i=1∨i=2∨i=3:=by lia
  have hp:-1≤i - 1∧i - 1≤2:=by rcases e with rfl | rfl | rfl | rfl<;>decide
  have hv0:SrcB (m++[]) v n:=hv.app
  rw [List.append_nil] at hv0
  have al:∀ (k:AV→Prop),k (.t (.str (als n)))→attK m v 57 k:=fun k h=>by have:=hv.ali [] k h;rw [List.append_nil] at this;exact this
  refine al _ ?_
  have nm:∀ k:AV→Prop,k (.t (.str (coln (i - 1))))→nthI (([.str "rowid",.str "a",.str "b",.str "c"]:List TV).map .t) (i - 1+1) k:=fun k h=>by
   rcases e with rfl | rfl | rfl | rfl<;>exact h
  refine nm _ ?_
  refine name_ok (r:=r+1) ?_
  refine bound_name_ok (r:=r) hv0 hp ?_
  refine nthK_ok (l:=m++[_]) last_get ?_
  refine nthK_ok (l:=m++[_]) last_get ?_
  refine last_set ?_
  exact hk n (i - 1) [_] hn hp
 obtain ⟨L,h1,h2,h3⟩:=h.it
 rcases h2 with ⟨rfl,m',rfl⟩ | ⟨l,rfl,rfl,m',rfl⟩
 ·refine take_ok (k:=4) (by decide) fun i hi=>?_
  exact key i hi
 ·refine take_ok (k:=4) (by decide) fun i hi=>?_
  exact key i hi
end
structure CondN (K:Nat) (x:Tl):Prop where
 ok:x.1.ok K
 ns:∀ y,y∈x.2↔∃ n∈x.1.nums,(n:Int)=y
theorem ops_of {v:TV} (h:v∈([.str "=",.str "=",.str "=",.str "<",.str "<=",.str ">",.str ">=",.str "<>"]:List TV)):∃ op:Op,v=.str op.str:=by
 simp only [List.mem_cons,List.not_mem_nil,or_false] at h
 rcases h with rfl | rfl | rfl | rfl | rfl | rfl | rfl | rfl
 ·exact ⟨.eq,rfl⟩
 ·exact ⟨.eq,rfl⟩
 ·exact ⟨.eq,rfl⟩
 ·exact ⟨.lt,rfl⟩
 ·exact ⟨.le,rfl⟩
 ·exact ⟨.gt,rfl⟩
 ·exact ⟨.ge,rfl⟩
 ·exact ⟨.ne,rfl⟩
section
variable {T:Top} {r n K:Nat} {P:TV→Prop} {m:Mem} {k:AV→Mem→Prop} {kn:AV}
theorem lits {k:List TV→Mem→Prop} {turn:AV→Mem→(List TV→Mem→Prop)→Prop} {mem:Mem} (ht:∀ (a:Nat) R,(∀ x:V,R [(O.lit x).t] mem)→turn (.t (.int a)) mem R) {N:Nat} (hk:∀ xs:List V,xs.length=N→k (xs.map fun x=>(O.lit x).t) mem):compL turn ((List.range N).map fun (n:Nat)=>AV.t (.int n)) [] mem k:=by
 refine compL_ind (fun n:Nat=>AV.t (.int n)) (fun l acc=>∃ xs:List V,acc=xs.map (fun x=>(O.lit x).t)∧xs.length+l.length=N) (fun acc h=>?_) (fun a l acc h R hR=>?_) (List.range N) [] rfl ⟨[],rfl,by simp⟩
 ·obtain ⟨xs,rfl,h⟩:=h;exact hk xs h
 ·obtain ⟨xs,rfl,h⟩:=h
  exact ht a R fun x=>hR _ ⟨xs++[x],by rw [List.map_append];rfl,by rw [List.length_append];simp at h ⊢;lia⟩
theorem column_pl (h:KnAt (.pool::m) kn K) (hk:∀ n p g m',m'=m++g→n<K→-1≤p∧p≤2→KnAt (.pool::m') kn K→k (.t (O.name n p).t) (.pool::m')):CALL T (r+4) (.ref 1128) [.ref 0,kn] (.pool::m) k :=
 column_kn h fun n p g hn hp=>hk n p g _ rfl hn hp h.app
noncomputable def c_l_condition_p:CS:=(.cons (.as (.nm 16) (.fcall true 1116 (.cons (.nc 43) (.cons (.lstF (.cons (.k (.str "=")) (.cons (.k (.str "=")) (.cons (.k (.str "=")) (.cons (.k (.str "<")) (.cons (.k (.str "<=")) (.cons (.k (.str ">")) (.cons (.k (.str ">=")) (.cons (.k (.str "<>")) .nil))))))))) .nil)))) (.cons (.ifs (.te (.o2 .ltI (.nm 58) (.k (.int 5)))) (.cons (.as (.nm 70) (.call 1128 (.cons (.nc 43) (.cons (.nm 68) .nil)))) (.cons (.ifs (.te (.o2 .eqI (.nm 58) (.k (.int 4)))) (.cons (.as (.nm 139) (.fcall false 168 (.cons (.k (.str "or")) (.cons (.fcall false 168 (.cons (.nm 16) (.cons (.nm 37) (.cons (.nm 70) .nil)))) (.cons (.fcall false 168 (.cons (.k (.str "=")) (.cons (.nm 37) (.cons (.fcall false 90 (.cons (.k (.int 1)) .nil)) .nil)))) .nil))))) (.cons (.ret (.tup (.cons (.nm 139) (.cons (.lstF (.cons (.att (.nm 37) 43) (.cons (.att (.nm 70) 43) .nil))) .nil)))) .nil)) .nil) (.cons (.ret (.tup (.cons (.fcall false 168 (.cons (.nm 16) (.cons (.nm 37) (.cons (.nm 70) .nil)))) (.cons (.lstF (.cons (.att (.nm 37) 43) (.cons (.att (.nm 70) 43) .nil))) .nil)))) .nil))) .nil) (.cons (.as (.nm 17) (.fcall false 90 (.cons (.fcall true 1135 (.cons (.nc 43) .nil)) .nil))) (.cons (.ifs (.te (.o2 .eqI (.nm 58) (.k (.int 5)))) (.cons (.ret (.tup (.cons (.fcall false 168 (.cons (.nm 16) (.cons (.nm 17) (.cons (.nm 37) .nil)))) (.cons (.lstF (.cons (.att (.nm 37) 43) .nil)) .nil)))) .nil) .nil) (.cons (.ret (.tup (.cons (.fcall false 168 (.cons (.nm 16) (.cons (.nm 37) (.cons (.nm 17) .nil)))) (.cons (.lstF (.cons (.att (.nm 37) 43) .nil)) .nil)))) .nil)))))
noncomputable def c_l_condition:CS:=(.cons (.unt true (.cons (.nm 37) (.cons (.nm 58) .nil)) (.cons (.fcall true 1109 (.cons (.nc 43) (.cons (.k (.int 8)) .nil))) (.cons (.call 1128 (.cons (.nc 43) (.cons (.nm 68) .nil))) .nil))) (.cons (.ifs (.te (.o2 .eqI (.nm 58) (.k (.int 0)))) (.cons (.unt true (.cons (.nm 29) (.cons (.nm 28) .nil)) (.cons (.fcall false 90 (.cons (.fcall true 1135 (.cons (.nc 43) .nil)) .nil)) (.cons (.fcall false 90 (.cons (.fcall true 1135 (.cons (.nc 43) .nil)) .nil)) .nil))) (.cons (.ret (.tup (.cons (.fcall false 194 (.cons (.nm 37) (.cons (.nm 28) (.cons (.nm 29) (.cons (.k (.bool false)) .nil))))) (.cons (.lstF (.cons (.att (.nm 37) 43) .nil)) .nil)))) .nil)) .nil) (.cons (.ifs (.te (.o2 .eqI (.nm 58) (.k (.int 1)))) (.cons (.as (.nm 19) (.comp (.fcall false 90 (.cons (.fcall true 1135 (.cons (.nc 43) .nil)) .nil)) [67] true true (.o2 .add (.k (.int 1)) (.fcall true 1109 (.cons (.nc 43) (.cons (.k (.int 3)) .nil)))) (.tt))) (.cons (.ret (.tup (.cons (.fcall false 220 (.cons (.nm 37) (.cons (.nm 19) (.cons (.k (.bool false)) .nil)))) (.cons (.lstF (.cons (.att (.nm 37) 43) .nil)) .nil)))) .nil)) .nil) (.cons (.ifs (.tand (.te (.o2 .eqI (.nm 58) (.k (.int 2)))) (.tand (.te (.o2 .eqI (.fcall true 1109 (.cons (.nc 43) (.cons (.k (.int 2)) .nil))) (.k (.int 0)))) .tt)) (.cons (.ret (.tup (.cons (.fcall false 168 (.cons (.k (.str "=")) (.cons (.fcall false 90 (.cons (.k (.int 1)) .nil)) (.cons (.fcall false 90 (.cons (.fcall true 1109 (.cons (.nc 43) (.cons (.k (.int 2)) .nil))) .nil)) .nil)))) (.cons (.lstF .nil) .nil)))) .nil) .nil) (.lab c_l_condition_p)))))
theorem o_l_condition:okDf false 1140 [false,true] [43,68] [43] c_l_condition=true:=by decide +kernel
noncomputable abbrev CK (K:Nat) (m:Mem) (k:AV→Mem→Prop):Prop:=∀ (c:Cd) (ns:List Int) (g:Mem),CondN K (c,ns)→k (.t (tlT (c,ns))) (.pool::(m++g))
theorem mem1 {n:Nat} {y:Int}:y∈[(n:Int)]↔∃ i∈[n],(i:Int)=y:=by simp [eq_comm]
theorem cond_p {a:Nat} {p:Int} {kd:Int} (hn:a<K) (hp:-1≤p∧p≤2) (h:KnAt (.pool::m) kn K) (hk:CK K m k) :
  sx T (r+4) c_l_condition_p [(68,kn),(37,.t (O.name a p).t),(58,.t (.int kd))] [(43,.ref 0)] (.pool::m) fun f _ _ mem=>retK k f mem:=by
 refine one_ok (r:=r+2) (by decide) fun v hv=>?_
 obtain ⟨op,rfl⟩:=ops_of hv
 have oa:(O.name a p).ok K:=⟨hn,hp.1,hp.2⟩
 refine (?_:brK _ _ _)
 refine br (fun _=>?_) fun _=>?_
 ·refine column_pl (r:=r) h fun b q g m' e hb hq _=>?_
  subst e
  have ob:(O.name b q).ok K:=⟨hb,hq.1,hq.2⟩
  have m2:∀ y:Int,y∈[(a:Int),(b:Int)]↔∃ i∈[a,b],(i:Int)=y:=fun y=>by simp [eq_comm]
  refine (?_:brK _ _ _)
  refine br (fun _=>?_) fun _=>?_
  ·refine bin_ok (r:=r+2) ?_
   refine lit_ok (r:=r+2) ?_
   refine bin_ok (r:=r+2) ?_
   refine bin_ok (r:=r+2) ?_
   exact hk (.or op (.name a p) (.name b q) .eq (.name a p) (.lit (.int 1))) [a,b] g ⟨⟨⟨oa,ob⟩,oa,trivial⟩,fun y=>by simp only [Cd.nums,O.nums,List.cons_append,List.nil_append,List.append_nil,List.mem_cons,List.not_mem_nil,or_false,exists_eq_or_imp,exists_eq_left,eq_comm (b:=y)];constructor;(· rintro (h | h);(· exact .inl h);exact .inr (.inl h));rintro (h | h | h);(· exact .inl h);(· exact .inr h);exact .inl h⟩
  ·refine bin_ok (r:=r+2) ?_
   exact hk (.cmp op (.name a p) (.name b q)) [a,b] g ⟨⟨oa,ob⟩,m2⟩
 ·refine value_ok (r:=r+1) fun x=>?_
  refine lit_ok (r:=r+2) ?_
  refine (?_:brK _ _ _)
  refine br (fun _=>?_) fun _=>?_
  ·refine bin_ok (r:=r+2) ?_
   have:=hk (.cmp op (.lit x) (.name a p)) [a] [] ⟨⟨trivial,oa⟩,fun y=>mem1⟩
   rw [List.append_nil] at this;exact this
  ·refine bin_ok (r:=r+2) ?_
   have:=hk (.cmp op (.name a p) (.lit x)) [a] [] ⟨⟨oa,trivial⟩,fun y=>mem1⟩
   rw [List.append_nil] at this;exact this
theorem cond_kn (h:KnAt (.pool::m) kn K) (hk:CK K m k):CALL T (r+5) (.ref 1140) [.ref 0,kn] (.pool::m) k:=by
 refine enter c_l_condition [false,true] [43,68] [43] false o_l_condition ?_
 refine take_ok (r:=r+3) (k:=8) (by decide) fun kd _=>?_
 refine column_pl (r:=r) h fun a p g m' e hn hp h1=>?_
 have oa:(O.name a p).ok K:=⟨hn,hp.1,hp.2⟩
 replace hk:CK K m' k:=fun c ns g' hc=>by rw [e,List.append_assoc];exact hk c ns _ hc
 clear e
 have fin:∀ (c:Cd) (ns:List Int),CondN K (c,ns)→k (.t (tlT (c,ns))) (.pool::m'):=fun c ns hc=>by have:=hk c ns [] hc;rw [List.append_nil] at this;exact this
 refine (?_:brK _ _ _)
 refine br (fun _=>?_) fun _=>?_
 ·refine value_ok (r:=r+1) fun x=>?_
  refine lit_ok (r:=r+2) ?_
  refine value_ok (r:=r+1) fun y=>?_
  refine lit_ok (r:=r+2) ?_
  refine bet_ok (r:=r+2) ?_
  exact fin (.bet (.name a p) (.lit x) (.lit y)) [a] ⟨⟨oa,trivial,trivial⟩,fun y=>mem1⟩
 refine (?_:brK _ _ _)
 refine br (fun _=>?_) fun _=>?_
 ·refine take_ok (r:=r+3) (k:=3) (by decide) fun i hi=>?_
  refine (?_:((0:Int)≤_∧_≤(1000:Int))∧_)
  refine ⟨(in3b hi).1,?_⟩
  refine lits (fun _ R hR=>?_) fun xs hx=>?_
  ·refine value_ok (r:=r+1) fun x=>?_
   refine lit_ok (r:=r+2) ?_
   exact hR x
  ·have e:xs.map (fun x=>(O.lit x).t)=(xs.map O.lit).map O.t:=by rw [List.map_map];rfl
   rw [e]
   refine inl_ok (r:=r+2) ?_
   refine fin (.inl (.name a p) (xs.map O.lit)) [a] ⟨⟨oa,fun o ho=>?_,?_⟩,fun y=>?_⟩
   ·obtain ⟨x,_,rfl⟩:=List.mem_map.mp ho;trivial
   ·rw [List.length_map,hx];exact (in3b hi).2.2
   ·have:(xs.map O.lit).flatMap O.nums=[]:=by rw [List.flatMap_map];exact List.flatMap_eq_nil_iff.mpr fun _ _=>rfl
    show y∈[(a:Int)]↔∃ n∈[a]++(xs.map O.lit).flatMap O.nums,(n:Int)=y
    rw [this];exact mem1
 have P_:Lab (sx T (r+4) c_l_condition_p [(68,kn),(37,.t (O.name a p).t),(58,.t (.int kd))] [(43,.ref 0)] (.pool::m') fun f _ _ mem=>retK k f mem):=⟨cond_p hn hp h1 hk⟩
 refine (?_:brK _ _ _)
 refine br (fun _=>?_) fun _=>?_
 ·refine take_ok (r:=r+3) (k:=2) (by decide) fun i hi=>?_
  refine (?_:brK _ _ _)
  refine br (fun _=>?_) fun _=>?_
  ·refine lit_ok (r:=r+2) ?_
   refine take_ok (r:=r+3) (k:=2) (by decide) fun j hj=>?_
   refine lit_ok (r:=r+2) ?_
   refine bin_ok (r:=r+2) ?_
   exact fin (.cmp .eq (.lit (.int 1)) (.lit (.int j))) [] ⟨⟨trivial,trivial⟩,fun y=>by simp [Cd.nums,O.nums]⟩
  ·exact P_
 ·exact P_
end
theorem O.ok_mono {o:O} {k k':Nat} (hk:k≤k') (h:o.ok k):o.ok k':=by cases o;(· trivial);exact ⟨Nat.lt_of_lt_of_le h.1 hk,h.2⟩
theorem Cd.ok_mono {c:Cd} {k k':Nat} (hk:k≤k') (h:c.ok k):c.ok k':=by
 cases c with
 | cmp op a b=>exact ⟨O.ok_mono hk h.1,O.ok_mono hk h.2⟩
 | bet a b c=>exact ⟨O.ok_mono hk h.1,O.ok_mono hk h.2.1,O.ok_mono hk h.2.2⟩
 | inl a xs=>exact ⟨O.ok_mono hk h.1,fun o ho=>O.ok_mono hk (h.2.1 o ho),h.2.2⟩
 | or op a b op' a' b'=>exact ⟨⟨O.ok_mono hk h.1.1,O.ok_mono hk h.1.2⟩,O.ok_mono hk h.2.1,O.ok_mono hk h.2.2⟩
structure ScOk (s:Sc):Prop where
 ixs:∀ x∈s.ixs,x.Ok
 ixl:s.ixs.length≤2
 on:∀ c,s.on=some c→c.ok (s.n+1)
 left:s.left=true→∃ c,s.on=some c
structure SI (ss:List Sc) (tl:List Tl):Prop where
 num:ss.map (·.n)=List.range ss.length
 ok:∀ s∈ss,ScOk s
 tls:tl.map (·.1)=(ss.filter fun s=>!s.left).flatMap fun s=>s.on.toList
 ns:∀ x∈tl,CondN 3 x
theorem SI.len {ss:List Sc} {tl:List Tl} (h:SI ss tl):tl.length≤ss.length:=by
 have e:=congrArg List.length h.tls
 rw [List.length_map] at e
 have:=tl_len (ss.filter fun s=>!s.left)
 have:=List.length_filter_le (fun s:Sc=>!s.left) ss
 lia
theorem SI.push {ss:List Sc} {tl:List Tl} {s:Sc} {u:List Tl} (h:SI ss tl) (hn:s.n=ss.length) (hs:ScOk s) (hu:u.map (·.1)=if s.left then [] else s.on.toList) (hx:∀ x∈u,CondN 3 x):SI (ss++[s]) (tl++u):=by
 refine ⟨by rw [List.map_append,h.num,List.length_append];simp [List.range_succ,hn],fun x hx=>?_,?_,fun x hx'=>?_⟩
 ·rcases List.mem_append.mp hx with hx | hx
  ·exact h.ok x hx
  ·cases List.mem_singleton.mp hx;exact hs
 ·rw [List.map_append,h.tls,hu,List.filter_append,List.flatMap_append,List.filter_cons]
  cases s.left<;>simp
 ·rcases List.mem_append.mp hx' with h' | h'
  ·exact h.ns x h'
  ·exact hx x h'
section
variable {T:Top} {r n K:Nat} {P:TV→Prop} {m:Mem} {k:AV→Mem→Prop} {kn:AV}
theorem nrmL_t {mem:Mem}:∀ {l:List TV} {k:List AV→Prop},k (l.map .t)→nrmL n mem (l.map .t) k
 | [],_,h=>h
 | a::l,k,h=>nrmL_t (l:=l) (k:=fun l=>k (.t a::l)) h
theorem nrmL_x {mem:Mem} {i:Nat} {v:TV} (hi:mem[i]?=some (.fz v)) {l:List TV} {k:List AV→Prop} (h:k ((l++[v]).map .t)):nrmL n mem (l.map .t++[.ref i]) k:=by
 induction l generalizing k with
 | nil=>exact nthK_ok hi h
 | cons a l ih=>exact ih (k:=fun l=>k (.t a::l)) h
noncomputable abbrev srcM (n:Nat) (ixs:List Ix) (lf:Bool) (on:TV):MO:=.inst 976 [15,57,22,41,79,58,59,60,112] [.t (.int n),.t (.str (als n)),.t (tab n ixs),.t (.lst [ctupT "a",ctupT "b",ctupT "c"]),.t .none,.t (.str (kindW lf)),.t .none,.t on,.t (.lst [])]
noncomputable def c_Source_mk:CS:=(.cons (.as (.att (.nm 76) 15) (.nm 15)) (.cons (.as (.att (.nm 76) 57) (.nm 57)) (.cons (.as (.att (.nm 76) 22) (.nm 22)) (.cons (.as (.att (.nm 76) 41) (.nm 41)) (.cons (.as (.att (.nm 76) 79) (.nm 79)) (.cons (.as (.att (.nm 76) 58) (.nm 58)) (.cons (.as (.att (.nm 76) 59) (.nm 59)) (.cons (.as (.att (.nm 76) 60) (.k .none)) (.cons (.as (.att (.nm 76) 112) (.lstF .nil)) .nil)))))))))
theorem o_Source_mk:okDf false 959 [true,true,true,true,true,true,true,true] [76,15,57,22,41,79,58,59] [] c_Source_mk=true:=by decide +kernel
noncomputable def c_table_source:CS:=(.cons (.as (.nm 41) (.comp (.tup (.cons (.att (.nm 37) 7) (.cons (.att (.nm 37) 56) (.cons (.att (.nm 37) 44) .nil)))) [37] true false (.att (.nm 22) 41) (.tt))) (.cons (.ret (.call 976 (.cons (.nm 15) (.cons (.ife (.te (.o1 .isN (.nm 57))) (.att (.nm 22) 7) (.nm 57)) (.cons (.nm 22) (.cons (.nm 41) (.cons (.k .none) (.cons (.nm 58) (.cons (.nm 59) .nil))))))))) .nil))
theorem p_table_source:okDf true 993 [true,true,true,true,true] [22,57,15,58,59] [] c_table_source=true:=by decide +kernel
theorem table_source_ok {ixs:List Ix} {lf:Bool} (h:k (.ref m.length) (m++[srcM n ixs lf .none])):CALL T (r+3) (.ref 993) [.t (tab n ixs),.t .none,.t (.int n),.t (.str (kindW lf))] m k:=by
 refine CALL.frame (ts:=[tab n ixs,.none,.int n,.str (kindW lf)]) ?_
 refine enter c_table_source [true,true,true,true,true] [22,57,15,58,59] [] true p_table_source ?_
 refine maker 959 c_Source_mk [true,true,true,true,true,true,true,true] [76,15,57,22,41,79,58,59] [] false (by decide +kernel) o_Source_mk ?_
 exact h
noncomputable def c_with_on:CS:=(.cons (.as (.att (.nm 43) 60) (.nm 60)) (.cons (.ret (.nm 43)) .nil))
theorem o_with_on:okDf false 1000 [true,true] [43,60] [] c_with_on=true:=by decide +kernel
noncomputable def c_l_sources_b:CS:=(.cons (.ifs (.te (.o2 .gtI (.nm 15) (.k (.int 0)))) (.cons (.un (.cons (.nm 11) (.cons (.nm 92) .nil)) (.call 1140 (.cons (.nm 43) (.cons (.nm 12) .nil)))) (.cons (.ex (.call 1000 (.cons (.nm 69) (.cons (.nm 11) .nil)))) (.cons (.ifs (.te (.o2 .eqS (.nm 58) (.k (.str "inner")))) (.cons (.ex (.app (.nm 74) (.tup (.cons (.nm 11) (.cons (.nm 92) .nil))))) .nil) .nil) .nil))) .nil) (.cons (.fzv 69) (.cons (.kp [43,74,12]) .nil)))
noncomputable def c_l_sources_t:CS:=(.cons (.as (.nm 69) (.call 993 (.cons (.fcall true 1121 (.cons (.nm 43) (.cons (.o2 .chr (.k (.str "xyz")) (.nm 15)) .nil))) (.cons (.k .none) (.cons (.nm 15) (.cons (.nm 58) .nil)))))) (.cons (.ex (.app (.nm 12) (.nm 69))) (.lab c_l_sources_b)))
noncomputable def c_l_sources:CS:=(.cons (.unt true (.cons (.nm 74) (.cons (.nm 12) .nil)) (.cons (.list .nil) (.cons (.list .nil) .nil))) (.cons (.for_ 3 [15] true true (.o2 .add (.k (.int 1)) (.fcall true 1109 (.cons (.nm 43) (.cons (.k (.int 3)) .nil)))) (.cons (.as (.nm 58) (.ife (.te (.o2 .eqI (.nm 15) (.k (.int 0)))) (.k (.str "inner")) (.fcall true 1116 (.cons (.nm 43) (.cons (.lstF (.cons (.k (.str "inner")) (.cons (.k (.str "left")) .nil))) .nil))))) (.lab c_l_sources_t))) (.cons (.ret (.tupM (.cons (.fz (.nm 12)) (.cons (.nm 74) .nil)))) .nil)))
theorem o_l_sources:okDf false 1185 [true] [43] [] c_l_sources=true:=by decide +kernel
theorem in3n {i:Nat} (h:i<3):i=0∨i=1∨i=2:=(in3 ⟨nC i,nLt (c:=3) h⟩).imp (fun e=>Int.ofNat.inj e) (Or.imp (fun e=>Int.ofNat.inj e) fun e=>Int.ofNat.inj e)
theorem chr_als {i:Nat} (h:i<3):(⟨#[120+(i:Int).toNat]⟩:Str)=als i:=by
 rcases in3n h with rfl | rfl | rfl<;>decide +kernel
theorem kinds_of {v:TV} (h:v∈([.str "inner",.str "left"]:List TV)):∃ lf:Bool,v=.str (kindW lf):=by
 simp only [List.mem_cons,List.not_mem_nil,or_false] at h
 rcases h with rfl | rfl
 ·exact ⟨false,rfl⟩
 ·exact ⟨true,rfl⟩
noncomputable abbrev lsM (ss:List Sc) (tl:List Tl):Mem:=[.pool,.lst ((ss.map Sc.t).map .t),.lst ((tl.map tlT).map .t)]
theorem sources_b {ss:List Sc} {tl:List Tl} {lf:Bool} {i:Nat} {ixs:List Ix} {k:Fl→Fr→Fr→Mem→Prop} (hi:i<3) (hl:ss.length=i) (h0:i=0→lf=false) (hI:SI ss tl) (hx:∀ x∈ixs,x.Ok) (hz:ixs.length≤2) (R:Fr→Fr→Mem→Prop) (hR:∀ ss' tl',ss'.length=i+1→SI ss' tl'→R [(43,.ref 0),(74,.ref 2),(12,.ref 1)] [] (lsM ss' tl')) :
  sx T (r+6) c_l_sources_b [(43,.ref 0),(74,.ref 2),(12,.ref 1),(15,.t (.int i)),(58,.t (.str (kindW lf))),(69,.ref 3)] [] [.pool,.lst ((ss.map Sc.t).map .t++[.ref 3]),.lst ((tl.map tlT).map .t),srcM i ixs lf .none] (loopK 3 R k):=by
 have fin:∀ {s:Sc} {u:List Tl} {fr:Fr},s.n=i→ScOk s→(u.map (·.1)=if s.left then [] else s.on.toList)→(∀ x∈u,CondN 3 x)→R [(43,.ref 0),(74,.ref 2),(12,.ref 1)] [] [.pool,.lst (((ss++[s]).map Sc.t).map .t),.lst (((tl++u).map tlT).map .t)]:=fun hn hs hu hx =>
  hR (ss++[_]) (tl++_) (by rw [List.length_append,hl];rfl) (hI.push (hn.trans hl.symm) hs hu hx)
 refine (?_:brK _ _ _)
 refine br (fun e=>?_) fun e=>?_
 ·have hk:KnAt [.pool,.lst ((ss.map Sc.t).map .t++[.ref 3]),.lst ((tl.map tlT).map .t),srcM i ixs lf .none] (.ref 1) (i+1):=by
   refine ⟨⟨Nat.succ_pos i,hi⟩,_,?_,.inl ⟨rfl,_,rfl⟩,fun v hv=>?_⟩
   ·rw [List.length_append,List.length_map,List.length_map,hl];rfl
   ·rcases List.mem_append.mp hv with hv | hv
    ·rw [List.map_map] at hv
     obtain ⟨s,hs,rfl⟩:=List.mem_map.mp hv
     have:s.n∈ss.map (·.n):=List.mem_map.mpr ⟨s,hs,rfl⟩
     rw [hI.num,List.mem_range] at this
     exact ⟨s.n,Nat.lt_succ_of_lt (hl▸this),.t s⟩
    ·cases List.mem_singleton.mp hv
     exact ⟨i,Nat.lt_succ_self i,fun _ _ h=>h,fun _ _ h=>h,fun _ _ h=>h⟩
  refine cond_kn (r:=r+1) hk fun c ns g hc=>?_
  refine enter c_with_on [true,true] [43,60] [] false o_with_on ?_
  have hs:ScOk ⟨i,lf,ixs,some c⟩:=⟨hx,hz,(fun c' h=>by cases h;exact hc.ok),fun _=>⟨c,rfl⟩⟩
  refine (?_:brK _ _ _)
  cases lf with
  | true =>
   refine brF (by decide +kernel) ?_
   refine nrmL_x (v:=Sc.t ⟨i,true,ixs,some c⟩) rfl ?_
   refine nrmL_t ?_
   have:=fin (s:=⟨i,true,ixs,some c⟩) (u:=[]) (fr:=[]) rfl hs rfl fun _ h=>nomatch h
   rw [List.append_nil,List.map_append] at this
   exact this
  | false =>
   refine brT' (by decide +kernel) ?_
   refine (?_:brK _ _ _)
   have:=hI.len
   refine brT' (short2 (Nat.le_trans hI.len (Nat.le_trans (Nat.le_of_eq hl) (Nat.le_trans (Nat.le_of_lt hi) (by decide))))) ?_
   refine nrmL_x (v:=Sc.t ⟨i,false,ixs,some c⟩) rfl ?_
   have e2:(tl.map tlT).map AV.t++[.t (tlT (c,ns))]=((tl++[(c,ns)]).map tlT).map .t:=by simp
   rw [show (List.map AV.t (List.map tlT tl)++[AV.t (.tup [c.t,.lst (ns.map .int)])])=((tl++[(c,ns)]).map tlT).map .t from e2]
   refine nrmL_t ?_
   have:=fin (s:=⟨i,false,ixs,some c⟩) (u:=[(c,ns)]) (fr:=[]) rfl hs rfl fun x h=>by cases List.mem_singleton.mp h;exact ⟨Cd.ok_mono hi hc.ok,hc.ns⟩
   rw [List.map_append (f:=Sc.t)] at this
   exact this
 ·have hi0:i=0:=by have e:=of_decide_eq_false e;exact Nat.eq_zero_of_not_pos fun h=>e (Int.ofNat_lt.mpr h)
  have hl0:=h0 hi0
  subst hl0
  refine nrmL_x (v:=Sc.t ⟨i,false,ixs,none⟩) rfl ?_
  refine nrmL_t ?_
  have:=fin (s:=⟨i,false,ixs,none⟩) (u:=[]) (fr:=[]) rfl ⟨hx,hz,(fun _ h=>nomatch h),fun h=>nomatch h⟩ rfl fun _ h=>nomatch h
  rw [List.append_nil,List.map_append] at this
  exact this
theorem sources_ok (hk:∀ ss tl,0<ss.length→ss.length≤3→SI ss tl→k (.ref 3) [.pool,.fz (.lst (ss.map Sc.t)),.lst ((tl.map tlT).map .t),.tup [.t (.lst (ss.map Sc.t)),.ref 2]]):CALL T (r+7) (.ref 1185) [.ref 0] [.pool] k:=by
 refine enter c_l_sources [true] [43] [] false o_l_sources ?_
 refine take_ok (r:=r+5) (k:=3) (by decide) fun v hv=>?_
 refine (?_:((0:Int)≤_∧_≤(1000:Int))∧_)
 refine ⟨(in3b hv).1,?_⟩
 refine (?_:gcOk 3 _ _)
 refine forR_ind (σ:=List Sc×List Tl) (fun _=>_) (fun _=>[]) (fun s=>lsM s.1 s.2) (fun i s=>s.1.length=i∧SI s.1 s.2) (fun s hI=>?_) (fun i s hi hI R hR=>?_) ([],[]) ⟨rfl,rfl,(fun _ h=>nomatch h),rfl,fun _ h=>nomatch h⟩
 ·obtain ⟨h1,h2⟩:=hI
  refine fzc_t ?_
  refine resL_t ?_
  exact hk s.1 s.2 (h1▸(in3b hv).2.1) (h1▸(in3b hv).2.2) h2
 ·obtain ⟨h1,h2⟩:=hI
  have hi3:i<3:=Nat.lt_of_lt_of_le hi (in3b hv).2.2
  have key:∀ lf:Bool,(i=0→lf=false)→Lab (sx T (r+6) c_l_sources_t [(43,.ref 0),(74,.ref 2),(12,.ref 1),(15,.t (.int i)),(58,.t (.str (kindW lf)))] [] (lsM s.1 s.2) (loopK 3 R (seqK (sx T (r+6) (.cons (.ret (.tupM (.cons (.fz (.nm 12)) (.cons (.nm 74) .nil)))) .nil)) fun f _ _ mem=>retK k f mem))):=fun lf h0=>by
   refine ⟨?_⟩
   refine (?_:(_∧(0:Int)≤_∧_<(3:Int))∧_)
   refine ⟨⟨rfl,nC i,nLt (c:=3) hi3⟩,?_⟩
   rw [chr_als hi3]
   refine table_ok (r:=r+2) fun ixs hx hz=>?_
   refine table_source_ok (r:=r+3) ?_
   refine (?_:brK _ _ _)
   refine brT' (short2 (by first | exact Nat.le_trans h2.len (Nat.le_trans (Nat.le_of_eq h1) (Nat.le_trans (Nat.le_of_lt hi3) (by decide))) | exact Nat.le_trans (Nat.le_of_eq h1) (Nat.le_trans (Nat.le_of_lt hi3) (by decide)))) ?_
   refine (?_:Lab _)
   exact ⟨sources_b hi3 h1 h0 h2 hx hz R fun ss' tl' h1 h2=>hR (ss',tl') ⟨h1,h2⟩⟩
  refine (?_:brK _ _ _)
  refine br (fun e=>?_) fun e=>?_
  ·exact key false fun _=>rfl
  ·refine one_ok (r:=r+4) (by decide) fun v hv=>?_
   obtain ⟨lf,rfl⟩:=kinds_of hv
   exact key lf fun h0=>by subst h0;exact absurd e (by decide)
end
noncomputable def fitB (found:List Sc) (s:Sc):Bool:=!s.left||(List.range s.n).all fun n=>(found.map fun s=>(s.n:Int)).any (·==(n:Int))
theorem sc_ne {x b:Sc} (h:¬ x.n=b.n):((b.n:Int) != (x.n:Int))=true:=bne_iff_ne.mpr fun e=>h (Int.ofNat.inj e).symm
theorem pickP {x:Sc} {l:List Sc} (h:(l.map (·.n)).Nodup) (hx:x∈l):l.Perm (x::l.filter fun y=>(y.n:Int) != (x.n:Int)):=by
 induction l with
 | nil=>cases hx
 | cons a l ih =>
  obtain ⟨h1,h2⟩:=List.nodup_cons.mp h
  have ne:∀ {b:Sc},b∈l→¬ a.n=b.n:=fun hb e=>h1 (List.mem_map.mpr ⟨_,hb,e.symm⟩)
  cases hx with
  | head=>rw [List.filter_cons,if_neg (by rw [bne_self_eq_false];exact Bool.false_ne_true),List.filter_eq_self.mpr fun b hb=>sc_ne (ne hb)]
  | tail _ hx =>
   rw [List.filter_cons,if_pos (sc_ne fun e=>ne hx e.symm)]
   exact ((ih h2 hx).cons a).trans (.swap _ _ _)
section
variable {T:Top} {r n K:Nat} {P:TV→Prop} {m:Mem} {k:AV→Mem→Prop} {ss:List Sc}
theorem compR_bool {turn:AV→Mem→(List TV→Mem→Prop)→Prop} {mem:Mem} {k:List TV→Mem→Prop} {n:Nat} (b:Nat→Bool) (h:∀ a,∀ R:List TV→Mem→Prop,R [.bool (b a)] mem→turn (.t (.int a)) mem R) (hk:k (((List.range n).map b).map .bool) mem):compL turn ((List.range n).map fun (n:Nat)=>AV.t (.int n)) [] mem k:=by
 refine compL_ind (fun n:Nat=>AV.t (.int n)) (fun l acc=>acc++(l.map b).map .bool=((List.range n).map b).map .bool) (fun acc h=>?_) (fun a l acc h' R hR=>?_) (List.range n) [] rfl rfl
 ·rw [List.map_nil,List.map_nil,List.append_nil] at h;rw [h];exact hk
 ·exact h a R (hR _ (by rw [List.append_assoc];exact h'))
noncomputable def c_l_order:CS:=(.cons (.unt true (.cons (.nm 12) (.cons (.nm 9) .nil)) (.cons (.o1 .list (.nm 14)) (.cons (.list .nil) .nil))) (.cons (.wh (.te (.o1 .nnil (.nm 9))) (.cons (.as (.nc 111) (.compH (.att (.nm 69) 15) [69] true (.nm 12) .tt)) (.cons (.as (.nm 126) (.comp (.nm 69) [69] true false (.nm 9) (.tor (.te (.o2 .eqS (.att (.nm 69) 58) (.k (.str "inner")))) (.tor (.te (.o1 .all (.comp (.o2 .inI (.nm 150) (.nc 111)) [150] true true (.att (.nm 69) 15) (.tt)))) .ff)))) (.cons (.as (.nc 69) (.fcall true 1116 (.cons (.nm 43) (.cons (.nm 126) .nil)))) (.cons (.ex (.app (.nm 12) (.nc 69))) (.cons (.as (.nm 9) (.comp (.nm 70) [70] true false (.nm 9) (.te (.o2 .neI (.att (.nm 70) 15) (.att (.nc 69) 15))))) (.cons (.kp [43,14,12,9]) (.cons (.kc []) .nil)))))))) (.cons (.ret (.nm 12)) .nil)))
theorem o_l_order:okDf false 1190 [true,true] [43,14] [111,69] c_l_order=true:=by decide +kernel
theorem order_ok (hz:ss.length≤10) (hn:ss.map (·.n)=List.range ss.length) (h:∀ os:List Sc,os.Perm ss→P (.lst (os.map Sc.t))):FN T (r+3) true 1190 [.lst (ss.map Sc.t)] P:=by
 refine enterF c_l_order [true,true] [43,14] [111,69] false o_l_order ?_
 refine ⟨20,?_⟩
 have ords:ss.Pairwise fun a b=>a.n<b.n:=List.pairwise_map.mp (by rw [hn];exact List.pairwise_lt_range)
 refine whL_ind (σ:=List Sc×List Sc) (fun s=>[(43,.ref 0),(14,.t (.lst (ss.map Sc.t))),(12,.ref 1),(9,.t (.lst (s.1.map Sc.t)))]) (fun _=>[]) (fun s=>[.pool,.lst ((s.2.map Sc.t).map .t)])
  (fun n s=>n=s.1.length∧s.1.Sublist ss∧(s.2++s.1).Perm ss) (fun n s hI W hW=>?_) 20 ss.length (ss,[]) (Nat.lt_of_le_of_lt hz (by decide)) ⟨rfl,List.Sublist.refl _,List.Perm.refl _⟩
 obtain ⟨left,found⟩:=s
 obtain ⟨h1,h2,h3⟩:=hI
 dsimp only at h1 h2 h3
 refine (?_:brK _ _ _)
 refine br (fun e=>?_) fun e=>?_
 ·have e0:∃ a l,left=a::l:=by
   have e:(!(left.map Sc.t).isEmpty)=true:=e
   cases left with | nil=>cases e | cons a l=>exact ⟨a,l,rfl⟩
  have nd:(found++left).map (·.n) |>.Nodup:=(h3.map _).nodup_iff.mpr (by rw [hn];exact List.nodup_range)
  have fit:left.filter (fitB found)≠[]:=by
   obtain ⟨a,l,rfl⟩:=e0
   have:fitB found a=true:=by
    delta fitB
    rw [Bool.or_eq_true,List.all_eq_true]
    refine .inr fun j hj=>?_
    have hj:=List.mem_range.mp hj
    have ha:a.n∈ss.map (·.n):=List.mem_map.mpr ⟨a,h2.subset (.head _),rfl⟩
    rw [hn,List.mem_range] at ha
    have hjm:j∈ss.map (·.n):=by rw [hn,List.mem_range];exact Nat.lt_trans hj ha
    obtain ⟨t,ht,rfl⟩:=List.mem_map.mp hjm
    rcases List.mem_append.mp (h3.mem_iff.mpr ht) with ht | ht
    ·exact List.any_eq_true.mpr ⟨_,List.mem_map.mpr ⟨t,ht,rfl⟩,by simp⟩
    ·have:=List.pairwise_cons.mp (ords.sublist h2)
     rcases List.mem_cons.mp ht with rfl | ht
     ·exact absurd hj (Nat.lt_irrefl _)
     ·exact absurd (Nat.lt_trans hj (this.1 t ht)) (Nat.lt_irrefl _)
   rw [List.filter_cons,if_pos this];exact List.cons_ne_nil _ _
  refine compL_one Sc.t (fun s=>.int s.n) (fun s _ R hR=>hR) ?_
  have eo:found.map (fun s=>TV.int s.n)=(found.map fun s=>(s.n:Int)).map .int:=by rw [List.map_map];rfl
  rw [eo]
  have hz1:left.length≤10:=Nat.le_trans h2.length_le hz
  have hz2:found.length≤10:=by have:=h3.length_eq;rw [List.length_append] at this;exact Nat.le_trans (Nat.le_add_right _ _) (Nat.le_trans (Nat.le_of_eq this) hz)
  refine compL_fil Sc.t Sc.t (fitB found) (fun s hs R hR=>?_) ?_
  ·refine (?_:brK _ _ _)
   have e1:(kindW s.left=="inner")=!s.left:=by cases s.left<;>decide +kernel
   refine br (fun e=>?_) fun e=>?_
   ·rw [if_pos (by delta fitB;rw [← e1,e];rfl)] at hR;exact hR
   ·have hsn:s.n∈ss.map (·.n):=List.mem_map.mpr ⟨s,h2.subset hs,rfl⟩
    rw [hn,List.mem_range] at hsn
    refine (?_:((0:Int)≤_∧_≤(1000:Int))∧_)
    refine ⟨⟨nC _,nLe (c:=1000) (Nat.le_trans (Nat.le_of_lt hsn) (Nat.le_trans hz (by decide)))⟩,?_⟩
    refine compR_bool (fun n=>(found.map fun s=>(s.n:Int)).any (·==(n:Int))) (fun a R hR=>by refine intM ?_;exact hR) ?_
    refine boolM ?_
    rw [allM]
    have e2:fitB found s=(List.range s.n).all fun n=>(found.map fun s=>(s.n:Int)).any (·==(n:Int)):=by delta fitB;rw [← e1,e,Bool.false_or]
    rw [show ((s.n:Int).toNat)=s.n from Int.toNat_natCast _,← e2]
    refine (?_:brK _ _ _)
    refine br (fun e=>?_) fun e=>?_
    ·rw [if_pos e] at hR;exact hR
    ·rw [if_neg (by rw [e];simp)] at hR;exact hR
  have hf:=List.length_filter_le (fitB found) left
  refine one_ok (r:=r) (by rw [List.length_map];exact ⟨List.length_pos_iff.mpr fit,by show (left.filter (fitB found)).length<1000;exact Nat.lt_of_le_of_lt (Nat.le_trans hf hz1) (by decide)⟩) fun v hv=>?_
  obtain ⟨o,ho,rfl⟩:=List.mem_map.mp hv
  have ho:=(List.mem_filter.mp ho).1
  refine (?_:brK _ _ _)
  refine brT' (short2 (Nat.le_trans hz2 (by decide))) ?_
  refine compL_fil Sc.t Sc.t (fun y=>(y.n:Int) != (o.n:Int)) (fun y hy R hR=>?_) ?_
  ·refine (?_:brK _ _ _)
   refine br (fun e=>?_) fun e=>?_
   ·rw [if_pos e] at hR;exact hR
   ·rw [if_neg (by rw [e];simp)] at hR;exact hR
  have pk:=pickP ((List.nodup_append.mp (List.map_append▸nd)).2.1) ho
  have:=hW _ (left.filter fun y=>(y.n:Int) != (o.n:Int),found++[o]) (by have:=pk.length_eq;rw [List.length_cons] at this;rw [h1];exact Nat.lt_of_succ_le (Nat.le_of_eq this.symm)) ⟨rfl,List.filter_sublist.trans h2,by
   show ((found++[o])++_).Perm ss
   rw [List.append_assoc]
   exact (List.Perm.append_left found pk.symm).trans h3⟩
  dsimp only at this
  rw [mapA] at this
  exact this
 ·have e:left=[]:=by
   have e:(!(left.map Sc.t).isEmpty)=false:=e
   cases left with | nil=>rfl | cons _ _=>cases e
  subst e
  rw [List.append_nil] at h3
  refine fzc_t ?_
  refine resL_t ?_
  exact h found h3
end
noncomputable def Bd.ok (k:Nat):Bd→Prop
 | .cmp p _ o=>(-1≤p∧p≤2)∧o.ok k
 | .inl p os=>(-1≤p∧p≤2)∧(∀ o∈os,o.ok k)∧os.length≤3
theorem col_place {k:Nat} {a:O} {n:Nat} (h:a.isCol n=true) (ha:a.ok k):∃ p,a=.name n p∧-1≤p∧p≤2:=by
 cases a with
 | lit _=>cases h
 | name m p =>
  have:(m:Int)=(n:Int):=beq_iff_eq.mp h
  cases Int.ofNat.inj this
  exact ⟨p,rfl,ha.2⟩
theorem cmpBds_of {k:Nat} {n:Nat} {op:Op} {a b:O} {x:Bd} (ha:a.ok k) (hb:b.ok k) (h:some x∈cmpBds n op a b):(∃ p,a=.name n p∧(-1≤p∧p≤2)∧x=.cmp p op b)∨∃ p,b=.name n p∧(-1≤p∧p≤2)∧x=.cmp p op.turn a:=by
 have one:∀ {a b:O} {op:Op},a.ok k→some x∈(match a.isCol n&&b.free n with | true=>[cmpBd a.place op b] | false=>[])→∃ p,a=.name n p∧(-1≤p∧p≤2)∧x=.cmp p op b:=fun {a b op} ha h=>by
  split at h
  ·rename_i e
   obtain ⟨p,rfl,hp⟩:=col_place (and_of e).1 ha
   have h:=List.mem_singleton.mp h
   refine ⟨p,rfl,hp,?_⟩
   unfold cmpBd at h
   split at h
   ·cases h
   ·cases h;rfl
  ·cases h
 rcases List.mem_append.mp h with h | h
 ·exact .inl (one ha h)
 ·exact .inr (one hb h)
theorem betBds_of {k:Nat} {n:Nat} {a lo hi:O} {x:Bd} (ha:a.ok k) (h:some x∈betBds n a lo hi):∃ p,a=.name n p∧(-1≤p∧p≤2)∧(x=.cmp p .ge lo∨x=.cmp p .le hi):=by
 unfold betBds at h
 split at h
 ·cases h
 ·rename_i e
  obtain ⟨p,rfl,hp⟩:=col_place e ha
  refine ⟨p,rfl,hp,?_⟩
  have one:∀ {o:O} {op:Op},some x∈(match o.free n with | true=>[cmpBd (O.name n p).place op o] | false=>[])→x=.cmp p op o:=fun {o op} h=>by
   split at h
   ·have h:=List.mem_singleton.mp h
    unfold cmpBd at h
    split at h
    ·cases h
    ·cases h;rfl
   ·cases h
  rcases List.mem_append.mp h with h | h
  ·exact .inl (one h)
  ·exact .inr (one h)
theorem inlBds_of {k:Nat} {n:Nat} {a:O} {xs:List O} {x:Bd} (ha:a.ok k) (h:some x∈inlBds n a xs):∃ p,a=.name n p∧(-1≤p∧p≤2)∧x=.inl p xs:=by
 delta inlBds at h
 split at h
 ·cases h
 ·rename_i e
  obtain ⟨p,rfl,hp⟩:=col_place (and_of (and_of e).1).1 ha
  cases List.mem_singleton.mp h
  exact ⟨p,rfl,hp,rfl⟩
theorem bds_ok {k:Nat} {c:Cd} {n:Nat} {x:Bd} (hc:c.ok k) (h:some x∈c.bds n):x.ok k:=by
 cases c with
 | cmp op a b =>
  have h:some x∈cmpBds n op a b:=by cases op<;>first | exact h | cases h
  rcases cmpBds_of hc.1 hc.2 h with ⟨p,_,hp,rfl⟩ | ⟨p,_,hp,rfl⟩
  ·exact ⟨hp,hc.2⟩
  ·exact ⟨hp,hc.1⟩
 | bet a lo hi =>
  obtain ⟨p,_,hp,h⟩:=betBds_of hc.1 h
  rcases h with rfl | rfl
  ·exact ⟨hp,hc.2.1⟩
  ·exact ⟨hp,hc.2.2⟩
 | inl a xs=>obtain ⟨p,_,hp,rfl⟩:=inlBds_of hc.1 h;exact ⟨hp,hc.2⟩
 | or op a b op' a' b'=>cases h
theorem ready_of {n:Nat} {ps:List Int} {l:List Tm} {x:Bd} (h:x∈readyBds n ps l):∃ m∈l,m.ready n ps=true∧some x∈m.c.bds n:=by
 obtain ⟨m,hm,hx⟩:=List.mem_flatMap.mp h
 obtain ⟨o,ho,e⟩:=List.mem_filterMap.mp hx
 have e:o=some x:=e
 subst e
 exact ⟨m,(List.mem_filter.mp hm).1,(List.mem_filter.mp hm).2,ho⟩
section
variable {T:Top} {r n K:Nat} {P:TV→Prop} {m:Mem} {ss:List Sc} {ons:List (Nat×List Tm)} {ts:List Tm}
theorem neg1 {v:Int} (h:0≤v):¬ (0:Int)≤-1 - v:=by omega
theorem pred1 {v:Int} (h:0≤v):Nat.pred (-(-1 - v)).toNat=v.toNat:=by
 obtain ⟨n,rfl⟩:=Int.eq_ofNat_of_zero_le h
 rw [show -(-1 - (n:Int))=((n+1:Nat):Int) by rw [Int.neg_sub,Int.sub_neg];rfl];rfl
theorem nthI_neg {α:Type} {g:α→TV} {l:List α} {v:Int} {k:AV→Prop} (h0:0≤v) (h1:v<l.length) (hz:l.length≤1000) (h:∀ a∈l,k (.t (g a))):nthI ((l.map g).map .t) (-1 - v) k:=by
 refine brF (decide_eq_false (neg1 h0)) ?_
 refine brT' (Nat.ble_eq_true_of_le (pred1 h0▸Nat.le_trans (Nat.le_of_lt (toLt ⟨h0,h1⟩)) hz)) ?_
 refine nth_ok (by rw [List.length_reverse,List.length_map,List.length_map,pred1 h0];exact toLt ⟨h0,h1⟩) fun a ha=>?_
 have hm:=List.mem_reverse.mp (List.mem_of_getElem? ha)
 rw [List.map_map] at hm
 obtain ⟨x,hx,rfl⟩:=List.mem_map.mp hm
 exact h x hx
noncomputable abbrev PathOk (bs:List Bd) (q:Pd×Jk):Prop:=(q.1=⟨.scan,none,[],none,none,none⟩∨Good bs q.1)∧0≤q.2.rows
noncomputable def bdsAt (ons:List (Nat×List Tm)) (ts:List Tm) (ss:List Sc) (i n:Nat):List Bd:=readyBds n ((ss.take i).map fun s=>(s.n:Int)) (onTerms ons ts n)
noncomputable def c_l_paths_i:CS:=(.cons (.for_ 0 [38] true false (.att (.att (.nm 69) 22) 120) (.cons (.as (.nm 127) (.o2 .addL (.nm 127) (.fcall false 770 (.cons (.nm 38) (.cons (.att (.nm 69) 22) (.cons (.nm 23) (.cons (.k (.bool false)) .nil))))))) (.cons (.kp [43,50,52,12,48,69,23,127]) .nil))) (.cons (.ex (.app (.nm 12) (.sub (.nm 127) (.o2 .sub (.o1 .neg (.k (.int 1))) (.fcall true 1109 (.cons (.nm 43) (.cons (.o1 .len (.nm 127)) .nil))))))) (.cons (.kp [43,50,52,12]) .nil)))
noncomputable def c_l_paths:CS:=(.cons (.as (.nm 12) (.list .nil)) (.cons (.for_ 0 [48] true true (.o1 .len (.nm 52)) (.cons (.as (.nm 69) (.sub (.nm 52) (.nm 48))) (.cons (.as (.nm 23) (.fmeth (.nm 50) 140 (.cons (.att (.nm 69) 15) (.cons (.comp (.att (.nm 70) 15) [70] true false (.o2 .upto (.nm 52) (.nm 48)) (.tt)) .nil)))) (.cons (.as (.nm 127) (.o2 .addL (.lstF (.cons (.fcall false 784 (.cons (.nm 69) .nil)) .nil)) (.fcall false 756 (.cons (.att (.nm 69) 22) (.cons (.nm 23) .nil))))) (.lab c_l_paths_i))))) (.cons (.ret (.nm 12)) .nil)))
theorem o_l_paths:okDf false 1195 [true,true,true] [43,50,52] [] c_l_paths=true:=by decide +kernel
theorem paths_i {x50 x52:TV} {s:Sc} {bs:List Bd} {found:List (Pd×Jk)} {some0:List (Pd×Jk)} {v48:AV} {K:Fl→Fr→Fr→Mem→Prop} (hs:ScOk s) (hb:∀ b∈bs,b.ok 3) (h0:∀ q∈some0,PathOk bs q) (hz:some0.length≤4) (hp:0<some0.length) (hf:found.length≤900)
  (hk:∀ q,PathOk bs q→K .next [(43,.ref 0),(50,.t x50),(52,.t x52),(12,.ref 1)] [] [.pool,.lst (((found++[q]).map pathT).map .t)]) :
  sx T (r+7) c_l_paths_i [(43,.ref 0),(50,.t x50),(52,.t x52),(12,.ref 1),(48,v48),(69,.t s.t),(23,.t (.lst (bs.map Bd.t))),(127,.t (.lst (some0.map pathT)))] [] [.pool,.lst ((found.map pathT).map .t)] K:=by
 have hb1:∀ b∈bs,-1≤b.place:=fun b h=>by have:=hb b h;cases b<;>exact this.1.1
 have hb2:∀ p os,Bd.inl p os∈bs→os.length≤1000:=fun p os h=>Nat.le_trans (hb _ h).2.2 (by decide)
 refine forL_ind (σ:=List (Pd×Jk)) (fun x=>.t (Ix.t x)) (fun sm=>[(43,.ref 0),(50,.t x50),(52,.t x52),(12,.ref 1),(48,v48),(69,.t s.t),(23,.t (.lst (bs.map Bd.t))),(127,.t (.lst (sm.map pathT)))]) (fun _=>[]) (fun _=>_) (fun l sm=>(∀ x∈l,x.Ok)∧(∀ q∈sm,PathOk bs q)∧sm.length+3 * l.length≤20∧0<sm.length) (fun sm hI=>?_) (fun x l sm hI R hR=>?_) s.ixs some0 mm ⟨hs.ixs,h0,by have:=hs.ixl;lia,hp⟩
 ·obtain ⟨_,h2,h3,h4⟩:=hI
  have hl:(sm.map pathT).length=sm.length:=List.length_map _
  refine take_ok (r:=r+6) (k:=((sm.map pathT).length:Int)) ⟨nLt (by rw [hl];exact h4),nLt (c:=1000) (by rw [hl];exact Nat.lt_of_le_of_lt (show sm.length≤20 from h3) (by decide))⟩ fun v hv=>?_
  refine nthI_neg (g:=pathT) (l:=sm) (v:=v) hv.1 (hl▸hv.2) (Nat.le_trans (show sm.length≤20 from h3) (by decide)) fun q hq=>?_
  refine (?_:brK _ _ _)
  refine brT' (short2 hf) ?_
  have:=hk q (h2 q hq)
  rw [mapA] at this;exact this
 ·obtain ⟨h1,h2,h3,h4⟩:=hI
  simp only [List.length_cons] at h3
  have hx:=h1 x (.head _)
  refine index_paths_ok (r:=r+2) hx hb1 hb2 fun qs hq hz=>?_
  refine (?_:_∧_)
  refine ⟨by rw [List.length_map,List.length_map];exact Nat.le_trans (Nat.add_le_add (Nat.le_trans (Nat.le_add_right _ _) h3) hz) (by decide),?_⟩
  have:=hR (sm++qs) ⟨fun y hy=>h1 y (.tail _ hy),fun q hq'=>?_,by rw [List.length_append];lia,by rw [List.length_append];exact Nat.lt_of_lt_of_le h4 (Nat.le_add_right _ _)⟩
  ·rw [List.map_append (f:=pathT)] at this;exact this
  ·rcases List.mem_append.mp hq' with h | h
   ·exact h2 q h
   ·exact ⟨.inr (hq q h).1,(hq q h).2⟩
theorem paths_ok (hz:ss.length≤10) (hs:∀ s∈ss,ScOk s) (hl:∀ s∈ss,(onTerms ons ts s.n).length≤100) (hc:∀ s∈ss,∀ m∈onTerms ons ts s.n,m.c.ok 3)
  (h:∀ qs:List (Pd×Jk),qs.length=ss.length→(∀ (i:Nat) q s,qs[i]?=some q→ss[i]?=some s→PathOk (bdsAt ons ts ss i s.n) q)→P (.lst (qs.map pathT))):FN T (r+8) true 1195 [condsT ons ts,.lst (ss.map Sc.t)] P:=by
 refine enterF c_l_paths [true,true,true] [43,50,52] [] false o_l_paths ?_
 have hl0:(ss.map Sc.t).length=ss.length:=List.length_map _
 refine (?_:((0:Int)≤_∧_≤(1000:Int))∧_)
 refine ⟨⟨nC _,by show ((ss.map Sc.t).length:Int)≤1000;rw [hl0];exact nLe (c:=1000) (Nat.le_trans hz (by decide))⟩,?_⟩
 refine forR_ind (σ:=List (Pd×Jk)) (fun _=>[(43,.ref 0),(50,.t (condsT ons ts)),(52,.t (.lst (ss.map Sc.t))),(12,.ref 1)]) (fun _=>[]) (fun qs=>[.pool,.lst ((qs.map pathT).map .t)]) (fun i qs=>qs.length=i∧∀ (i:Nat) q s,qs[i]?=some q→ss[i]?=some s→PathOk (bdsAt ons ts ss i s.n) q) (fun qs hI=>?_) (fun i qs hi hI R hR=>?_) [] ⟨rfl,fun _ _ _ h=>nomatch h⟩
 ·refine fzc_t ?_
  refine resL_t ?_
  exact h qs (by rw [hI.1,Int.toNat_natCast,hl0]) hI.2
 ·obtain ⟨h1,h2⟩:=hI
  rw [Int.toNat_natCast,hl0] at hi
  have hsi:=List.getElem?_eq_getElem hi
  generalize ss[i]=s at hsi
  have hsm:=List.mem_of_getElem? hsi
  refine nthN_t (g:=Sc.t) (l:=ss) (i:=i) hi (Nat.le_trans hz (by decide)) fun a ha=>?_
  rw [hsi] at ha;cases ha
  refine (?_:((0:Int)≤_∧_≤(_:Int))∧_)
  refine ⟨⟨nC i,by show (i:Int)≤((ss.map Sc.t).length:Int);rw [hl0];exact nLe (Nat.le_of_lt hi)⟩,?_⟩
  have et:(ss.map Sc.t).take (i:Int).toNat=(ss.take i).map Sc.t:=by rw [Int.toNat_natCast,List.map_take]
  rw [et]
  refine compL_one Sc.t (fun s=>.int s.n) (fun s _ R hR=>hR) ?_
  have eo:(ss.take i).map (fun s=>TV.int s.n)=((ss.take i).map fun s=>(s.n:Int)).map .int:=by rw [List.map_map];rfl
  rw [eo]
  refine ready_ok (r:=r) (n:=s.n) (hl s hsm) (hc s hsm) ?_
  have hb:∀ b∈bdsAt ons ts ss i s.n,b.ok 3:=fun b hb=>by obtain ⟨m,hm,_,hx⟩:=ready_of hb;exact bds_ok (hc s hsm m hm) hx
  refine scan_ok (r:=r+4) (s:=s) fun j hj=>?_
  refine rowid_paths_ok (r:=r+4) (bs:=bdsAt ons ts ss i s.n) (fun p os h=>Nat.le_trans (hb _ h).2.2 (by decide)) (fun b h=>by have:=hb b h;cases b<;>exact this.1.1) fun qs' hq hz'=>?_
  refine (?_:_∧_)
  refine ⟨by rw [List.length_map];simp;lia,?_⟩
  refine (?_:Lab _)
  refine ⟨paths_i (some0:=(⟨.scan,none,[],none,none,none⟩,j)::qs') (hs s hsm) hb (fun q hq'=>?_) (by simp only [List.length_cons];lia) (by simp) (Nat.le_trans (Nat.le_of_eq h1) (Nat.le_trans (Nat.le_of_lt hi) (Nat.le_trans hz (by decide)))) fun q hq'=>?_⟩
  ·rcases List.mem_cons.mp hq' with rfl | h
   ·exact ⟨.inl rfl,hj⟩
   ·exact ⟨.inr (hq q h).1,(hq q h).2⟩
  ·refine hR (qs++[q]) ⟨by rw [List.length_append,h1];rfl,fun i2 q2 s2 e1 e2=>?_⟩
   by_cases hi2:i2<qs.length
   ·rw [List.getElem?_append_left hi2] at e1;exact h2 i2 q2 s2 e1 e2
   ·have hi3:=get_lt e1
    rw [List.length_append,List.length_singleton] at hi3
    have hi4:i2=qs.length:=Nat.le_antisymm (Nat.le_of_lt_succ hi3) (Nat.not_lt.mp hi2)
    subst hi4
    rw [List.getElem?_append_right (Nat.le_refl _),Nat.sub_self] at e1
    cases e1
    rw [h1,hsi] at e2;cases e2
    rw [h1];exact hq'
end
section
variable {T:Top} {r n K:Nat} {P:TV→Prop} {m:Mem} {k:AV→Mem→Prop}
noncomputable def c_l_pool_b:CS:=(.cons (.as (.nm 63) (.o2 .max (.o1 .int (.nm 62)) (.o1 .int (.o2 .sub (.o1 .neg (.k (.int 1))) (.nm 62))))) (.cons (.as (.nm 64) (.o2 .mod (.o1 .int (.o2 .mul (.o2 .add (.o2 .add (.o2 .add (.o2 .mod (.o1 .int (.nm 63)) (.k (.int 2147483629))) (.o2 .mul (.o2 .mul (.k (.int 7919)) (.nm 0)) (.nm 0))) (.o2 .mul (.k (.int 31)) (.nm 0))) (.k (.int 17))) (.k (.int 48271)))) (.k (.int 2147483647)))) (.cons (.ret (.mkp (.list (.cons (.o2 .mul (.nm 63) (.o1 .int (.o2 .geI (.nm 63) (.o2 .pow (.k (.int 10)) (.k (.int 18)))))) (.cons (.nm 64) .nil))))) .nil)))
noncomputable def c_l_pool:CS:=(.cons (.as (.nm 62) (.k (.int 0))) (.cons (.ifs (.te (.o2 .ltI (.nm 0) (.o1 .len (.nm 61)))) (.cons (.as (.nm 62) (.sub (.nm 61) (.nm 0))) .nil) .nil) (.lab c_l_pool_b)))
theorem o_l_pool:okDf false 1102 [true,true] [61,0] [] c_l_pool=true:=by decide +kernel
theorem bit_small (b:Bool):(if b=true then (1:Int) else 0).natAbs<2 ^ 64:=by cases b<;>decide
theorem pool_b {c:Int} {x:TV} (h:k (.ref 0) [.pool]):sx T r c_l_pool_b [(61,.t x),(0,.t (.int 0)),(62,.t (.int c))] [] [] fun f _ _ mem=>retK k f mem:=by
 refine (?_:_≠_∧_);refine ⟨by decide,?_⟩
 refine (?_:IntMulOk _ _∧_);refine ⟨mulSmall (.inl (by decide)),?_⟩
 refine (?_:IntMulOk _ _∧_);refine ⟨mulSmall (.inr (by decide)),?_⟩
 refine (?_:IntMulOk _ _∧_);refine ⟨mulSmall (.inl (by decide)),?_⟩
 refine (?_:IntMulOk _ _∧_);refine ⟨mulSmall (.inr (by decide)),?_⟩
 refine (?_:_≠_∧_);refine ⟨by decide,?_⟩
 refine (?_:((0:Int)≤_∧_)∧_);refine ⟨⟨by decide,by decide +kernel⟩,?_⟩
 refine (?_:IntMulOk _ _∧_);refine ⟨mulSmall (.inr (bit_small _)),?_⟩
 refine (?_:((0:Int)≤_∧_<(2147483647:Int))∧_);refine ⟨fm _ (by decide),?_⟩
 exact h
theorem pool_ok {ns:List Int} (hz:ns.length≤63) (h:k (.ref 0) [.pool]):CALL T (r+1) (.ref 1102) [.t (.lst (ns.map .int)),.t (.int 0)] [] k:=by
 refine enter c_l_pool [true,true] [61,0] [] false o_l_pool ?_
 have hl:(ns.map TV.int).length=ns.length:=List.length_map _
 refine (?_:brK _ _ _)
 refine br (fun e=>?_) fun _=>?_
 ·have e:(0:Int)<((ns.map TV.int).length:Int):=of_decide_eq_true e
  refine nthI_t (g:=TV.int) (l:=ns) (i:=0) (by decide) (by rw [hl] at e;exact e) (Nat.le_trans hz (by decide)) fun c _=>?_
  exact ⟨pool_b h⟩
 ·exact ⟨pool_b h⟩
end
noncomputable def Bd.holds (rows:Rows) (n:Nat):Bd→Prop
 | .cmp p op o=>yes op (rows n p) (evO rows o)=true
 | .inl p os=>(os.any fun o=>yes .eq (rows n p) (evO rows o))=true
theorem peq_comm (a b:Int×Int):peq a b=peq b a:=by delta peq;rw [show decide (a.1=b.1)=decide (b.1=a.1) from decide_eq_decide.mpr eq_comm,show decide (a.2=b.2)=decide (b.2=a.2) from decide_eq_decide.mpr eq_comm]
theorem yes_turn (op:Op) (x y:V):yes op x y=yes op.turn y x:=by
 have h:∀ a b,cmpP op a b=cmpP op.turn b a:=fun a b=>by cases op<;>simp [cmpP,Op.turn,peq_comm a b]
 delta yes cmpV
 cases rank x with
 | none=>cases rank y<;>rfl
 | some a=>cases rank y with
  | none=>rfl
  | some b=>exact h a b
theorem bd_holds {rows:Rows} {n k:Nat} {c:Cd} {x:Bd} (hc:c.ok k) (h:some x∈c.bds n) (he:evC rows c=true):x.holds rows n:=by
 cases c with
 | cmp op a b =>
  have h:some x∈cmpBds n op a b:=by cases op<;>first | exact h | cases h
  rcases cmpBds_of hc.1 hc.2 h with ⟨p,rfl,hp,rfl⟩ | ⟨p,rfl,hp,rfl⟩
  ·exact he
  ·exact (yes_turn op _ _).symm.trans he
 | bet a lo hi =>
  obtain ⟨p,rfl,hp,h⟩:=betBds_of hc.1 h
  obtain ⟨h1,h2⟩:=and_of he
  rcases h with rfl | rfl
  ·exact h1
  ·exact h2
 | inl a xs=>obtain ⟨p,rfl,hp,rfl⟩:=inlBds_of hc.1 h;exact he
 | or op a b op' a' b'=>cases h
theorem eqOk_of {rows:Rows} {n:Nat} {os:List O} {ps:List Int} (h:∀ (i:Nat) o p,os[i]?=some o→ps[i]?=some p→yes .eq (rows n p) (evO rows o)=true):eqOk rows n os ps=true:=by
 induction os generalizing ps with
 | nil=>rfl
 | cons o os ih=>cases ps with
  | nil=>rfl
  | cons p ps =>
   show (_&&_)=true
   rw [h 0 o p rfl rfl,ih fun i o p ho hp=>h (i+1) o p ho hp];rfl
theorem good_in {rows:Rows} {n:Nat} {bs:List Bd} {q:Pd} (g:Good bs q) (h:∀ b∈bs,b.holds rows n):inPath rows n q:=by
 refine .inr ⟨eqOk_of fun i o p ho hp=>h _ (g.eqs i o p ho hp),?_⟩
 by_cases e:q.eqs.length=q.places.length
 ·exact .inl e
 ·have hl:q.eqs.length<q.places.length:=by have:=g.len;lia
  have hp:=List.getElem?_eq_getElem hl
  generalize q.places[q.eqs.length]=p at hp
  refine .inr ⟨p,hp,?_⟩
  cases hi:q.inl with
  | some os=>obtain ⟨p',e,hb⟩:=g.inl os hi;rw [hp] at e;cases e;exact h _ hb
  | none =>
   constructor
   ·cases hq:q.low with
    | none=>rfl
    | some y=>obtain ⟨p',e,hb⟩:=g.low y hq;rw [hp] at e;cases e;exact h _ hb
   ·cases hq:q.high with
    | none=>rfl
    | some y=>obtain ⟨p',e,hb⟩:=g.high y hq;rw [hp] at e;cases e;exact h _ hb
theorem good_ok {k:Nat} {bs:List Bd} {q:Pd} (g:Good bs q) (h:∀ b∈bs,b.ok k):q.Ok k:=by
 refine ⟨fun p hp=>?_,g.len,?_,fun o ho=>?_,?_,?_,fun l hl=>?_⟩
 ·unfold Pd.places at hp
  cases e:q.ix with
  | none=>rw [e] at hp;cases List.mem_singleton.mp hp;decide
  | some x=>rw [e] at hp;obtain ⟨c,hc,rfl⟩:=List.mem_map.mp hp;exact (g.ixs x e).cols c hc
 ·unfold Pd.places
  cases e:q.ix with
  | none=>decide
  | some x=>show (x.cols.map _).length≤3;rw [List.length_map];exact (g.ixs x e).len
 ·obtain ⟨i,hi,rfl⟩:=List.getElem_of_mem ho
  exact (h _ (g.eqs i _ _ (List.getElem?_eq_getElem hi) (List.getElem?_eq_getElem (Nat.lt_of_lt_of_le hi g.len)))).2
 ·cases hq:q.low with
  | none=>trivial
  | some y=>obtain ⟨p',e,hb⟩:=g.low y hq;exact (h _ hb).2
 ·cases hq:q.high with
  | none=>trivial
  | some y=>obtain ⟨p',e,hb⟩:=g.high y hq;exact (h _ hb).2
 ·obtain ⟨p',e,hb⟩:=g.inl l hl;exact (h _ hb).2.1
noncomputable def levB (os:List Int) (i:Nat) (m:Tm):Bool:=(!m.const&&(List.range i).all fun j=>!m.known (os.take (j+1)))&&m.known (os.take (i+1))
theorem lefts_eq {ts:List Tm} {os:List Int} (i:Nat):lefts ts os i=ts.filter fun m=>!m.const&&(List.range i).all fun j=>!m.known (os.take (j+1)):=by
 induction i with
 | zero=>exact List.filter_congr fun m _=>(Bool.and_true _).symm
 | succ i ih =>
  show (lefts ts os i).filter _=_
  rw [ih,List.filter_filter]
  refine List.filter_congr fun m _=>?_
  rw [List.range_succ,List.all_append,Bool.and_comm,Bool.and_assoc]
  simp
theorem levels_eq {ts:List Tm} {os:List Int} {i:Nat}:levelTs ts os i=ts.filter (levB os i):=by
 delta levelTs
 rw [lefts_eq,List.filter_filter]
 exact List.filter_congr fun m _=>Bool.and_comm _ _
theorem any1 {n x:Int} (h:([n]:List Int).any (·==x)=true):(x==n)=true:=by
 simp only [List.any_cons,List.any_nil,Bool.or_false,beq_iff_eq] at h ⊢;exact h.symm
theorem levB_eq {os:List Int} {i:Nat} {n:Int} {m:Tm} (nd:os.Nodup) (hi:os[i]?=some n):levB os i m=(m.ms.any (·==n)&&m.known (os.take (i+1))):=by
 have hlt:=(List.getElem?_eq_some_iff.mp hi).1
 have split:os.take (i+1)=os.take i++[n]:=by rw [List.take_add_one,hi];rfl
 delta levB
 rw [Bool.eq_iff_iff]
 simp only [Bool.and_eq_true]
 constructor
 ·rintro ⟨⟨h1,h2⟩,h3⟩
  refine ⟨?_,h3⟩
  rw [List.any_eq_true]
  have h3':=List.all_eq_true.mp h3
  rcases Nat.eq_zero_or_pos i with h0 | h0
  ·subst h0
   cases hm:m.ms with
   | nil=>simp [Tm.const,hm] at h1
   | cons x l =>
    have:=h3' x (by rw [hm];exact .head _)
    rw [split] at this
    exact ⟨x,.head _,any1 this⟩
  ·have h4:=List.all_eq_true.mp h2 (i - 1) (List.mem_range.mpr (Nat.sub_lt h0 Nat.one_pos))
   rw [Nat.sub_add_cancel h0] at h4
   have h4:¬ (m.ms.all fun x=>(os.take i).any (·==x))=true:=by simpa [Tm.known] using h4
   rw [List.all_eq_true] at h4
   obtain ⟨x,h4⟩:=Classical.not_forall.mp h4
   obtain ⟨hx,h5⟩:=Classical.not_imp.mp h4
   have:=h3' x hx
   rw [split,List.any_append,Bool.or_eq_true] at this
   rcases this with h | h
   ·exact absurd h h5
   ·exact ⟨x,hx,any1 h⟩
 ·rintro ⟨h1,h2⟩
  obtain ⟨x,hx,e⟩:=List.any_eq_true.mp h1
  have e:x=n:=beq_iff_eq.mp e
  subst e
  refine ⟨⟨?_,?_⟩,h2⟩
  ·delta Tm.const
   cases hm:m.ms with
   | nil=>rw [hm] at hx;cases hx
   | cons _ _=>simp;lia
  ·rw [List.all_eq_true]
   intro j hj
   have hj:=List.mem_range.mp hj
   rw [Bool.not_eq_true']
   cases hk:m.known (os.take (j+1)) with
   | false=>rfl
   | true =>
    have:=List.all_eq_true.mp hk x hx
    obtain ⟨y,hy,e⟩:=List.any_eq_true.mp this
    have e:y=x:=beq_iff_eq.mp e
    subst e
    obtain ⟨i2,h3,h4⟩:=List.getElem_of_mem hy
    rw [List.getElem_take] at h4
    rw [List.length_take] at h3
    have h5:os[i]?=os[i2]?:=by rw [hi,List.getElem?_eq_getElem (Nat.lt_of_lt_of_le h3 (Nat.min_le_right _ _)),h4]
    have:=(List.getElem?_inj hlt nd).mp h5
    exact absurd (Nat.lt_of_lt_of_le h3 (Nat.min_le_left _ _)) (this▸Nat.not_lt.mpr hj)
theorem filt {p:Tm→Bool} {q:Tl→Bool} {ts:List Tm}:∀ {tl:List Tl},ts.map (·.c)=tl.map (·.1)→(∀ m∈ts,∀ x∈tl,m.c=x.1→p m=q x)→(ts.filter p).map (·.c)=(tl.filter q).map (·.1):=by
 induction ts with
 | nil=>intro tl e _;cases tl with | nil=>rfl | cons _ _=>cases e
 | cons m ts ih =>
  intro tl e h
  cases tl with
  | nil=>cases e
  | cons x tl =>
   obtain ⟨e1,e2⟩:=List.cons.inj e
   have:=ih e2 fun m hm x hx=>h m (.tail _ hm) x (.tail _ hx)
   rw [List.filter_cons,List.filter_cons,h m (.head _) x (.head _) e1]
   cases q x with
   | true=>rw [if_pos rfl,if_pos rfl,List.map_cons,List.map_cons,this];exact congrArg (·::_) e1
   | false=>exact this
theorem same_nil {a b:List Int} (h:∀ x,x∈a↔x∈b):((a.length:Int)==0)=b.isEmpty:=by
 cases a with
 | nil =>
  cases b with
  | nil=>rfl
  | cons y _=>exact absurd ((h y).mpr (.head _)) (by simp)
 | cons x _ =>
  cases b with
  | nil=>exact absurd ((h x).mp (.head _)) (by simp)
  | cons _ _=>simp;lia
theorem same_any {a b:List Int} {f:Int→Bool} (h:∀ x,x∈a↔x∈b):a.any f=b.any f:=by
 rw [Bool.eq_iff_iff,List.any_eq_true,List.any_eq_true];exact ⟨fun ⟨x,hx,e⟩=>⟨x,(h x).mp hx,e⟩,fun ⟨x,hx,e⟩=>⟨x,(h x).mpr hx,e⟩⟩
theorem same_all {a b:List Int} {f:Int→Bool} (h:∀ x,x∈a↔x∈b):a.all f=b.all f:=by
 rw [Bool.eq_iff_iff,List.all_eq_true,List.all_eq_true];exact ⟨fun q x hx=>q x ((h x).mpr hx),fun q x hx=>q x ((h x).mp hx)⟩
theorem n_inj {a b:Sc} {l:List Sc} (nd:(l.map (·.n)).Nodup) (ha:a∈l) (hb:b∈l) (e:a.n=b.n):a=b:=by
 induction l with
 | nil=>cases ha
 | cons c l ih =>
  rw [List.map_cons,List.nodup_cons] at nd
  have no:∀ {x:Sc},x∈l→x.n≠c.n:=fun hx e=>nd.1 (List.mem_map.mpr ⟨_,hx,e⟩)
  cases List.mem_cons.mp ha with
  | inl h1=>cases List.mem_cons.mp hb with
   | inl h2=>rw [h1,h2]
   | inr h2=>exact absurd (by rw [← e,h1]) (no h2)
  | inr h1=>cases List.mem_cons.mp hb with
   | inl h2=>exact absurd (by rw [e,h2]) (no h1)
   | inr h2=>exact ih nd.2 h1 h2
structure Drawn (ss os:List Sc) (TL:List Tl) (ons:List (Nat×List Tm)) (ts:List Tm):Prop where
 nd:(ss.map (·.n)).Nodup
 ok:∀ s∈ss,ScOk s
 con:∀ s∈ss,∀ c,s.on=some c→c.ok ss.length
 cts:∀ x∈TL,x.1.ok ss.length
 ns:∀ x∈TL,∀ y,y∈x.2↔∃ n∈x.1.nums,(n:Int)=y
 perm:os.Perm ss
 onsE:ons.map (fun q=>(q.1,q.2.map (·.c)))=(ss.filter (·.left)).map (fun s=>(s.n,s.on.toList))
 tsE:ts.map (·.c)=TL.map (·.1)
 ook:∀ q∈ons,∀ m∈q.2,m.Ok
 tok:∀ m∈ts,m.Ok
section
variable {ss os:List Sc} {TL:List Tl} {ons:List (Nat×List Tm)} {ts:List Tm} {qs:List (Pd×Jk)} {lv:List Lv} {rows:Rows}
theorem Drawn.left (D:Drawn ss os TL ons ts) {s:Sc} (hs:s∈ss):if s.left then ∃ c q,s.on=some c∧ons.find? (fun q=>decide ((q.1:Int)=(s.n:Int)))=some q∧q.2.map (·.c)=[c] else ons.find? (fun q=>decide ((q.1:Int)=(s.n:Int)))=none:=by
 cases e:ons.find? (fun q=>decide ((q.1:Int)=(s.n:Int))) with
 | some q =>
  have h1:=List.mem_of_find?_eq_some e
  have h2:(q.1:Int)=(s.n:Int):=of_decide_eq_true (List.find?_some (p:=fun q:Nat×List Tm=>decide ((q.1:Int)=(s.n:Int))) e)
  have h3:(q.1,q.2.map (·.c))∈(ss.filter (·.left)).map (fun s=>(s.n,s.on.toList)):=D.onsE▸List.mem_map.mpr ⟨q,h1,rfl⟩
  obtain ⟨t,ht,e2⟩:=List.mem_map.mp h3
  obtain ⟨ht1,ht2⟩:=List.mem_filter.mp ht
  have e3:t.n=q.1:=congrArg Prod.fst e2
  have e4:t.on.toList=q.2.map (·.c):=congrArg Prod.snd e2
  have:t=s:=n_inj D.nd ht1 hs (by lia)
  subst this
  rw [if_pos ht2]
  obtain ⟨c,hc⟩:=(D.ok t hs).left ht2
  exact ⟨c,q,hc,rfl,by rw [← e4,hc];rfl⟩
 | none =>
  cases hl:s.left with
  | false=>rfl
  | true =>
   have h3:(s.n,s.on.toList)∈ons.map (fun q=>(q.1,q.2.map (·.c))):=D.onsE▸List.mem_map.mpr ⟨s,List.mem_filter.mpr ⟨hs,hl⟩,rfl⟩
   obtain ⟨q,hq,e2⟩:=List.mem_map.mp h3
   have e3:q.1=s.n:=congrArg Prod.fst e2
   exact absurd (decide_eq_true (by rw [e3])) (List.find?_eq_none.mp e q hq)
theorem Drawn.same (D:Drawn ss os TL ons ts) {m:Tm} {x:Tl} (hm:m∈ts) (hx:x∈TL) (e:m.c=x.1) (y:Int):y∈m.ms↔y∈x.2:=by rw [(D.tok m hm).mem,D.ns x hx,e]
theorem Drawn.ndI (D:Drawn ss os TL ons ts):(os.map fun s=>(s.n:Int)).Nodup:=by
 have h:=(D.perm.map (·.n)).nodup_iff.mpr D.nd
 have e:os.map (fun s=>(s.n:Int))=(os.map (·.n)).map fun n:Nat=>(n:Int):=by rw [List.map_map];rfl
 rw [e]
 exact List.Pairwise.map _ (fun a b hab=>fun h=>hab (by exact_mod_cast h)) h
theorem Drawn.stand (D:Drawn ss os TL ons ts) (hl:lv.length=os.length) (h:∀ i l,lv[i]?=some l→LvOk os qs ons ts i l):StandOk lv ((ts.filter Tm.const).map (·.c)) os TL:=by
 have at_:∀ {i:Nat} {l:Lv} {s:Sc},lv[i]?=some l→os[i]?=some s→LvOk os qs ons ts i l∧l.s=s∧s∈ss:=fun h1 h2=>by
  have:=h _ _ h1
  rw [this.s] at h2;cases h2
  exact ⟨this,rfl,D.perm.mem_iff.mp (List.mem_of_getElem? this.s)⟩
 refine ⟨filt D.tsE fun m hm x hx e=>same_nil (D.same hm hx e),hl,fun i l s h1 h2=>?_,fun i l s h1 h2 h3=>?_,fun i l s h1 h2 h3=>?_⟩
 ·obtain ⟨L,rfl,hs⟩:=at_ h1 h2
  rw [L.here,levels_eq]
  refine filt D.tsE fun m hm x hx e=>?_
  have hi:(os.map fun s=>(s.n:Int))[i]?=some (l.s.n:Int):=by rw [List.getElem?_map,h2];rfl
  rw [levB_eq D.ndI hi]
  delta due Tm.known
  rw [← List.map_take,same_any (D.same hm hx e),same_all (D.same hm hx e)]
 ·obtain ⟨L,rfl,hs⟩:=at_ h1 h2
  have:=D.left hs
  rw [if_pos h3] at this
  obtain ⟨c,q,h4,h5,h6⟩:=this
  refine ⟨c,h4,by rw [L.on];delta onGet;rw [h5];exact h6,?_⟩
  rw [L.left]
  delta leftB
  rw [List.any_map,List.any_eq_true]
  exact ⟨q,List.mem_of_find?_eq_some h5,by have:=of_decide_eq_true (List.find?_some (p:=fun q:Nat×List Tm=>decide ((q.1:Int)=(l.s.n:Int))) h5);simpa using this⟩
 ·obtain ⟨L,rfl,hs⟩:=at_ h1 h2
  have:=D.left hs
  rw [if_neg (by rw [h3];simp)] at this
  refine ⟨by rw [L.on];delta onGet;rw [this];rfl,?_⟩
  rw [L.left]
  delta leftB
  rw [List.any_map,List.any_eq_false]
  intro q hq
  have:=List.find?_eq_none.mp this q hq
  simpa using this
theorem Drawn.terms (D:Drawn ss os TL ons ts) {s:Sc} (hs:s∈ss):∀ m∈onTerms ons ts s.n,m.c.ok ss.length:=fun m hm=>by
 delta onTerms at hm
 have:=D.left hs
 cases hl:s.left with
 | true =>
  rw [if_pos hl] at this
  obtain ⟨c,q,h4,h5,h6⟩:=this
  rw [h5] at hm
  have:m.c∈q.2.map (·.c):=List.mem_map.mpr ⟨m,hm,rfl⟩
  rw [h6] at this
  rw [List.mem_singleton.mp this]
  exact D.con s hs c h4
 | false =>
  rw [if_neg (by rw [hl];simp)] at this
  rw [this] at hm
  have:m.c∈TL.map (·.1):=D.tsE▸List.mem_map.mpr ⟨m,hm,rfl⟩
  obtain ⟨x,hx,e⟩:=List.mem_map.mp this
  rw [← e];exact D.cts x hx
theorem Drawn.termsLen (D:Drawn ss os TL ons ts) {s:Sc} (hs:s∈ss):(onTerms ons ts s.n).length≤TL.length+1:=by
 delta onTerms
 have:=D.left hs
 have h1:=congrArg List.length D.tsE
 simp only [List.length_map] at h1
 split at this
 ·obtain ⟨c,q,h4,h5,h6⟩:=this
  rw [h5]
  have:=congrArg List.length h6
  simp only [List.length_map,List.length_cons,List.length_nil] at this
  dsimp only
  lia
 ·rw [this];dsimp only;lia
theorem Drawn.path (D:Drawn ss os TL ons ts) {i:Nat} {l:Lv} {q:Pd×Jk} (L:LvOk os qs ons ts i l) (hq:qs[i]?=some q) (hp:PathOk (bdsAt ons ts os i l.s.n) q):l.q.1.Ok ss.length∧((∀ c∈(if l.left then l.on else l.here),evC rows c=true)→inPath rows l.s.n l.q.1):=by
 obtain ⟨q',e1,e2⟩:=L.q
 rw [hq] at e1;cases e1
 rw [← e2]
 have hs:l.s∈ss:=D.perm.mem_iff.mp (List.mem_of_getElem? L.s)
 rcases hp.1 with e | g
 ·rw [e]
  exact ⟨⟨fun p hp=>(by cases List.mem_singleton.mp hp;decide),by decide,by decide,fun _ h=>(nomatch h),trivial,trivial,fun _ h=>by cases h⟩,fun _=>.inl rfl⟩
 ·refine ⟨good_ok g fun b hb=>?_,fun ht=>good_in g fun b hb=>?_⟩
  ·obtain ⟨m,hm,_,hx⟩:=ready_of hb
   exact bds_ok (D.terms hs m hm) hx
  ·obtain ⟨m,hm,hr,hx⟩:=ready_of hb
   refine bd_holds (D.terms hs m hm) hx (ht _ ?_)
   have:=D.left hs
   delta onTerms at hm
   cases hl:l.s.left with
   | true =>
    rw [if_pos hl] at this
    obtain ⟨c,q,h4,h5,h6⟩:=this
    have hL:l.left=true:=by
     rw [L.left];delta leftB;rw [List.any_map,List.any_eq_true]
     exact ⟨q,List.mem_of_find?_eq_some h5,by have:=of_decide_eq_true (List.find?_some (p:=fun q:Nat×List Tm=>decide ((q.1:Int)=(l.s.n:Int))) h5);simpa using this⟩
    rw [if_pos hL,L.on]
    delta onGet
    rw [h5] at hm ⊢
    exact List.mem_map.mpr ⟨m,hm,rfl⟩
   | false =>
    rw [if_neg (by rw [hl];simp)] at this
    have hL:l.left=false:=by
     rw [L.left];delta leftB;rw [List.any_map,List.any_eq_false]
     intro q hq
     have:=List.find?_eq_none.mp this q hq
     simpa using this
    rw [this] at hm
    rw [if_neg (by rw [hL];simp),L.here,levels_eq]
    refine List.mem_map.mpr ⟨m,List.mem_filter.mpr ⟨hm,?_⟩,rfl⟩
    have hi:(os.map fun s=>(s.n:Int))[i]?=some (l.s.n:Int):=by rw [List.getElem?_map,L.s];rfl
    rw [levB_eq D.ndI hi]
    obtain ⟨r1,r2⟩:=and_of hr
    have sp:(os.map fun s=>(s.n:Int)).take (i+1)=(os.take i).map (fun s=>(s.n:Int))++[(l.s.n:Int)]:=by rw [List.take_add_one,hi,List.map_take];rfl
    delta Tm.known
    rw [sp,Bool.and_eq_true,List.all_eq_true]
    refine ⟨List.any_eq_true.mpr ⟨_,by simpa using r1,by simp⟩,fun x hx=>?_⟩
    have:=List.all_eq_true.mp r2 x hx
    rw [List.any_append,Bool.or_eq_true]
    rw [Bool.or_eq_true] at this
    rcases this with h | h
    ·exact .inr (by have h:x=(l.s.n:Int):=beq_iff_eq.mp h;subst h;simp)
    ·exact .inl h
end
theorem Drawn.tested {ss os:List Sc} {TL:List Tl} {ons:List (Nat×List Tm)} {ts:List Tm} {qs:List (Pd×Jk)} (D:Drawn ss os TL ons ts) {i:Nat} {l:Lv} (L:LvOk os qs ons ts i l):∀ c∈(if l.left then l.on else l.here),c.ok ss.length:=fun c hc=>by
 have hs:l.s∈ss:=D.perm.mem_iff.mp (List.mem_of_getElem? L.s)
 have hT:∀ m∈ts,m.c.ok ss.length:=fun m hm=>by
  have:m.c∈TL.map (·.1):=D.tsE▸List.mem_map.mpr ⟨m,hm,rfl⟩
  obtain ⟨x,hx,e⟩:=List.mem_map.mp this
  rw [← e];exact D.cts x hx
 cases hl:l.left with
 | true =>
  rw [hl,if_pos rfl,L.on] at hc
  have:=D.left hs
  delta onGet at hc
  split at this
  ·obtain ⟨c',q,h4,h5,h6⟩:=this
   rw [h5] at hc
   rw [h6] at hc
   rw [List.mem_singleton.mp hc]
   exact D.con _ hs c' h4
  ·rw [this] at hc;cases hc
 | false =>
  rw [hl,if_neg (by simp),L.here,levels_eq] at hc
  obtain ⟨m,hm,rfl⟩:=List.mem_map.mp hc
  exact hT m (List.mem_filter.mp hm).1
section
variable {T:Top} {r n K:Nat} {P:TV→Prop} {m:Mem} {k:AV→Mem→Prop} {ss:List Sc} {tl wl:List Tl} {lv:List Lv} {rows:Rows}
theorem cond_ok (hs:0<ss.length∧ss.length≤3) (hn:∀ s∈ss,s.n<ss.length) (h:∀ c ns,CondN ss.length (c,ns)→P (tlT (c,ns))):FN T (r+5) true 1140 [.lst (ss.map Sc.t)] P :=
 ⟨cond_kn (m:=[]) (K:=ss.length) ⟨hs,(ss.map Sc.t).map .t,by rw [List.length_map,List.length_map],.inr ⟨_,rfl,rfl,[],rfl⟩,fun v hv=>by
  rw [List.map_map] at hv
  obtain ⟨s,hs,rfl⟩:=List.mem_map.mp hv
  exact ⟨s.n,hn s hs,.t s⟩⟩ fun c ns g hc=>h c ns hc⟩
structure LG (rows:Rows) (k:Nat) (l:Lv):Prop where
 ok:l.q.1.Ok k
 con:∀ c∈(if l.left then l.on else l.here),c.ok k
 n:l.s.n<k
 run:(∀ c∈(if l.left then l.on else l.here),evC rows c=true)→inPath rows l.s.n l.q.1
noncomputable def c_law_t:CS:=(.cons (.ifs (.te (.o1 .all (.comp (.fcall false 1166 (.cons (.nm 11) (.cons (.nc 32) .nil))) [11] true false (.nm 141) (.tt)))) (.cons (.ifs (.tnot (.te (.fcall false 1178 (.cons (.att (.nm 129) 27) (.cons (.sub (.nc 32) (.att (.att (.nm 129) 43) 15)) (.cons (.nc 32) .nil)))))) (.cons (.ret (.k (.bool false))) .nil) .nil) .nil) .nil) (.cons (.kp [14,73,67]) .nil))
noncomputable def c_law_l:CS:=(.cons (.for_ 0 [129] true false (.att (.nm 73) 54) (.cons (.as (.nm 141) (.ife (.te (.att (.nm 129) 107)) (.att (.nm 129) 60) (.att (.nm 129) 53))) (.lab c_law_t))) (.cons (.kp [14,73]) (.cons (.kc [43]) .nil)))
noncomputable def c_law_r:CS:=(.cons (.for_ 0 [67] true true (.k (.int 3)) (.cons (.as (.nc 32) (.comp (.o2 .addT (.tup (.cons (.fcall true 1109 (.cons (.nc 43) (.cons (.k (.int 4)) .nil))) .nil)) (.o1 .tuple (.comp (.fcall true 1135 (.cons (.nc 43) .nil)) [8] true true (.k (.int 3)) (.tt)))) [69] true false (.nm 14) (.tt))) (.lab c_law_l))) (.cons (.ret (.k (.bool true))) .nil))
noncomputable def c_law_c:CS:=(.cons (.as (.nm 50) (.fcall false 929 (.cons (.nm 14) (.cons (.nm 75) .nil)))) (.cons (.as (.nm 52) (.fcall true 1190 (.cons (.nc 43) (.cons (.nm 14) .nil)))) (.cons (.as (.nm 73) (.fcall false 945 (.cons (.nm 50) (.cons (.nm 52) (.cons (.fcall true 1195 (.cons (.nc 43) (.cons (.nm 50) (.cons (.nm 52) .nil)))) (.cons (.lstF .nil) .nil)))))) (.cons (.ifs (.tnot (.te (.fcall false 1200 (.cons (.nm 73) (.cons (.nm 52) (.cons (.nm 74) .nil)))))) (.cons (.ret (.k (.bool false))) .nil) .nil) (.cons (.kp [14,73]) (.lab c_law_r))))))
noncomputable def c_law:CS:=(.cons (.as (.nc 43) (.call 1102 (.cons (.nm 61) (.cons (.k (.int 0)) .nil)))) (.cons (.un (.cons (.nm 14) (.cons (.nm 74) .nil)) (.call 1185 (.cons (.nc 43) .nil))) (.cons (.as (.nm 75) (.k .none)) (.cons (.kp [14,74,75]) (.cons (.for_ 0 [67] true true (.fcall true 1109 (.cons (.nc 43) (.cons (.k (.int 5)) .nil))) (.cons (.un (.cons (.nm 11) (.cons (.nm 92) .nil)) (.fcall true 1140 (.cons (.nc 43) (.cons (.nm 14) .nil)))) (.cons (.as (.nm 75) (.ife (.te (.o1 .isN (.nm 75))) (.nm 11) (.fcall false 168 (.cons (.k (.str "and")) (.cons (.nm 75) (.cons (.nm 11) .nil)))))) (.cons (.ex (.app (.nm 74) (.tup (.cons (.nm 11) (.cons (.nm 92) .nil))))) (.cons (.kp [14,74,75]) .nil))))) (.cons (.fzv 74) (.lab c_law_c)))))))
theorem o_law:okDf false 1205 [true] [61] [32,43] c_law=true:=by decide +kernel
theorem law_l {x14 x67:TV} {bf:List Cd} {c:Int} {kk:Nat} {K:Fl→Fr→Fr→Mem→Prop} (hk3:kk≤3) (h:∀ l∈lv,LG rows kk l) (hk:K .next [(14,.t x14),(73,.t (planT lv bf c))] [(43,.ref 0)] m) :
  sx T (r+4) c_law_l [(14,.t x14),(73,.t (planT lv bf c)),(67,.t x67)] [(43,.ref 0),(32,.t (rowsT rows kk))] m K:=by
 refine forL_ind (σ:=Unit) (fun l=>.t (Lv.t l)) (fun _=>_) (fun _=>_) (fun _=>m) (fun l _=>∀ x∈l,LG rows kk x) (fun _ _=>?_) (fun l ls _ hI R hR=>?_) lv () mm h
 ·exact hk
 have G:=hI l (.head _)
 replace hR:=hR () fun x hx=>hI x (.tail _ hx)
 obtain ⟨ls,lq,lh,ll,lo⟩:=l
 have tst:∀ (cs:List Cd),(∀ c∈cs,c.ok kk)→((∀ c∈cs,evC rows c=true)→inPath rows ls.n lq.1)→Lab (sx T (r+4) c_law_t [(14,.t x14),(73,.t (planT lv bf c)),(67,.t x67),(129,.t (Lv.t ⟨ls,lq,lh,ll,lo⟩)),(141,.t (csT cs))] [(43,.ref 0),(32,.t (rowsT rows kk))] m (loopK 0 R fun f fr cl mem=>seqK (sx T (r+4) (.cons (.kp [14,73]) (.cons (.kc [43]) .nil))) K f fr cl mem)):=fun cs h1 h2=>by
  refine ⟨?_⟩
  refine compL_bool Cd.t (evC rows) (fun c hc R hR=>is_true_ok (r:=r) (h1 c hc) hk3 hR) ?_
  refine boolM ?_
  rw [allM]
  refine (?_:brK _ _ _)
  refine br (fun e=>?_) fun _=>?_
  ·have hin:=h2 fun c hc=>List.all_eq_true.mp e c hc
   refine nthN_t (g:=rowT rows) (l:=List.range kk) (i:=ls.n) (by rw [List.length_range];exact G.n) (by rw [List.length_range];lia) fun a ha=>?_
   rw [List.getElem?_range G.n] at ha;cases ha
   refine in_path_ok (r:=r) (q:=lq) G.ok hk3 hin ?_
   exact hR
  ·exact hR
 cases ll with
 | true=>exact tst lo G.con G.run
 | false=>exact tst lh G.con G.run
end
noncomputable def rw4 (x:V×V×V×V):TV:=.tup [x.1.t,x.2.1.t,x.2.2.1.t,x.2.2.2.t]
noncomputable def pick4 (x:V×V×V×V) (p:Int):V:=if p=-1 then x.1 else if p=0 then x.2.1 else if p=1 then x.2.2.1 else x.2.2.2
theorem rows_of_L2 {α:Type} {l:List α} {us:List TV} (h:L2 (fun _ u=>∃ x,u=rw4 x) l us):∃ xs:List (V×V×V×V),xs.length=l.length∧us=xs.map rw4:=by
 induction l generalizing us with
 | nil=>cases h;exact ⟨[],rfl,rfl⟩
 | cons a l ih =>
  obtain ⟨u,us,rfl,⟨x,rfl⟩,h⟩:=h
  obtain ⟨xs,h1,rfl⟩:=ih h
  exact ⟨x::xs,congrArg Nat.succ h1,rfl⟩
theorem rows_fn (xs:List (V×V×V×V)):∃ rows:Rows,xs.map rw4=(List.range xs.length).map (rowT rows):=by
 refine ⟨fun n p=>pick4 (xs.getD n (.nul,.nul,.nul,.nul)) p,List.ext_getElem (by simp) fun i h1 h2=>?_⟩
 rw [List.getElem_map,List.getElem_map,List.getElem_range]
 rw [List.length_map] at h1
 have e:xs.getD i (.nul,.nul,.nul,.nul)=xs[i]:=by rw [List.getD_eq_getElem?_getD,List.getElem?_eq_getElem h1];rfl
 show rw4 xs[i]=.tup [(pick4 (xs.getD i _) (-1)).t,(pick4 (xs.getD i _) 0).t,(pick4 (xs.getD i _) 1).t,(pick4 (xs.getD i _) 2).t]
 rw [e];rfl
section
variable {T:Top} {r n K:Nat} {P:TV→Prop} {m:Mem} {ss:List Sc} {tl wl:List Tl} {lv:List Lv} {rows:Rows}
theorem law_r {bf:List Cd} {c:Int} {k:Fl→Mem→Prop} (hz:0<ss.length∧ss.length≤3) (h:∀ rows,∀ l∈lv,LG rows ss.length l) (hk:k (.ret (.t (.bool true))) (.pool::m)) :
  sx T (r+4) c_law_r [(14,.t (.lst (ss.map Sc.t))),(73,.t (planT lv bf c))] [(43,.ref 0)] (.pool::m) fun f _ _ mem=>k f mem:=by
 refine (?_:((0:Int)≤_∧_≤(1000:Int))∧_)
 refine ⟨by decide,?_⟩
 refine forR_ind (σ:=Unit) (fun _=>_) (fun _=>_) (fun _=>_) (fun _ _=>True) (fun _ _=>?_) (fun i _ hi _ R hR=>?_) () trivial
 ·exact hk
 replace hR:=hR () trivial
 refine compL_rel Sc.t (fun _ u=>∃ x,u=rw4 x) (fun s _ R hR=>?_) fun us hus=>?_
 ·refine take_ok (r:=r+3) (k:=4) (by decide) fun v hv=>?_
  refine (?_:((0:Int)≤_∧_≤(1000:Int))∧_)
  refine ⟨by decide,?_⟩
  refine value_ok (r:=r+1) fun x=>?_
  refine value_ok (r:=r+1) fun y=>?_
  refine value_ok (r:=r+1) fun z=>?_
  refine (?_:(_∧_∧_)∧_)
  refine ⟨⟨List.cons_ne_nil _ _,List.cons_ne_nil _ _,Nat.le_of_ble_eq_true rfl⟩,?_⟩
  exact hR _ ⟨(.int v,x,y,z),rfl⟩
 obtain ⟨xs,e1,rfl⟩:=rows_of_L2 hus
 obtain ⟨rows,e2⟩:=rows_fn xs
 rw [e2,e1]
 refine (?_:Lab _)
 exact ⟨law_l hz.2 (h rows) hR⟩
noncomputable abbrev lawM (ss:List Sc) (l:List Tl):Mem:=[.pool,.fz (.lst (ss.map Sc.t)),.lst ((l.map tlT).map .t),.tup [.t (.lst (ss.map Sc.t)),.ref 2]]
theorem andR_cons {c:Cd}:∀ {cs:List Cd},cs≠[]→andR (c::cs)=.obj 168 [16,9,10] [.str "and",andR cs,c.t]
 | [],h=>absurd rfl h
 | _::_,_=>rfl
theorem andR_nv:∀ {cs:List Cd},cs≠[]→nvB (andR cs)=true∧isNB (andR cs)=false
 | [],h=>absurd rfl h
 | [c],_=>by cases c<;>exact ⟨rfl,rfl⟩
 | _::_::_,_=>⟨rfl,rfl⟩
theorem SI.lt {s:Sc} (h:SI ss tl) (hs:s∈ss):s.n<ss.length:=by
 have:s.n∈ss.map (·.n):=List.mem_map.mpr ⟨s,hs,rfl⟩
 rw [h.num,List.mem_range] at this;exact this
theorem law_c {k:Fl→Mem→Prop} (hz:0<ss.length∧ss.length≤3) (hI:SI ss tl) (hw:∀ x∈wl,CondN ss.length x) (hwl:wl.length≤4) (hk:∀ m,k (.ret (.t (.bool true))) m) :
  sx T (r+9) c_law_c [(14,.t (.lst (ss.map Sc.t))),(74,.t (.lst ((tl++wl).map tlT))),(75,.t (andR (wl.map (·.1)).reverse))] [(43,.ref 0)] (.pool::m) fun f _ _ mem=>k f mem:=by
 have hnd:(ss.map (·.n)).Nodup:=by rw [hI.num];exact List.nodup_range
 have hin:∀ c:Cd,c.ok ss.length→c.ok 3∧∀ n∈c.nums,n∈ss.map (·.n):=fun c hc=>⟨Cd.ok_mono hz.2 hc,fun n hn=>by rw [hI.num,List.mem_range];exact Cd.nums_lt hc n hn⟩
 have hon:∀ s∈ss,∀ c,s.on=some c→c.ok ss.length:=fun s hs c hc=>Cd.ok_mono (hI.lt hs) ((hI.ok s hs).on c hc)
 have htl:tl.length≤3:=Nat.le_trans hI.len hz.2
 have tin:∀ x∈tl,x.1.ok ss.length:=fun x hx=>by
  have:x.1∈tl.map (·.1):=List.mem_map.mpr ⟨x,hx,rfl⟩
  rw [hI.tls] at this
  obtain ⟨s,hs,h⟩:=List.mem_flatMap.mp this
  exact hon s (List.mem_filter.mp hs).1 x.1 (by simpa using h)
 refine conds_ok (r:=r) (by rw [List.length_reverse,List.length_map];exact Nat.le_trans hwl (by decide)) hz.2 hnd (fun s hs c hc=>hin c (hon s hs c hc)) (fun c hc=>by obtain ⟨x,hx,rfl⟩:=List.mem_map.mp (List.mem_reverse.mp hc);exact hin _ (hw x hx).ok) fun ons ts h1 h2 h3 h4=>?_
 refine order_ok (r:=r+6) (Nat.le_trans hz.2 (by decide)) hI.num fun os hp=>?_
 have D:Drawn ss os (tl++wl) ons ts:=⟨hnd,hI.ok,hon,fun x hx=>(List.mem_append.mp hx).elim (tin x) fun h=>(hw x h).ok,fun x hx=>(List.mem_append.mp hx).elim (fun h=>(hI.ns x h).ns) fun h=>(hw x h).ns,hp,h1,by rw [h2,List.map_append,hI.tls,List.reverse_reverse],h3,h4⟩
 have hol:os.length=ss.length:=hp.length_eq
 refine paths_ok (r:=r+1) (Nat.le_trans (Nat.le_of_eq hp.length_eq) (Nat.le_trans hz.2 (by decide))) (fun s hs=>hI.ok s (hp.mem_iff.mp hs)) (fun s hs=>Nat.le_trans (D.termsLen (hp.mem_iff.mp hs)) (by rw [List.length_append];exact Nat.le_trans (Nat.succ_le_succ (Nat.add_le_add (Nat.le_trans hI.len hz.2) hwl)) (by decide))) (fun s hs m hm=>Cd.ok_mono hz.2 (D.terms (hp.mem_iff.mp hs) m hm)) fun qs hql hqs=>?_
 refine make_plan_ok (r:=r+5) (Nat.le_trans (Nat.le_of_eq hp.length_eq) (Nat.le_trans hz.2 (by decide))) hql (fun q hq=>?_) fun lv c hlv hL=>?_
 ·obtain ⟨i,hi,rfl⟩:=List.getElem_of_mem hq
  exact (hqs i _ _ (List.getElem?_eq_getElem hi) (List.getElem?_eq_getElem (hql▸hi))).2
 refine stand_ok (r:=r+3) (Nat.le_trans (Nat.le_of_eq hp.length_eq) (Nat.le_trans hz.2 (by decide))) (by rw [List.length_append];exact Nat.le_trans (Nat.add_le_add (Nat.le_trans hI.len hz.2) hwl) (by decide)) (D.stand hlv hL) ?_
 refine (?_:Lab _)
 refine ⟨law_r (r:=r+5) hz (fun rows l hl=>?_) (hk _)⟩
 obtain ⟨i,hi,rfl⟩:=List.getElem_of_mem hl
 have L:=hL i _ (List.getElem?_eq_getElem hi)
 have hq:=List.getElem?_eq_getElem (hql▸hlv▸hi:i<qs.length)
 have:=D.path (rows:=rows) L hq (hqs i _ _ hq L.s)
 exact ⟨this.1,D.tested L,hI.lt (hp.mem_iff.mp (List.mem_of_getElem? L.s)),this.2⟩
theorem law_ok {ns:List Int} {k:Fl→Mem→Prop} (hz:ns.length≤63) (hk:∀ m,k (.ret (.t (.bool true))) m):sx T (r+9) c_law [(61,.t (.lst (ns.map .int)))] [] [] fun f _ _ mem=>k f mem:=by
 refine pool_ok (r:=r+8) hz ?_
 refine sources_ok (r:=r+2) fun ss tl h1 h2 hI=>?_
 refine take_ok (r:=r+8) (k:=5) (by decide) fun v hv=>?_
 refine (?_:((0:Int)≤_∧_≤(1000:Int))∧_)
 refine ⟨⟨hv.1,Int.le_trans (Int.le_of_lt hv.2) (by decide)⟩,?_⟩
 refine forR_ind (σ:=List Tl×List Tl) (fun s=>[(14,.t (.lst (ss.map Sc.t))),(74,.ref 2),(75,.t (andR (s.2.map (·.1)).reverse))]) (fun _=>_) (fun s=>lawM ss s.1) (fun i s=>s.2.length=i∧s.1=tl++s.2∧∀ x∈s.2,CondN ss.length x) (fun s hw=>?_) (fun i s hi hw R hR=>?_) (tl,[]) ⟨rfl,(List.append_nil _).symm,fun _ h=>nomatch h⟩
 ·obtain ⟨TL,wl⟩:=s
  obtain ⟨w1,w2,w3⟩:=hw
  dsimp only at w1 w2 w3
  subst w2
  refine fzc_t ?_
  refine resL_t ?_
  refine (?_:Lab _)
  exact ⟨law_c ⟨h1,h2⟩ hI w3 (by rw [w1];exact Nat.le_of_lt_succ (toLt (c:=5) hv)) hk⟩
 ·obtain ⟨TL,wl⟩:=s
  obtain ⟨w1,w2,w3⟩:=hw
  dsimp only at w1 w2 w3
  refine cond_ok (r:=r+4) ⟨h1,h2⟩ (fun s hs=>hI.lt hs) fun c ns hc=>?_
  have hT:TL.length≤20:=by rw [w2,List.length_append,w1];exact Nat.le_trans (Nat.add_le_add (Nat.le_trans hI.len h2) (Nat.le_of_lt (Nat.lt_of_lt_of_le hi (Nat.le_of_lt (toLt (c:=5) hv))))) (by decide)
  have fin:=hR (TL++[(c,ns)],wl++[(c,ns)]) ⟨by rw [List.length_append,w1];rfl,by dsimp only;rw [w2,List.append_assoc],fun x hx=>(List.mem_append.mp hx).elim (w3 x) fun h=>by cases List.mem_singleton.mp h;exact hc⟩
  dsimp only at fin
  delta lawM at fin
  rw [mapA,List.map_append,List.reverse_append] at fin
  cases wl with
  | nil =>
   refine (?_:brK _ _ _)
   refine brT' (short2 (Nat.le_trans hT (by decide))) ?_
   exact fin
  | cons x wl =>
   have ne:((x::wl).map (·.1)).reverse≠[]:=by simp
   have fin2:R [(14,.t (.lst (ss.map Sc.t))),(74,.ref 2),(75,.t (andR (c::((x::wl).map (·.1)).reverse)))] [(43,.ref 0)] _:=fin
   rw [andR_cons ne] at fin2
   have nv:=andR_nv ne
   refine (?_:brK _ _ _)
   refine brT' nv.1 ?_
   refine (?_:brK _ _ _)
   refine brF nv.2 ?_
   refine bin_ok (r:=r+7) ?_
   refine (?_:brK _ _ _)
   refine brT' (short2 (Nat.le_trans hT (by decide))) ?_
   exact fin2
theorem law_call {ns:List Int} {k:AV→Mem→Prop} (hz:ns.length≤63) (hk:∀ m,k (.t (.bool true)) m):CALL T (r+10) (.ref 1205) [.t (.lst (ns.map .int))] [] k:=by
 refine enter c_law [true] [61] [32,43] false o_law ?_
 exact law_ok (k:=retK k) hz hk
theorem rm_caller:Rm callerA 10:=⟨by decide,by decide,rfl⟩
theorem law_top {K:Frag} {w:World} {s:Shared} {l:Addr} {vs:List Value} {ns:List Int} {E:Value→Shared→Prop} (W:Kn ⟨K,s.heap⟩ w) (hl:s.heap.get? l=some { cls:=.type "list",data:=.seq vs.toArray }) (hI:WellAll w.params s.heap vs (ns.map WData.int)) (hz:ns.length≤63) :
  wpAny (mo w) callerA (PySem.call (.ref 1205) [.ref l]) (fun v s'=>v=.bool true∧(∀ b o,s.heap.get? b=some o→s'.heap.get? b=some o)∧s'.os=s.os∧s'.gens=s.gens) E s:=by
 have ht:TRs w [.lst l vs] (ns.map .int) vs∧vs.length=ns.length:=by
  clear hl hz W
  generalize [Ch.lst l vs]=R
  induction ns generalizing vs with
  | nil=>cases hI;exact ⟨rfl,rfl⟩
  | cons n ns ih =>
   cases hI with
   | cons h1 h2=>cases h1;exact ⟨⟨_,_,rfl,⟨_,rfl⟩,(ih h2).1⟩,congrArg Nat.succ (ih h2).2⟩
 have S:St w s.heap s [] [.lst l vs] ([]++[]) [.lst l vs] s:=⟨fun _ _ h=>h,fun _ _ h _=>h,fun _ h=>(nomatch h),fun _ h=>(nomatch h),fun p hp=>by cases List.mem_singleton.mp hp;exact ⟨_,hl⟩,List.nodup_nil,fun _ h=>(nomatch h),fun _ h=>h,fun _ h=>.inl h,rfl,rfl,rfl⟩
 refine (law_call (T:=⟨K,s.heap⟩) (r:=0) (k:=fun v _=>v=.t (.bool true)) hz fun _=>rfl).run w callerA s [.lst l vs] E _ s ⟨[],[],[.lst l vs]⟩ [] [.ref l] rm_caller W S ⟨rfl,rfl⟩ ⟨_,_,rfl,⟨l,vs,rfl,.head _,by have:=ht.2;lia,ht.1⟩,rfl⟩ ?_
 intro av mem' v s' g' hk S' _ _ hv
 subst hk
 exact ⟨hv,fun b o h=>S'.keep b o h (fun h=>nomatch h),S'.os,S'.gens⟩
end
noncomputable def vRef (v:Value):Option Addr:=match v with | .ref a=>some a | _=>none
noncomputable def vInt (v:Value):Option Int:=match v with | .int a _=>some a | _=>none
noncomputable def dFld (d:Data):Option (Array Value):=match d with | .fields a=>some a | _=>none
noncomputable def dFun (d:Data):Option FuncData:=match d with | .func a=>some a | _=>none
theorem vRef_of {v:Value} {a:Addr} (h:vRef v=some a):v=.ref a:=by
 cases v with
 | ref _=>cases h;rfl
 | _=>exact (Option.some_ne_none _ h.symm).elim
theorem vInt_of {v:Value} {i:Int} (h:vInt v=some i):∃ t,v=.int i t:=by
 cases v with
 | int _ t=>cases h;exact ⟨t,rfl⟩
 | _=>exact (Option.some_ne_none _ h.symm).elim
theorem dFld_of {d:Data} {a:Array Value} (h:dFld d=some a):d=.fields a:=by
 cases d with
 | fields _=>cases h;rfl
 | _=>exact (Option.some_ne_none _ h.symm).elim
theorem dFun_of {d:Data} {a:FuncData} (h:dFun d=some a):d=.func a:=by
 cases d with
 | func _=>cases h;rfl
 | _=>exact (Option.some_ne_none _ h.symm).elim
theorem str_of {v:Value} {q:Str} (h:v.isStr q=true):∃ t,v=.str q t:=by
 cases v with
 | str x t=>cases eq_of_beq (a:=x) (b:=q) h;exact ⟨t,rfl⟩
 | _=>exact (Bool.false_ne_true h).elim
noncomputable def fdO (K:Frag) (f:Nat):Option FuncData:=(K.lookup f).bind fun o=>dFun o.data
noncomputable def fnD (K:Frag) (f:Nat):FuncData:=(fdO K f).getD default
noncomputable def projF (fd:FuncData):FuncBody×List (Str×Addr)×Addr×Addr×Kinds×ScopeKind×Bool×Bool:=(fd.body,fd.closure,fd.globals,fd.builtins,fd.scope.names,fd.scope.kind,fd.scope.isCoroutine,fd.scope.isGenerator)
noncomputable def expF (f:Nat):FuncBody×List (Str×Addr)×Addr×Addr×Kinds×ScopeKind×Bool×Bool:=(.stmts (rowOf f).2.2,[],mainGlobals,builtinsNs,(rowOf f).2.1,.function,false,false)
noncomputable def codB (K:Frag) (fd:FuncData):Bool:=((vRef fd.code).bind fun c=>(K.lookup c).bind fun o=>(dFld o.data).bind fun vs=>vs[1]?.bind fun v=>if v.isStr fd.qualname then some () else none).isSome
noncomputable def isF (K:Frag) (f:Nat):Bool:=(fdO K f).isSome
noncomputable def argV (v:Nat→Value) (n:Nat):List Value:=(List.range n).map v
noncomputable def bindP (K:Frag) (f:Nat) (S:Setting) (v:Nat→Value):Option (List (Str×Value)):=peek K S (bindArgs (fnD K f) ⟨argV v (rowOf f).1.length,[]⟩)
noncomputable def bindE (f:Nat) (S:Setting) (v:Nat→Value):Option (List (Str×Value)):=some ((rowOf f).1.zip (argV v (rowOf f).1.length))
noncomputable def bindDP (K:Frag) (f:Nat) (S:Setting) (v:Nat→Value):Option (List (Str×Value)):=peek K S (bindArgs (fnD K f) ⟨argV v ((rowOf f).1.length - 1),[]⟩)
noncomputable def bindDE (f:Nat) (S:Setting) (v:Nat→Value):Option (List (Str×Value)):=some ((rowOf f).1.zip (argV v ((rowOf f).1.length - 1)++[.none]))
noncomputable def intIn (K:Frag) (x:Str):Option Int:=((nsIn K mainGlobals x).bind id).bind vInt
structure KnC (K:Frag):Prop where
 isf:dad.all (isF K)=true
 fn:dad.map (fun f=>projF (fnD K f))=dad.map expF
 cod:dad.all (fun f=>codB K (fnD K f))=true
 bd:dad.map (bindP K)=dad.map bindE
 bdd:ddl.map (bindDP K)=ddl.map bindDE
 gs:gs.map (fun p=>nsIn K mainGlobals p.1)=gs.map fun p=>some (some p.2)
 bs:bs.map (fun p=>nsIn K mainGlobals p.1)=bs.map fun _=>some none
 gi:gi.map (fun p=>intIn K p.1)=gi.map fun p=>some p.2
 kp:dad.all (fun f=>keepIn K (.ref f))=true
 kc:ctab.all (fun q=>keepIn K (.ref q.1))=true
 cm:ctab.all (fun q=>makesIn K q.1&&plainGet K q.1 (Str.ofString "")&&plainOver K q.1&&hasDictIn K q.1)=true
 ci:ctab.map (fun q=>findIn K (.ref q.1) "__init__")=ctab.map fun q=>some (some (.ref q.2))
 cf:ctab.map (fun q=>typeIn K (.ref q.2))=ctab.map fun _=>some (.type "function")
 cs:ctab.map (fun q=>findIn K (.ref q.1) "__setattr__")=ctab.map fun _=>some (some (.builtin "object.__setattr__"))
 cn:ctab.map (fun q=>(atN q.1).map (findIn K (.ref q.1)))=ctab.map fun q=>(atN q.1).map fun _=>some none
 mf:mtab.map (fun q=>findIn K (.ref q.1) (nameOf q.2.1))=mtab.map fun q=>some (some (.ref q.2.2))
 mt:mtab.map (fun q=>typeIn K (.ref q.2.2))=mtab.map fun _=>some (.type "function")
 ib:isl.all (fun C=>plainGet K C "__class__"&&hasDictIn K C)=true
 ia:isl.map (fun C=>findIn K (.ref C) "__class__")=isl.map fun _=>some (some (.builtin "object.__class__"))
 is:specialIn K (.builtin "object.__class__") "__get__"=some (some (.builtin "getset_descriptor.__get__"))
 it:takesIn K (.builtin "object.__class__")=some true
 im:isl.map (fun C=>mroIn K C (.type "object"))=isl.map fun _=>some true
 io:isl.map (fun C=>Nt.exCls.map fun D=>kitOne K (.ref C) (.ref D))=isl.map fun C=>Nt.exCls.map fun D=>some (decide (C=D))
noncomputable def turL (w:World):List DictEntry:=[⟨hashStr w "=",.str "=" 893,.str "=" 894⟩,⟨hashStr w "<",.str "<" 895,.str ">" 896⟩,⟨hashStr w "<=",.str "<=" 897,.str ">=" 898⟩,⟨hashStr w ">",.str ">" 899,.str "<" 900⟩,⟨hashStr w ">=",.str ">=" 901,.str "<=" 902⟩]
noncomputable def turO (w:World):Obj:={ cls:=.type "dict",data:=.dict (turL w).toArray 5 }
noncomputable def numO:Obj:={ cls:=.type "tuple",data:=.seq #[.str "integer" 785,.str "numeric" 786] 0 }
theorem isS {prog:Program} {w:World} {x:Str} {t:Tok}:(strKind prog w).is x (.str x t)=true:=by
 show Value.isStrOf x (.str x t)=true
 simp [Value.isStrOf]
theorem argV_eq {us:List Value}:argV (fun i=>us.getD i .none) us.length=us:=by
 show (List.range us.length).map _=us
 refine List.ext_getElem (by simp) fun i h1 h2=>?_
 rw [List.getElem_map,List.getElem_range,List.getD_eq_getElem?_getD,List.getElem?_eq_getElem h2];rfl
section
variable {K:Frag} {hE:Heap} {w:World}
set_option tactic.hygienic true in
theorem fn_at (X:K.In hE) (C:KnC K) {f:Nat} (hf:f∈dad):∃ o,hE.get? f=some o∧o.data=.func (fnD K f):=by
 obtain ⟨fd,e⟩:=Option.isSome_iff_exists.mp (show (fdO K f).isSome=true from List.all_eq_true.mp C.isf f hf)
 delta fnD
 rw [e]
 obtain ⟨o,e1,e2⟩:=Option.bind_eq_some_iff.mp e
 exact ⟨o,X f o e1,dFun_of e2⟩
theorem cod_at (X:K.In hE) (C:KnC K) {f:Nat} (hf:f∈dad):hE.CodeRec (fnD K f).code (fnD K f).qualname:=by
 obtain ⟨_,h⟩:=Option.isSome_iff_exists.mp (List.all_eq_true.mp C.cod f hf)
 obtain ⟨c,e,h⟩:=Option.bind_eq_some_iff.mp h
 obtain ⟨o,e1,h⟩:=Option.bind_eq_some_iff.mp h
 obtain ⟨vs,e2,h⟩:=Option.bind_eq_some_iff.mp h
 obtain ⟨v,e3,h⟩:=Option.bind_eq_some_iff.mp h
 cases q:v.isStr (fnD K f).qualname with
 | true=>obtain ⟨t,rfl⟩:=str_of q;exact ⟨c,o,vs,t,vRef_of e,X c o e1,dFld_of e2,e3⟩
 | false=>rw [q] at h;cases h
theorem defX_at (X:K.In hE) (C:KnC K) {f:Nat} (hf:f∈dad) {us full:List Value} (hl:full.length=(rowOf f).1.length) (hb:∀ s:Setting,peek K s (bindArgs (fnD K f) ⟨us,[]⟩)=some ((rowOf f).1.zip full)):DefX hE f (rowOf f).1 (rowOf f).2.1 (rowOf f).2.2 us full:=by
 obtain ⟨o,h1,h2⟩:=fn_at X C hf
 have h3:=List.map_inj_left.mp C.fn f hf
 have h4:=cod_at X C hf
 generalize fnD K f=fd at h2 h3 h4 hb
 delta projF expF at h3
 simp only [Prod.mk.injEq] at h3
 obtain ⟨e1,e2,e3,e4,e5,e6,e7,e8⟩:=h3
 exact ⟨⟨o,fd,h1,h2,h4,e1,e2,e3,e4,e5,e6,e7,e8,fun s hk M A E Q q=>Looks.of_peek X (hb _) A Q E s hk q⟩,hl⟩
theorem bs_boot:bs.map (fun p=>bootBuiltins p.1)=bs.map fun p=>some p.2:=by kernel_rfl
theorem bs_nm:bs.all (fun p=>p.1 != "__name__")=true:=by decide +kernel
theorem ddl_dad:ddl.all (fun f=>memN dad f&&Nat.blt 0 (rowOf f).1.length)=true:=by decide +kernel
set_option tactic.hygienic true in
theorem kn_of {mg mb:Str→Option Value} (X:K.In hE) (C:KnC K) (hnl:hE.NoLimit) (hnd:∃ mc,hE.Ns cStatics mc∧mc "sys.int_max_str_digits"=none) (hg:hE.Ns mainGlobals mg) (hb:hE.Ns builtinsNs mb) (hbb:∀ x:Str,x≠"__name__"→mb x=bootBuiltins x)
  (hn:K.lookup 455=some numO) (ht:K.lookup 540=some (turO w)):Kn ⟨K,hE⟩ w:=by
 have ct:∀ {q:Nat×Nat},q∈ctab→(makesIn K q.1=true∧plainGet K q.1 (Str.ofString "")=true)∧plainOver K q.1=true∧hasDictIn K q.1=true:=fun hq=>by
  obtain ⟨h,h4⟩:=and_of (List.all_eq_true.mp C.cm _ hq)
  obtain ⟨h,h3⟩:=and_of h
  exact ⟨and_of h,h3,h4⟩
 refine ⟨⟨X,hnl,hnd,⟨mg,hg,fun p hp=>mg_of X hg (List.map_inj_left.mp C.gs p hp),fun p hp=>mg_none_of X hg (List.map_inj_left.mp C.bs p hp)⟩,mb,hb,fun p hp=>?_⟩,⟨mg,hg,fun p hp=>?_⟩,fun f hf=>List.all_eq_true.mp C.kp f hf,fun q hq=>List.all_eq_true.mp C.kc q hq,fun f hf us hl=>?_,fun f hf=>⟨fun us hl=>?_⟩,fun q hq=>?_,fun q hq=>?_,fun D hD=>?_,?_,?_⟩
 ·rw [hbb p.1 (by have:=List.all_eq_true.mp bs_nm p hp;simpa using this)]
  exact List.map_inj_left.mp bs_boot p hp
 ·have h:=List.map_inj_left.mp C.gi p hp
  obtain ⟨v,e,h⟩:=Option.bind_eq_some_iff.mp h
  obtain ⟨_,e,rfl⟩:=Option.bind_eq_some_iff.mp e
  obtain ⟨t,rfl⟩:=vInt_of h
  exact ⟨t,mg_of X hg e⟩
 ·refine defX_at X C hf hl fun S=>?_
  have:=congrFun (congrFun (List.map_inj_left.mp C.bd f hf) S) (fun i=>us.getD i .none)
  unfold bindP bindE at this
  rw [← hl,argV_eq] at this
  exact this
 ·have hd:=and_of (List.all_eq_true.mp ddl_dad f hf)
  refine defX_at X C (memN_of hd.1) (by rw [List.length_append];exact hl) fun S=>?_
  have:=congrFun (congrFun (List.map_inj_left.mp C.bdd f hf) S) (fun i=>us.getD i .none)
  unfold bindDP bindDE at this
  rw [show (rowOf f).1.length - 1=us.length by rw [← hl];rfl,argV_eq] at this
  exact this
 ·obtain ⟨⟨h1,h2⟩,h3,h4⟩:=ct hq
  refine ⟨⟨h2,List.map_inj_left.mp C.cs q hq,h3,h4,fun n hn=>?_⟩,h1,List.map_inj_left.mp C.ci q hq,List.map_inj_left.mp C.cf q hq⟩
  exact List.map_inj_left.mp (List.map_inj_left.mp C.cn q hq) n (List.contains_iff_mem.mp hn)
 ·exact ⟨List.map_inj_left.mp C.mf q hq,List.map_inj_left.mp C.mt q hq⟩
 ·obtain ⟨h1,h2⟩:=and_of (List.all_eq_true.mp C.ib D hD)
  exact ⟨h1,h2,List.map_inj_left.mp C.ia D hD,C.is,C.it,List.map_inj_left.mp C.im D hD,fun E hE=>List.map_inj_left.mp (List.map_inj_left.mp C.io D hD) E hE⟩
 ·exact ⟨_,_,_,X _ _ hn⟩
 ·refine ⟨894,896,898,900,902,fun prog=>⟨_,_,_,X _ _ ht,⟨rfl,rfl,rfl⟩,rfl,fun e he=>?_,?_,by decide +kernel⟩⟩
  ·have he:e∈turL w:=by simpa using he
   simp only [turL,List.mem_cons,List.not_mem_nil,or_false] at he
   rcases he with rfl | rfl | rfl | rfl | rfl<;>exact ⟨_,isS,rfl⟩
  ·exact .cons isS rfl (.cons isS rfl (.cons isS rfl (.cons isS rfl (.cons isS rfl .nil))))
end
theorem ofPys_int:∀ ns:List Int,ofPys (ns.map PyData.int)=ns.map WData.int
 | []=>rfl
 | n::ns=>by rw [List.map_cons,List.map_cons,← ofPys_int ns];rfl
theorem fin_ok {cl:Str→Option Addr} {mean:ExcName→Option Value} {ns:List Int} {s s':Shared} (h1:∀ b o,s.heap.get? b=some o→s'.heap.get? b=some o) (h2:s'.os=s.os) (h3:s'.gens=s.gens) (hg:s.gens=#[]) :
  GoodWG PySem.Challenge.rw_nt0144_01.row.claim cl mean [ofPy (PyData.list (ns.map PyData.int))] s (.ok (.ret (.bool true))) s':=by
 refine GoodW.toG ⟨.inl ⟨_,.bool true,[],rfl,fun cls=>rfl,.bool _,?_,fun _=>⟨List.nodup_nil,fun _ h=>nomatch h⟩⟩,h1,h2,h3.trans hg⟩
 refine postW_of (X:=true) ?_ ?_ rfl
 ·show WShape.has _ (.bool true) .bool=true
  with_unfolding_all rfl
 ·show WTm.value _ (.eq .res (.lit (.bool true))) _=_
  simp only [WTm.value]
  rw [same_self]
theorem top_ok {K:Frag} {w:World} {s:Shared} {l:Addr} {cl:Str→Option Addr} {mean:ExcName→Option Value} {ns:List Int} {E:Value→Shared→Prop} (W:Kn ⟨K,s.heap⟩ w) (hw:Well w.params s.heap (.ref l) (ofPy (PyData.list (ns.map PyData.int)))) (hz:¬ ((63:Nat):Int)<(ns.length:Int)) (hg:s.gens=#[]) :
  wpAny (mo w) callerA (PySem.call (.ref 1205) [.ref l]) (fun v s'=>GoodWG PySem.Challenge.rw_nt0144_01.row.claim cl mean [ofPy (PyData.list (ns.map PyData.int))] s (.ok (.ret v)) s') E s:=by
 have hw':Well w.params s.heap (.ref l) (.list (ns.map WData.int)):=by rw [← ofPys_int];exact hw
 cases hw' with
 | list h1 h2 =>
  exact wpAny_mono (law_top W h1 h2 (by lia)) (fun v s' ⟨e,h1,h2,h3⟩=>by subst e;exact fin_ok h1 h2 h3 hg) fun _ _ h=>h
end Ev
set_option tactic.hygienic true
set_option backward.match.sparseCases true
namespace Nt.main
noncomputable def tw15899648243263113216:=()
noncomputable def tw1821922677496321024:=()
noncomputable def tw6871783648798120960:=()
noncomputable def tw18373406296100761600:=()
noncomputable def tw11575521087104288832:=()
noncomputable def tw12812344258806755392:=()
noncomputable def tw7964036181034489952:=()
noncomputable def tw8386220296319640704:=()
noncomputable def tw13444726766346101920:=()
noncomputable def tw5803323068348012768:=()
noncomputable def tw2196381814573058304:=()
noncomputable def tw9846944752274008352:=()
noncomputable def tw10006991554589869376:=()
noncomputable def tw435351680767244640:=()
noncomputable def tw11602401360335755648:=()
noncomputable def tw6490160370880146848:=()
noncomputable def tw7226997755192569312:=()
noncomputable def tw10766921342759172576:=()
noncomputable def tw7061219971158867424:=()
noncomputable def tw15735016423333180928:=()
noncomputable def tw10624375429263753792:=()
noncomputable def tw9038353468803940928:=()
noncomputable def tw16290032780632037984:=()
noncomputable def tw5631021071971536480:=()
noncomputable def tw3189348520810752672:=()
noncomputable def tw18327485155262400192:=()
noncomputable def tw585696096664227520:=()
noncomputable def tw8594530168246328000:=()
noncomputable def tw8143683570699508448:=()
noncomputable def tw73044374835277536:=()
noncomputable def tw10263507826387568352:=()
noncomputable def tw11978129421915706112:=()
noncomputable def tw10011553568153301856:=()
noncomputable def tw1661700652529072032:=()
noncomputable def tw15093417987810459552:=()
noncomputable def tw14029844361553876896:=()
noncomputable def tw15018055345124253632:=()
noncomputable def tw16125517835333382080:=()
noncomputable def tw15399749428669432768:=()
noncomputable def tw8298275242907426784:=()
noncomputable def tw14446631282519906305:=()
noncomputable def tw12281438209161369633:=()
noncomputable def tw13285364011857047585:=()
noncomputable def tw5612149902033777697:=()
noncomputable def tw11469127057358987361:=()
noncomputable def tw16904252148346973281:=()
noncomputable def tw8117753009136472193:=()
noncomputable def tw14658915933920049281:=()
noncomputable def tw6400344257414387841:=()
noncomputable def tw12533421093601320097:=()
noncomputable def tw17144339621541632161:=()
noncomputable def tw11641199286347595969:=()
noncomputable def tw4966749036231259329:=()
noncomputable def tw7180289985848604929:=()
noncomputable def tw9173445445030041889:=()
noncomputable def tw13913804636164235617:=()
noncomputable def tw11562628366331356513:=()
noncomputable def tw3286734494344563041:=()
noncomputable def tw16053536823086915969:=()
noncomputable def tw6548597697618541985:=()
noncomputable def tw13599616144181431745:=()
noncomputable def tw9471214749694366145:=()
noncomputable def tw14082777725257701825:=()
noncomputable def tw11510391652758840769:=()
noncomputable def tw15726903460062619073:=()
noncomputable def tw351381203641682401:=()
noncomputable def tw8605189699749081569:=()
noncomputable def tw10453696329878905409:=()
noncomputable def tw3188011168408263233:=()
noncomputable def tw12894078476629251681:=()
noncomputable def tw10720999740912943713:=()
noncomputable def tw10471555851371270753:=()
noncomputable def tw7944325136411864737:=()
noncomputable def tw17677087399622272673:=()
noncomputable def tw16363544925711530689:=()
noncomputable def tw16396099143893257921:=()
noncomputable def tw16814188467199286017:=()
noncomputable def tw4966051579581421377:=()
noncomputable def tw4134597008430170977:=()
noncomputable def tw14169344983954640769:=()
noncomputable def tw7888860836092801953:=()
noncomputable def tw1693631280228664257:=()
noncomputable def tw11033496409915536321:=()
noncomputable def tw9176060573302539233:=()
noncomputable def tw7184106233108717730:=()
noncomputable def tw8520958448238961826:=()
noncomputable def tw8896149911262339266:=()
noncomputable def tw8255942238755929282:=()
noncomputable def tw13054300271594109122:=()
noncomputable def tw9735094178788820194:=()
noncomputable def tw2282576816830276834:=()
noncomputable def tw14098911171212503266:=()
noncomputable def tw17888134885442609442:=()
noncomputable def tw11857320603869035874:=()
noncomputable def tw5531609396905850242:=()
noncomputable def tw3655485435253804418:=()
noncomputable def tw17889791343269414306:=()
noncomputable def tw16997660591189200290:=()
noncomputable def tw15410576974855987618:=()
noncomputable def tw8860336129907562946:=()
noncomputable def tw9745006491042788802:=()
noncomputable def tw1214917749888933314:=()
noncomputable def tw3289302335766638050:=()
noncomputable def tw16701152093007796738:=()
noncomputable def tw15983663086957203010:=()
noncomputable def tw7527786923132270146:=()
noncomputable def tw3697482518273837666:=()
noncomputable def tw2239319681638995586:=()
noncomputable def tw10235018110361925250:=()
noncomputable def tw4057573553305778818:=()
noncomputable def tw10899768221675334306:=()
noncomputable def tw15213118437158536866:=()
noncomputable def tw954708888225992386:=()
noncomputable def tw8390337048469086946:=()
noncomputable def tw6271591144155619042:=()
noncomputable def tw9700049911902358274:=()
noncomputable def tw17234146299130631970:=()
noncomputable def tw14711690194105260834:=()
noncomputable def tw11299507950013188930:=()
noncomputable def tw2419758097306006338:=()
noncomputable def tw13004154700810143554:=()
noncomputable def tw4251833722253366114:=()
noncomputable def tw9128943629492305826:=()
noncomputable def tw16730651534339326882:=()
noncomputable def tw10373883960498384802:=()
noncomputable def tw6762270957415124930:=()
noncomputable def tw14076284954840813506:=()
noncomputable def tw5013255115892383682:=()
noncomputable def tw661372117054243810:=()
noncomputable def tw2659013499615604739:=()
noncomputable def tw7723308935960907811:=()
noncomputable def tw5966696503106828323:=()
noncomputable def tw13475775401170280515:=()
noncomputable def tw7793890977536976963:=()
noncomputable def tw8521178078293058659:=()
noncomputable def tw15984190344784689315:=()
noncomputable def tw4709883047604287651:=()
noncomputable def tw14419753147287186627:=()
noncomputable def tw4972913845597147395:=()
noncomputable def tw8375754319908903171:=()
noncomputable def tw13636768040278663427:=()
noncomputable def tw9133806771158804771:=()
noncomputable def tw2556187985756430659:=()
noncomputable def tw9628706013074206019:=()
noncomputable def tw16364479278223882563:=()
noncomputable def tw1218870254798956899:=()
noncomputable def tw14932899434652591491:=()
noncomputable def tw7738949350910125443:=()
noncomputable def tw10518811145420576163:=()
noncomputable def tw16291474395526714787:=()
noncomputable def tw15374653152943775171:=()
noncomputable def tw10550915213076184515:=()
noncomputable def tw4390689611386941891:=()
noncomputable def tw5951421842103956931:=()
noncomputable def tw4271550486346055203:=()
noncomputable def tw8344881261664439875:=()
noncomputable def tw16058182817473296963:=()
noncomputable def tw18303007429380259427:=()
noncomputable def tw5829021259096585891:=()
noncomputable def tw6308591597057755843:=()
noncomputable def tw17973254773082098403:=()
noncomputable def tw3968432423987267299:=()
noncomputable def tw2794590705727699683:=()
noncomputable def tw12748005173087438595:=()
noncomputable def tw11950102505532292867:=()
noncomputable def tw333769589821483843:=()
noncomputable def tw17682155536587977539:=()
noncomputable def tw4772055833808151395:=()
noncomputable def tw2820990705561843619:=()
noncomputable def tw13781529481098391491:=()
noncomputable def tw18283738916627654627:=()
noncomputable def tw13560768307943357411:=()
noncomputable def tw6780005478663037988:=()
noncomputable def tw10121258257850380356:=()
noncomputable def tw3688156926644250756:=()
noncomputable def tw16353684574024733860:=()
noncomputable def tw5919267901460618404:=()
noncomputable def tw14969089482394470596:=()
noncomputable def tw13409720678359661764:=()
noncomputable def tw1019207554852595940:=()
noncomputable def tw9286884725672707364:=()
noncomputable def tw10738732624036838692:=()
noncomputable def tw7779438699367931236:=()
noncomputable def tw15920506914265842020:=()
noncomputable def tw11643092045502539108:=()
noncomputable def tw10972181375964174724:=()
noncomputable def tw18242774944506625444:=()
noncomputable def tw4662271823779510724:=()
noncomputable def tw17024040900070738404:=()
noncomputable def tw7988748361771945508:=()
noncomputable def tw10363132457330696740:=()
noncomputable def tw2783858460129458756:=()
noncomputable def tw6298175186063570532:=()
noncomputable def tw18431730975828861572:=()
noncomputable def tw11366832288664538788:=()
noncomputable def tw8156308669513940708:=()
noncomputable def tw5469227740068951812:=()
noncomputable def tw1612154795732226852:=()
noncomputable def tw9686010948840138628:=()
noncomputable def tw8864038762936193956:=()
noncomputable def tw14688146899137420260:=()
noncomputable def tw10759311181598361605:=()
noncomputable def tw5500491327935674373:=()
noncomputable def tw17723718184540077061:=()
noncomputable def tw9779063933157058597:=()
noncomputable def tw15311073833460631621:=()
noncomputable def tw2325158982604163141:=()
noncomputable def tw14690793683681483845:=()
noncomputable def tw16267088737266183237:=()
noncomputable def tw12482844377435984965:=()
noncomputable def tw17588263520582429829:=()
noncomputable def tw5204715302695014565:=()
noncomputable def tw2589611913833851045:=()
noncomputable def tw9694586935483623589:=()
noncomputable def tw1959052399815428325:=()
noncomputable def tw5998520381337130245:=()
noncomputable def tw15493529354006958373:=()
noncomputable def tw3450952421321219365:=()
noncomputable def tw16144238114257119525:=()
noncomputable def tw13366380303189747013:=()
noncomputable def tw6702260321149535557:=()
noncomputable def tw12076920192022984037:=()
noncomputable def tw7790384020976067941:=()
noncomputable def tw7503419164994571685:=()
noncomputable def tw1054340417994090981:=()
noncomputable def tw17355599439330209253:=()
noncomputable def tw1363331945391405573:=()
noncomputable def tw9998372907455441445:=()
noncomputable def tw4925674932763865669:=()
noncomputable def tw12474849859346299461:=()
noncomputable def tw13600693168208407205:=()
noncomputable def tw16041395177515100869:=()
noncomputable def tw7274638138562697925:=()
noncomputable def tw10326678511300367141:=()
noncomputable def tw17827840888835630917:=()
noncomputable def tw15573207248194522981:=()
noncomputable def tw12295597007157255013:=()
noncomputable def tw14876383717304492901:=()
noncomputable def tw18135469187744718725:=()
noncomputable def tw17070689694885282725:=()
noncomputable def tw17467894464421193669:=()
noncomputable def tw1268961374835359750:=()
noncomputable def tw6958231247370325030:=()
noncomputable def tw14303039883602397222:=()
noncomputable def tw10469536209429802054:=()
noncomputable def tw11871109385423534182:=()
noncomputable def tw17478084388575081574:=()
noncomputable def tw12260250239190059142:=()
noncomputable def tw1296842533054264486:=()
noncomputable def tw17586623405623045286:=()
noncomputable def tw9914269307548041414:=()
noncomputable def tw17354949295445808326:=()
noncomputable def tw17740666592000142534:=()
noncomputable def tw3808593776213328102:=()
noncomputable def tw6934461702342061286:=()
noncomputable def tw6797516861358013702:=()
noncomputable def tw2603387524588128518:=()
noncomputable def tw5473641713464316198:=()
noncomputable def tw1189395256340873542:=()
noncomputable def tw9699547233872293190:=()
noncomputable def tw17827785386390128998:=()
noncomputable def tw4978345806951090566:=()
noncomputable def tw7255300533422936454:=()
noncomputable def tw4575580913152543174:=()
noncomputable def tw13214306157337664966:=()
noncomputable def tw5563744839799961062:=()
noncomputable def tw4030806089264803334:=()
noncomputable def tw12123900576841921030:=()
noncomputable def tw3867593039199598086:=()
noncomputable def tw7819618949766848038:=()
noncomputable def tw11447524601138426438:=()
noncomputable def tw6770881341914415750:=()
noncomputable def tw8532698298676022918:=()
noncomputable def tw17215706337369838214:=()
noncomputable def tw17641429404564291334:=()
noncomputable def tw14050816156025025286:=()
noncomputable def tw4513959454669799270:=()
noncomputable def tw2923951698960400262:=()
noncomputable def tw1714305582399087494:=()
noncomputable def tw3251050592536573862:=()
noncomputable def tw11188926791162070982:=()
noncomputable def tw11980775776341658566:=()
noncomputable def tw8726193554099948486:=()
noncomputable def tw5242618956726770662:=()
noncomputable def tw7008640217431397350:=()
noncomputable def tw7077280631928986631:=()
noncomputable def tw6994115873109242951:=()
noncomputable def tw12314760378125800551:=()
noncomputable def tw6295259056598575207:=()
noncomputable def tw6090692781314544775:=()
noncomputable def tw10852734341666970823:=()
noncomputable def tw6657705175484767431:=()
noncomputable def tw3978537488438289607:=()
noncomputable def tw1614075777876456679:=()
noncomputable def tw8710297888383272263:=()
noncomputable def tw11733596286803494215:=()
noncomputable def tw18441271429251646791:=()
noncomputable def tw10975764658457288039:=()
noncomputable def tw15107698912969472359:=()
noncomputable def tw17546049678991913415:=()
noncomputable def tw35758581175985639:=()
noncomputable def tw12291636732808176135:=()
noncomputable def tw16533975560979864103:=()
noncomputable def tw4591117665961584199:=()
noncomputable def tw6956519158177104551:=()
noncomputable def tw11486301254181030567:=()
noncomputable def tw8476847461626198695:=()
noncomputable def tw3399399804251847335:=()
noncomputable def tw8074763304133803687:=()
noncomputable def tw14188289610633155271:=()
noncomputable def tw10290020614429531847:=()
noncomputable def tw4325759291824763591:=()
noncomputable def tw17537620253009651463:=()
noncomputable def tw12334238652036447015:=()
noncomputable def tw5812034585309435751:=()
noncomputable def tw6859177355436699527:=()
noncomputable def tw9180468389647128487:=()
noncomputable def tw945970347507791783:=()
noncomputable def tw3499684483178062759:=()
noncomputable def tw11705620982289401799:=()
noncomputable def tw14357978055672612807:=()
noncomputable def tw562331533954802631:=()
noncomputable def tw16455829904435501031:=()
noncomputable def tw14726575395029781608:=()
noncomputable def tw3653089793557606536:=()
noncomputable def tw2159379542541704360:=()
noncomputable def tw14793316432702310600:=()
noncomputable def tw17858544054235157736:=()
noncomputable def tw3769818870923504904:=()
noncomputable def tw9932277532767187240:=()
noncomputable def tw16130081211143373128:=()
noncomputable def tw2206132563221110088:=()
noncomputable def tw4545085812761951560:=()
noncomputable def tw5780226745744605576:=()
noncomputable def tw12471519322132975016:=()
noncomputable def tw9645867333253226920:=()
noncomputable def tw11251399682527578568:=()
noncomputable def tw16562952115475928552:=()
noncomputable def tw2441961587650517512:=()
noncomputable def tw2901858454723787272:=()
noncomputable def tw17034018633499441672:=()
noncomputable def tw11097067665370788392:=()
noncomputable def tw733621143774714408:=()
noncomputable def tw2680305477006042696:=()
noncomputable def tw12751214544932751944:=()
noncomputable def tw5807185233217462888:=()
noncomputable def tw16827492495749387880:=()
noncomputable def tw14984710311578821256:=()
noncomputable def tw7155802113896755880:=()
noncomputable def tw7034322726942295752:=()
noncomputable def tw10345462451610665704:=()
noncomputable def tw9895910927384418024:=()
noncomputable def tw11404328723045007112:=()
noncomputable def tw7630773597634508584:=()
noncomputable def tw6099439659128111912:=()
noncomputable def tw3497943350024557352:=()
noncomputable def tw15265431182976184136:=()
noncomputable def tw8160092832037390184:=()
noncomputable def tw14338867533819279240:=()
noncomputable def tw9253483898133466024:=()
noncomputable def tw17705235892513684456:=()
noncomputable def tw15107346467041858569:=()
noncomputable def tw8562243446317037609:=()
noncomputable def tw12483098077094905961:=()
noncomputable def tw18193713298834936937:=()
noncomputable def tw16442182803261666505:=()
noncomputable def tw10018602200136440073:=()
noncomputable def tw2692535735796849929:=()
noncomputable def tw4796161943391238409:=()
noncomputable def tw1116662319723612457:=()
noncomputable def tw4407811368859356457:=()
noncomputable def tw12656803936287791433:=()
noncomputable def tw2753029742961476937:=()
noncomputable def tw8175648272053797225:=()
noncomputable def tw11266277193821068681:=()
noncomputable def tw2310363824921235849:=()
noncomputable def tw5788426203465766281:=()
noncomputable def tw13169093768172214697:=()
noncomputable def tw17885928269673613737:=()
noncomputable def tw18365463491643277801:=()
noncomputable def tw18070650926966021641:=()
noncomputable def tw4062428390109352489:=()
noncomputable def tw4297636645063713321:=()
noncomputable def tw16098672870538839625:=()
noncomputable def tw3131826154876445289:=()
noncomputable def tw15415195113736678025:=()
noncomputable def tw17796416571291048617:=()
noncomputable def tw9548565440717512361:=()
noncomputable def tw8972543953170959049:=()
noncomputable def tw10770807450781411017:=()
noncomputable def tw8926877212459396841:=()
noncomputable def tw5635816721725657929:=()
noncomputable def tw17593484364657614665:=()
noncomputable def tw6046309180539904905:=()
noncomputable def tw11148479396435740553:=()
noncomputable def tw10418168550538118057:=()
noncomputable def tw11753882988370905001:=()
noncomputable def tw14354323420308788137:=()
noncomputable def tw18339116566729183209:=()
noncomputable def tw4741478893295633418:=()
noncomputable def tw3577253353812147210:=()
noncomputable def tw15596289281064066058:=()
noncomputable def tw1617689700786414634:=()
noncomputable def tw8834936911825179786:=()
noncomputable def tw8047315136926967946:=()
noncomputable def tw2704679796514189450:=()
noncomputable def tw17595575189368807594:=()
noncomputable def tw16097133868947123370:=()
noncomputable def tw3266384929354922186:=()
noncomputable def tw3657684472627586250:=()
noncomputable def tw3541836300958336266:=()
noncomputable def tw7436326451169484042:=()
noncomputable def tw2294054059402883370:=()
noncomputable def tw11489028949636224362:=()
noncomputable def tw15800112673985646954:=()
noncomputable def tw6030813205409210794:=()
noncomputable def tw18178688254645972490:=()
noncomputable def tw14780419064164918826:=()
noncomputable def tw9526259234839833130:=()
noncomputable def tw4076497028107577962:=()
noncomputable def tw9630537760505261674:=()
noncomputable def tw18341978704259828362:=()
noncomputable def tw10935804056169360042:=()
noncomputable def tw7347151535197311658:=()
noncomputable def tw7502788985329749738:=()
noncomputable def tw4069740365528937194:=()
noncomputable def tw6221012573589819114:=()
noncomputable def tw5645642894911399690:=()
noncomputable def tw6879956517272734506:=()
noncomputable def tw11526924981519227754:=()
noncomputable def tw3540106810337745770:=()
noncomputable def tw4656805834429241322:=()
noncomputable def tw10390883608877279210:=()
noncomputable def tw2995583718212265995:=()
noncomputable def tw8972058914812917803:=()
noncomputable def tw14495772375785903179:=()
noncomputable def tw9272674753588327499:=()
noncomputable def tw7584212268854923371:=()
noncomputable def tw7680852116449176683:=()
noncomputable def tw5530096987641291947:=()
noncomputable def tw12040597842015374507:=()
noncomputable def tw12454493885483099339:=()
noncomputable def tw13786513012484276459:=()
noncomputable def tw18260233443379219723:=()
noncomputable def tw7896315413371065643:=()
noncomputable def tw1926213008395477355:=()
noncomputable def tw7858582393714820459:=()
noncomputable def tw12567946232040860043:=()
noncomputable def tw4145736204371307915:=()
noncomputable def tw15854167820222841259:=()
noncomputable def tw3193831196408975819:=()
noncomputable def tw8846391482144973259:=()
noncomputable def tw989775977323718091:=()
noncomputable def tw3027448761726712363:=()
noncomputable def tw13318367768466220587:=()
noncomputable def tw1863202257998706251:=()
noncomputable def tw9212219360800531019:=()
noncomputable def tw2750008444837838443:=()
noncomputable def tw6010449965138498155:=()
noncomputable def tw432483917359638123:=()
noncomputable def tw94417850420690539:=()
noncomputable def tw1871893905983725195:=()
noncomputable def tw16407931460974525099:=()
noncomputable def tw6783890322266729163:=()
noncomputable def tw18025249175318441675:=()
noncomputable def tw17276810452589031115:=()
noncomputable def tw6720910016812472075:=()
noncomputable def tw11528535018189878027:=()
noncomputable def tw12770112677802415915:=()
noncomputable def tw4814128897988700971:=()
noncomputable def tw7489966543996634923:=()
noncomputable def tw4001780083052993387:=()
noncomputable def tw3913835140464575371:=()
noncomputable def tw13470288737491590059:=()
noncomputable def tw18236096690325430219:=()
noncomputable def tw13614605078905708491:=()
noncomputable def tw9725484027208402923:=()
noncomputable def tw2292043577417324523:=()
noncomputable def tw18066802319297473548:=()
noncomputable def tw4037015126536163372:=()
noncomputable def tw13301847388221500492:=()
noncomputable def tw15844458494907489388:=()
noncomputable def tw8920969686411203692:=()
noncomputable def tw16994030994403294316:=()
noncomputable def tw6149963859766206604:=()
noncomputable def tw16153957291345475724:=()
noncomputable def tw3377066462977961164:=()
noncomputable def tw17289082874390752460:=()
noncomputable def tw7627430723596873964:=()
noncomputable def tw17122251079638159628:=()
noncomputable def tw14814126833879803148:=()
noncomputable def tw4085813856216888620:=()
noncomputable def tw9040890596272253260:=()
noncomputable def tw11001620974076063052:=()
noncomputable def tw4152977620322290028:=()
noncomputable def tw11963627265737826668:=()
noncomputable def tw18430499804132856172:=()
noncomputable def tw1881891671049823596:=()
noncomputable def tw14617728081620420012:=()
noncomputable def tw7291702972691087820:=()
noncomputable def tw16335926772667387340:=()
noncomputable def tw5973954399181273580:=()
noncomputable def tw5629323477035542028:=()
noncomputable def tw8774455306618529292:=()
noncomputable def tw11322020378158746156:=()
noncomputable def tw3383990068843336268:=()
noncomputable def tw9018742761917187724:=()
noncomputable def tw8828385371429619340:=()
noncomputable def tw8249272036182642316:=()
noncomputable def tw10659803602593380044:=()
noncomputable def tw14213514272624835276:=()
noncomputable def tw17723434156233504556:=()
noncomputable def tw6990340220146385740:=()
noncomputable def tw13187251378731488076:=()
noncomputable def tw18313260729195439948:=()
noncomputable def tw10616835997021808492:=()
noncomputable def tw889675463046457260:=()
noncomputable def tw4805192859489366956:=()
noncomputable def tw13470719358818232268:=()
noncomputable def tw17943952075056205837:=()
noncomputable def tw1649153153973846061:=()
noncomputable def tw8714678863444773965:=()
noncomputable def tw14246504668742170701:=()
noncomputable def tw12140809459729098829:=()
noncomputable def tw2930621267729121389:=()
noncomputable def tw5230941850937887917:=()
noncomputable def tw1402081396430545069:=()
noncomputable def tw1961351007453745357:=()
noncomputable def tw9036726746470861005:=()
noncomputable def tw15287747994846191821:=()
noncomputable def tw11496787624713817325:=()
noncomputable def tw10209973352526107917:=()
noncomputable def tw3965958359040609581:=()
noncomputable def tw14754919031603011917:=()
noncomputable def tw9697750632159291725:=()
noncomputable def tw572272266697605517:=()
noncomputable def tw9485936806354387341:=()
noncomputable def tw17376500504041834925:=()
noncomputable def tw17181870225646442925:=()
noncomputable def tw6690185148021165517:=()
noncomputable def tw14921737072640428525:=()
noncomputable def tw12491681447383223789:=()
noncomputable def tw8739572693161558541:=()
noncomputable def tw7200368884958091789:=()
noncomputable def tw12454766444185517581:=()
noncomputable def tw17142193254732648045:=()
noncomputable def tw3380251613053678221:=()
noncomputable def tw10126949396121553645:=()
noncomputable def tw16732653881554228973:=()
noncomputable def tw9268843443081747213:=()
noncomputable def tw8819172660956082957:=()
noncomputable def tw11926285475167969069:=()
noncomputable def tw9421619588820251437:=()
noncomputable def tw1257462893509829421:=()
noncomputable def tw11883358824542443341:=()
noncomputable def tw3766297774850525005:=()
noncomputable def tw12939557232091799437:=()
noncomputable def tw10364191736425855917:=()
noncomputable def tw11026285664484941773:=()
noncomputable def tw14576065728489695278:=()
noncomputable def tw15083691836864789614:=()
noncomputable def tw8550892156697747598:=()
noncomputable def tw14108448730314698990:=()
noncomputable def tw427371380659089678:=()
noncomputable def tw14243749441770071342:=()
noncomputable def tw16908463072792393006:=()
noncomputable def tw901201423678280014:=()
noncomputable def tw4858305826363259214:=()
noncomputable def tw1899200045061202254:=()
noncomputable def tw16919345601305562542:=()
noncomputable def tw11163114770415778222:=()
noncomputable def tw8199423836308045230:=()
noncomputable def tw5380630129365253550:=()
noncomputable def tw15448779525920928206:=()
noncomputable def tw7552704886990713294:=()
noncomputable def tw12520220663427388878:=()
noncomputable def tw10133367687635556814:=()
noncomputable def tw12712127251987076590:=()
noncomputable def tw3956132627414940142:=()
noncomputable def tw3850099812908088846:=()
noncomputable def tw15917534261439886862:=()
noncomputable def tw14621954626419979822:=()
noncomputable def tw13599865883819806286:=()
noncomputable def tw7873934191537431118:=()
noncomputable def tw2871080101086924398:=()
noncomputable def tw17774735973593527918:=()
noncomputable def tw14466625675326774894:=()
noncomputable def tw10710630582061529742:=()
noncomputable def tw16441728287814223534:=()
noncomputable def tw13192210141908094638:=()
noncomputable def tw13738330719140448974:=()
noncomputable def tw2796278002837029614:=()
noncomputable def tw17329652259627311886:=()
noncomputable def tw5171276681589926702:=()
noncomputable def tw15678181746547270478:=()
noncomputable def tw11040598819168226158:=()
noncomputable def tw12668121539705167726:=()
noncomputable def tw10113147073865230222:=()
noncomputable def tw12567159357339749262:=()
noncomputable def tw1095896059376008078:=()
noncomputable def tw12578826039644110766:=()
noncomputable def tw10543937101867912142:=()
noncomputable def tw5210439100963833838:=()
noncomputable def tw2847565374906366958:=()
noncomputable def tw15420260498308438031:=()
noncomputable def tw6538784435286262799:=()
noncomputable def tw9469119333335005231:=()
noncomputable def tw13523859539779686511:=()
noncomputable def tw4074899046574927983:=()
noncomputable def tw274952662254369903:=()
noncomputable def tw965602442697021615:=()
noncomputable def tw16100356052249624751:=()
noncomputable def tw15810561734047899855:=()
noncomputable def tw13339964427785752815:=()
noncomputable def tw9532464255788147951:=()
noncomputable def tw8443800555822227727:=()
noncomputable def tw11730515790906417423:=()
noncomputable def tw8027454822315847951:=()
noncomputable def tw483817301954782511:=()
noncomputable def tw14410335222706255183:=()
noncomputable def tw3179398392146105743:=()
noncomputable def tw2579257517932561807:=()
noncomputable def tw14175769349655683471:=()
noncomputable def tw15089992532762914223:=()
noncomputable def tw10646374905395742159:=()
noncomputable def tw1302051492127812047:=()
noncomputable def tw3980226684821680591:=()
noncomputable def tw12810476405682704943:=()
noncomputable def tw3614240443127648815:=()
noncomputable def tw13888699156198319663:=()
noncomputable def tw9475281805733633679:=()
noncomputable def tw15773191191495195311:=()
noncomputable def tw8864923155218351791:=()
noncomputable def tw16641763416213390031:=()
noncomputable def tw6285764719542119119:=()
noncomputable def tw8402309176113551055:=()
noncomputable def tw10227679507679949583:=()
noncomputable def tw5510283684959177487:=()
noncomputable def tw10487006320645957391:=()
noncomputable def tw4355335682314768175:=()
noncomputable def tw8941943490286683983:=()
noncomputable def tw3060247027379721039:=()
noncomputable def tw17048515262045153103:=()
noncomputable def tw9517809843499025263:=()
noncomputable def tw9617277231699292015:=()
noncomputable def tw1765312414786325391:=()
noncomputable def tw17359088972423401359:=()
noncomputable def tw10612263715414610927:=()
noncomputable def tw377613283350931472:=()
noncomputable def tw1803667945069015088:=()
noncomputable def tw11389359605536445520:=()
noncomputable def tw9361871500806744176:=()
noncomputable def tw16593055474120068272:=()
noncomputable def tw17845608026965588144:=()
noncomputable def tw10375630498080404688:=()
noncomputable def tw7970700323432227056:=()
noncomputable def tw7060202702197795088:=()
noncomputable def tw9150026810025886000:=()
noncomputable def tw15191280749385560464:=()
noncomputable def tw9786646792426731952:=()
noncomputable def tw7022338043218575888:=()
noncomputable def tw7989186981283360272:=()
noncomputable def tw3554415533795373584:=()
noncomputable def tw13555174928679581232:=()
noncomputable def tw11353713659992204848:=()
noncomputable def tw15917426023323742800:=()
noncomputable def tw18370067397782351504:=()
noncomputable def tw12776687028919186064:=()
noncomputable def tw12621150748337059504:=()
noncomputable def tw2872804676889529040:=()
noncomputable def tw4047600362740505296:=()
noncomputable def tw2620435154900439792:=()
noncomputable def tw4117600139871180528:=()
noncomputable def tw9599654802754100016:=()
noncomputable def tw8996325531822038864:=()
noncomputable def tw14570815259303338832:=()
noncomputable def tw3876021354637917008:=()
noncomputable def tw3903719408346154864:=()
noncomputable def tw12829767125961807760:=()
noncomputable def tw11143037536577861520:=()
noncomputable def tw12666876392158177200:=()
noncomputable def tw10054954343370014640:=()
noncomputable def tw2638005474647587792:=()
noncomputable def tw6095686498615640048:=()
noncomputable def tw9024241316397966353:=()
noncomputable def tw17612425944136671281:=()
noncomputable def tw15931316177936851025:=()
noncomputable def tw12991278817607209041:=()
noncomputable def tw5044070455812036753:=()
noncomputable def tw14029915389359528081:=()
noncomputable def tw18361392940338985137:=()
noncomputable def tw3428897967621130417:=()
noncomputable def tw1364423301593271505:=()
noncomputable def tw2726453551110785265:=()
noncomputable def tw17239983174454761713:=()
noncomputable def tw13866550036153079057:=()
noncomputable def tw10531036105018135825:=()
noncomputable def tw4348656934614178097:=()
noncomputable def tw16487871997522469169:=()
noncomputable def tw11022760480188196177:=()
noncomputable def tw9663727545825441137:=()
noncomputable def tw688079175481704817:=()
noncomputable def tw7626275412377138545:=()
noncomputable def tw6838365959426041233:=()
noncomputable def tw9750030095273346481:=()
noncomputable def tw2343756458831278513:=()
noncomputable def tw10746506820448781777:=()
noncomputable def tw4539334527824695761:=()
noncomputable def tw9491166920219249105:=()
noncomputable def tw10838437881424203217:=()
noncomputable def tw17715371396455977425:=()
noncomputable def tw5094216013394205137:=()
noncomputable def tw18017163497251468817:=()
noncomputable def tw16363057925560307249:=()
noncomputable def tw255493108606768689:=()
noncomputable def tw4386432012822261297:=()
noncomputable def tw6484025909279556177:=()
noncomputable def tw17924348600905822801:=()
noncomputable def tw16127211342329104017:=()
noncomputable def tw16526033213416007345:=()
noncomputable def tw7241014198097574577:=()
noncomputable def tw5579484644792580817:=()
noncomputable def tw900064223242523377:=()
noncomputable def tw16800958621443226353:=()
noncomputable def tw5798473764572701521:=()
noncomputable def tw18072234065269159761:=()
noncomputable def tw6050305633547482993:=()
noncomputable def tw4854692106893139889:=()
noncomputable def tw16390159019642370993:=()
noncomputable def tw10075033234579968977:=()
noncomputable def tw18330297103482703825:=()
noncomputable def tw5237352518014503954:=()
noncomputable def tw8739321222022546450:=()
noncomputable def tw4782012609154277394:=()
noncomputable def tw17555467773950521426:=()
noncomputable def tw16358691692767182962:=()
noncomputable def tw15165138208273373330:=()
noncomputable def tw7691942819982383282:=()
noncomputable def tw4571732206063657138:=()
noncomputable def tw14190434930239021266:=()
noncomputable def tw2909346828034909426:=()
noncomputable def tw836173646245925138:=()
noncomputable def tw7740286445397159218:=()
noncomputable def tw1022244236264882482:=()
noncomputable def tw814584058305269074:=()
noncomputable def tw8886308217901647218:=()
noncomputable def tw2585352751721034098:=()
noncomputable def tw12438614554644294034:=()
noncomputable def tw2739493472490040722:=()
noncomputable def tw10302809624666925458:=()
noncomputable def tw10482188515501703602:=()
noncomputable def tw11670507544600795634:=()
noncomputable def tw16407494266238840338:=()
noncomputable def tw6023748459676020274:=()
noncomputable def tw10728197119833677394:=()
noncomputable def tw14322054370247554674:=()
noncomputable def tw16430949648383860338:=()
noncomputable def tw4247076515934398066:=()
noncomputable def tw10679982146995924626:=()
noncomputable def tw612205102265311954:=()
noncomputable def tw12232770217424414418:=()
noncomputable def tw8952980209336226578:=()
noncomputable def tw13332534948839926578:=()
noncomputable def tw13841709583636337490:=()
noncomputable def tw13509500478019365778:=()
noncomputable def tw14700535466155503570:=()
noncomputable def tw12061801501736232946:=()
noncomputable def tw16955259233548520467:=()
noncomputable def tw7537792924351463475:=()
noncomputable def tw10188003115405739059:=()
noncomputable def tw10229869359263766579:=()
noncomputable def tw4700888525000439859:=()
noncomputable def tw1597281381012586579:=()
noncomputable def tw12832349615363670131:=()
noncomputable def tw15981545299344559251:=()
noncomputable def tw11135209653679902867:=()
noncomputable def tw11324294229657762995:=()
noncomputable def tw337463096281554099:=()
noncomputable def tw15244546633323841747:=()
noncomputable def tw15770858694039876819:=()
noncomputable def tw6948987274621008115:=()
noncomputable def tw12386001745931614451:=()
noncomputable def tw11712134672313536787:=()
noncomputable def tw3751248021136893203:=()
noncomputable def tw9669549944392694067:=()
noncomputable def tw12012876732217563475:=()
noncomputable def tw789676630384220531:=()
noncomputable def tw15789922533712420211:=()
noncomputable def tw18135442119234919859:=()
noncomputable def tw2197086609876521427:=()
noncomputable def tw7597363749962483219:=()
noncomputable def tw14239429339941469715:=()
noncomputable def tw14319996478063218227:=()
noncomputable def tw11826644637871252019:=()
noncomputable def tw10771747992470958675:=()
noncomputable def tw629357303269299827:=()
noncomputable def tw15580916327298011827:=()
noncomputable def tw15429129387788710579:=()
noncomputable def tw2650881262773225139:=()
noncomputable def tw3985822578967215795:=()
noncomputable def tw16142434994705213139:=()
noncomputable def tw7796975423057477363:=()
noncomputable def tw16418045228179691283:=()
noncomputable def tw16273260210114217747:=()
noncomputable def tw7769804300182180627:=()
noncomputable def tw11840312747717884723:=()
noncomputable def tw2681442847510057843:=()
noncomputable def tw17899226444156455859:=()
noncomputable def tw2948671385616535475:=()
noncomputable def tw14900508872507978675:=()
noncomputable def tw259368778638639059:=()
noncomputable def tw6653035738163120115:=()
noncomputable def tw18288706504824841203:=()
noncomputable def tw13805294479338372083:=()
noncomputable def tw6345191661717388340:=()
noncomputable def tw11984667712422174836:=()
noncomputable def tw4704272721848200308:=()
noncomputable def tw15908153028727599220:=()
noncomputable def tw6813787507235708052:=()
noncomputable def tw4452478770238294196:=()
noncomputable def tw2709669469739470036:=()
noncomputable def tw9629802604151210228:=()
noncomputable def tw7892611889304899828:=()
noncomputable def tw16525239737920287988:=()
noncomputable def tw17774875732386122004:=()
noncomputable def tw12326230236839610676:=()
noncomputable def tw6178561249499780404:=()
noncomputable def tw1073120069642728756:=()
noncomputable def tw4980329745098361140:=()
noncomputable def tw11707317338356079924:=()
noncomputable def tw1790518354343857492:=()
noncomputable def tw23154747368680788:=()
noncomputable def tw4488541764234123636:=()
noncomputable def tw9374264239197397364:=()
noncomputable def tw5196605768054754676:=()
noncomputable def tw2401187461778337140:=()
noncomputable def tw18368420030291136916:=()
noncomputable def tw4458048377571154324:=()
noncomputable def tw9737946588710749588:=()
noncomputable def tw17368528338762618292:=()
noncomputable def tw17579101530289035700:=()
noncomputable def tw14025658171450499540:=()
noncomputable def tw10800604376778064340:=()
noncomputable def tw12246253211121767892:=()
noncomputable def tw8839571123763298804:=()
noncomputable def tw10805129669212009972:=()
noncomputable def tw16848563974171229684:=()
noncomputable def tw16521348663476894228:=()
noncomputable def tw10718286269018069524:=()
noncomputable def tw13912344178374401556:=()
noncomputable def tw17564315684649083444:=()
noncomputable def tw2158716565521392180:=()
noncomputable def tw6786048123972923988:=()
noncomputable def tw6749715586030669428:=()
noncomputable def tw6517756153635144372:=()
noncomputable def tw4363179559571394228:=()
noncomputable def tw15962430863101499060:=()
noncomputable def tw9667124572558111412:=()
noncomputable def tw5826972825896194836:=()
noncomputable def tw5409306726823187252:=()
noncomputable def tw1083690480552215412:=()
noncomputable def tw10490971051081828212:=()
noncomputable def tw7615893318673560436:=()
noncomputable def tw3263708929242483604:=()
noncomputable def tw12834800797657903028:=()
noncomputable def tw13393661204647190516:=()
noncomputable def tw8959747796892029940:=()
noncomputable def tw3845305587236632564:=()
noncomputable def tw7856931524880317461:=()
noncomputable def tw5411668288266499093:=()
noncomputable def tw16771354879181034549:=()
noncomputable def tw707076988469282901:=()
noncomputable def tw597762107278244949:=()
noncomputable def tw14508354192127433845:=()
noncomputable def tw16945735359487838453:=()
noncomputable def tw6669777243154111733:=()
noncomputable def tw10683521492060487989:=()
noncomputable def tw12332896399747345717:=()
noncomputable def tw1902226891845277045:=()
noncomputable def tw8031902150601061749:=()
noncomputable def tw14073456035044476277:=()
noncomputable def tw17757332644943218069:=()
noncomputable def tw5471316737047570901:=()
noncomputable def tw2462742122356105685:=()
noncomputable def tw5417456221131403733:=()
noncomputable def tw10974020223735207509:=()
noncomputable def tw15382431553794430549:=()
noncomputable def tw14692119426558646933:=()
noncomputable def tw7989185903749058261:=()
noncomputable def tw10318477084423979765:=()
noncomputable def tw3387642239893827317:=()
noncomputable def tw1626658350771515221:=()
noncomputable def tw5635236715729604469:=()
noncomputable def tw18308217703546817429:=()
noncomputable def tw5820677794312720341:=()
noncomputable def tw17085058797657009141:=()
noncomputable def tw6119420020949827573:=()
noncomputable def tw17493769382619559958:=()
noncomputable def tw11471203244011277334:=()
noncomputable def tw3512359476428815414:=()
noncomputable def tw16740871549586731094:=()
noncomputable def tw5882890128901937270:=()
noncomputable def tw3653889842292609238:=()
noncomputable def tw11598787414092448022:=()
noncomputable def tw10603696770581340438:=()
noncomputable def tw2897967726686777622:=()
noncomputable def tw10188640506851945750:=()
noncomputable def tw15435116865891418454:=()
noncomputable def tw17821691813439900022:=()
noncomputable def tw10712361478949452150:=()
noncomputable def tw4634283121349838198:=()
noncomputable def tw9114564555758807446:=()
noncomputable def tw9140544883598919222:=()
noncomputable def tw13790243175144195670:=()
noncomputable def tw6162337600679887478:=()
noncomputable def tw7546906115665282710:=()
noncomputable def tw1863803684003745494:=()
noncomputable def tw2837232449036602070:=()
noncomputable def tw9760261205455301334:=()
noncomputable def tw11094339924424671990:=()
noncomputable def tw14955351007475605270:=()
noncomputable def tw4957129120911758134:=()
noncomputable def tw8147782605575274294:=()
noncomputable def tw1900416830271013686:=()
noncomputable def tw1662499992399172406:=()
noncomputable def tw9617235726520976214:=()
noncomputable def tw5894082288039266134:=()
noncomputable def tw14597500809145665366:=()
noncomputable def tw14340825997658930038:=()
noncomputable def tw10026412554493712246:=()
noncomputable def tw4672397571513728982:=()
noncomputable def tw5420301345439154134:=()
noncomputable def tw11701153005543461878:=()
noncomputable def tw1788150534153154550:=()
noncomputable def tw2292030253819317238:=()
noncomputable def tw518000339556816886:=()
noncomputable def tw8101152010665166871:=()
noncomputable def tw17026884234716306487:=()
noncomputable def tw5131649610489310327:=()
noncomputable def tw6813639527527037079:=()
noncomputable def tw6612450633576859831:=()
noncomputable def tw18221915894656102583:=()
noncomputable def tw675194435346178263:=()
noncomputable def tw8054358982490412279:=()
noncomputable def tw15760856498573648151:=()
noncomputable def tw14277823201039307031:=()
noncomputable def tw10744487543018807575:=()
noncomputable def tw17690168127251125591:=()
noncomputable def tw1764190653870293335:=()
noncomputable def tw13430635772953468279:=()
noncomputable def tw6124430827372783991:=()
noncomputable def tw17941347804524942743:=()
noncomputable def tw13934357267606120855:=()
noncomputable def tw5132077269561326999:=()
noncomputable def tw4673176101129313687:=()
noncomputable def tw5812995188464628151:=()
noncomputable def tw8630598647500245463:=()
noncomputable def tw12607832509986965975:=()
noncomputable def tw10792061304056880631:=()
noncomputable def tw10571506630883509783:=()
noncomputable def tw12368719668889847351:=()
noncomputable def tw11976147083493546551:=()
noncomputable def tw2768494038784531063:=()
noncomputable def tw15072896863305802391:=()
noncomputable def tw11555209155343063735:=()
noncomputable def tw10592378718222199543:=()
noncomputable def tw18149670547889762071:=()
noncomputable def tw17528615873765849879:=()
noncomputable def tw14112145248231542551:=()
noncomputable def tw3495965995113800471:=()
noncomputable def tw2899954318978902839:=()
noncomputable def tw12500254557745890167:=()
noncomputable def tw17384460834116156311:=()
noncomputable def tw2171802874522877879:=()
noncomputable def tw2761593482847801271:=()
noncomputable def tw4204607573929423799:=()
noncomputable def tw17638461469835924439:=()
noncomputable def tw4997833143032170487:=()
noncomputable def tw6950580769478352952:=()
noncomputable def tw7509491072734425144:=()
noncomputable def tw11274614409277104216:=()
noncomputable def tw10427122786837013592:=()
noncomputable def tw1574234888972834936:=()
noncomputable def tw1639147269861135480:=()
noncomputable def tw5704982734338493592:=()
noncomputable def tw11638859718523050136:=()
noncomputable def tw916640821172337816:=()
noncomputable def tw5353783502048336056:=()
noncomputable def tw9627659315645661432:=()
noncomputable def tw5869975077291285752:=()
noncomputable def tw10810744675238805784:=()
noncomputable def tw1774168073320858904:=()
noncomputable def tw9002380785566034264:=()
noncomputable def tw13974846693360539000:=()
noncomputable def tw11740832686387468696:=()
noncomputable def tw16642559365376835000:=()
noncomputable def tw11066088844294764984:=()
noncomputable def tw10858791372140208664:=()
noncomputable def tw4121285390082112088:=()
noncomputable def tw13322570903161618040:=()
noncomputable def tw16094096239028197016:=()
noncomputable def tw14483778779336560312:=()
noncomputable def tw953828999228940984:=()
noncomputable def tw788200821961464600:=()
noncomputable def tw16909590096195465016:=()
noncomputable def tw5896499846209697592:=()
noncomputable def tw3691485480308674392:=()
noncomputable def tw4725937473186983800:=()
noncomputable def tw12239239506704096152:=()
noncomputable def tw9662562035220586424:=()
noncomputable def tw11744508471416394712:=()
noncomputable def tw3282959175999172697:=()
noncomputable def tw7482068270286026841:=()
noncomputable def tw577127887173571673:=()
noncomputable def tw17227797029356342393:=()
noncomputable def tw4516341723049858169:=()
noncomputable def tw12984332040678198393:=()
noncomputable def tw5137089949701874841:=()
noncomputable def tw5876053826195227833:=()
noncomputable def tw7663551113092358329:=()
noncomputable def tw1979026465032763577:=()
noncomputable def tw10992523125954316505:=()
noncomputable def tw8369298496600668377:=()
noncomputable def tw2607965424649289977:=()
noncomputable def tw4689033223790102809:=()
noncomputable def tw8035684191192886553:=()
noncomputable def tw4688876201542481177:=()
noncomputable def tw17530409025319179641:=()
noncomputable def tw2637871757963501945:=()
noncomputable def tw5837009168370823545:=()
noncomputable def tw9322822977032685977:=()
noncomputable def tw4638249061347235225:=()
noncomputable def tw10052250077789439385:=()
noncomputable def tw9602824895694442937:=()
noncomputable def tw18085620593862833593:=()
noncomputable def tw17853509810374671865:=()
noncomputable def tw14811326761636956729:=()
noncomputable def tw1932227514930111033:=()
noncomputable def tw950176380501600825:=()
noncomputable def tw16894560045166439065:=()
noncomputable def tw9315793067463017209:=()
noncomputable def tw13857466778962994937:=()
noncomputable def tw1083889834975349497:=()
noncomputable def tw11473295748953742105:=()
noncomputable def tw6498125362326481721:=()
noncomputable def tw18374727398732255065:=()
noncomputable def tw261802891935180665:=()
noncomputable def tw17011728472664585145:=()
noncomputable def tw16978119692352888793:=()
noncomputable def tw8490634645809323993:=()
noncomputable def tw5375081233195124729:=()
noncomputable def tw9423349118672022586:=()
noncomputable def tw2238906856138796090:=()
noncomputable def tw13812448006935015482:=()
noncomputable def tw5142932214097376314:=()
noncomputable def tw10714507602456405082:=()
noncomputable def tw13062564937361516634:=()
noncomputable def tw13379112892100837498:=()
noncomputable def tw15796883055788309626:=()
noncomputable def tw9924956675304236218:=()
noncomputable def tw11643504457847918778:=()
noncomputable def tw13232204717305487546:=()
noncomputable def tw12236266553112762586:=()
noncomputable def tw13886695306425782490:=()
noncomputable def tw6128348120570261722:=()
noncomputable def tw16175957939684132090:=()
noncomputable def tw15978582237565339898:=()
noncomputable def tw12474976303593651450:=()
noncomputable def tw1164301189311830330:=()
noncomputable def tw2931266455525615930:=()
noncomputable def tw1078239603171989850:=()
noncomputable def tw7992603533882172794:=()
noncomputable def tw5399460707284815258:=()
noncomputable def tw14615547038978453978:=()
noncomputable def tw18364764868005252602:=()
noncomputable def tw14276665288970979834:=()
noncomputable def tw6638999160752765498:=()
noncomputable def tw16938901459961894522:=()
noncomputable def tw13918929081601790618:=()
noncomputable def tw3481358128186513082:=()
noncomputable def tw18168566320777355962:=()
noncomputable def tw12555299820197436122:=()
noncomputable def tw16620841548121639674:=()
noncomputable def tw2301131412165722938:=()
noncomputable def tw12443529547348993850:=()
noncomputable def tw14018862839750723418:=()
noncomputable def tw9404215373405427610:=()
noncomputable def tw9072881424242325402:=()
noncomputable def tw16117229013537484698:=()
noncomputable def tw218591969180255162:=()
noncomputable def tw12103659632649415610:=()
noncomputable def tw11021690816703716346:=()
noncomputable def tw10465077931573931035:=()
noncomputable def tw530824477721985115:=()
noncomputable def tw8318041032773744731:=()
noncomputable def tw7393235752240015451:=()
noncomputable def tw8030002859958370459:=()
noncomputable def tw2335851361310635195:=()
noncomputable def tw12557636670299871451:=()
noncomputable def tw12563599005701480667:=()
noncomputable def tw9944122652168673563:=()
noncomputable def tw14076516860739148091:=()
noncomputable def tw15048130674599696731:=()
noncomputable def tw8724006360367383899:=()
noncomputable def tw8473559459077383547:=()
noncomputable def tw8984947640500633051:=()
noncomputable def tw14630887350116401627:=()
noncomputable def tw3016990778580008507:=()
noncomputable def tw13776635520127507099:=()
noncomputable def tw7516711205174718107:=()
noncomputable def tw7224297426496766619:=()
noncomputable def tw1689241383167379163:=()
noncomputable def tw9311354663637937883:=()
noncomputable def tw10763678246031849179:=()
noncomputable def tw12436540598007995131:=()
noncomputable def tw16335665601686481659:=()
noncomputable def tw2712351605272846107:=()
noncomputable def tw6121105188373480219:=()
noncomputable def tw4005351969512423195:=()
noncomputable def tw5077079586746566459:=()
noncomputable def tw16709008823467855675:=()
noncomputable def tw1992511946529304379:=()
noncomputable def tw13556100254615191387:=()
noncomputable def tw16474185289319111515:=()
noncomputable def tw12941534329200661371:=()
noncomputable def tw1138318014264009595:=()
noncomputable def tw961807408695907227:=()
noncomputable def tw8941692811406486427:=()
noncomputable def tw3322037477337085851:=()
noncomputable def tw8649956122001024955:=()
noncomputable def tw5853425817745189819:=()
noncomputable def tw6951244232050950107:=()
noncomputable def tw693474640449585147:=()
noncomputable def tw8013113082145001467:=()
noncomputable def tw3911318658886652923:=()
noncomputable def tw12866216651430652956:=()
noncomputable def tw4478876446065104956:=()
noncomputable def tw973520682456111164:=()
noncomputable def tw13722445303932249148:=()
noncomputable def tw3586781149235419228:=()
noncomputable def tw3643120464642845852:=()
noncomputable def tw14252789281383391420:=()
noncomputable def tw5111665773742298332:=()
noncomputable def tw13791739965685745884:=()
noncomputable def tw11901297498776344828:=()
noncomputable def tw6127420340354232572:=()
noncomputable def tw9518494939211119868:=()
noncomputable def tw16618274752420739420:=()
noncomputable def tw9477369171268836764:=()
noncomputable def tw17175747879928235484:=()
noncomputable def tw14001213077590903292:=()
noncomputable def tw9908995514892102140:=()
noncomputable def tw8772016953238872572:=()
noncomputable def tw7132402294729611804:=()
noncomputable def tw733418960757068348:=()
noncomputable def tw15009672817364727356:=()
noncomputable def tw10954024514289369692:=()
noncomputable def tw6115542829050520156:=()
noncomputable def tw16187760798959193724:=()
noncomputable def tw16557936194589063804:=()
noncomputable def tw3206659237355193020:=()
noncomputable def tw9181340878710619836:=()
noncomputable def tw8284396612451489468:=()
noncomputable def tw8453900258808690364:=()
noncomputable def tw2646437132465339068:=()
noncomputable def tw14347369510241644316:=()
noncomputable def tw15538268445834791708:=()
noncomputable def tw17335449158045142876:=()
noncomputable def tw17273741619019604828:=()
noncomputable def tw3776220457700319100:=()
noncomputable def tw4197714460467501980:=()
noncomputable def tw14141156865779652508:=()
noncomputable def tw10714647526083933116:=()
noncomputable def tw4502161632020736988:=()
noncomputable def tw11271834803210724348:=()
noncomputable def tw15604938229233110012:=()
noncomputable def tw17303027144540610556:=()
noncomputable def tw18407976817364544541:=()
noncomputable def tw2810658102845276221:=()
noncomputable def tw6372479335945842749:=()
noncomputable def tw16229188798464275517:=()
noncomputable def tw417703642485631069:=()
noncomputable def tw9929369550202438781:=()
noncomputable def tw17968132069557049469:=()
noncomputable def tw5211472456167987325:=()
noncomputable def tw3893376430752241821:=()
noncomputable def tw6186954329817065629:=()
noncomputable def tw17664092808964365501:=()
noncomputable def tw10897842682039992541:=()
noncomputable def tw10257700494048406749:=()
noncomputable def tw6848686942292566269:=()
noncomputable def tw15465668635897139485:=()
noncomputable def tw12806273769697226013:=()
noncomputable def tw4350676155417834845:=()
noncomputable def tw1948436774492922205:=()
noncomputable def tw14858756907381535101:=()
noncomputable def tw11090791644819709309:=()
noncomputable def tw17997070815512212893:=()
noncomputable def tw15242286402721325501:=()
noncomputable def tw8670578983936575933:=()
noncomputable def tw8715596495093018077:=()
noncomputable def tw12477400831978063325:=()
noncomputable def tw10018707525295922653:=()
noncomputable def tw18355920817171246589:=()
noncomputable def tw12828032248961059325:=()
noncomputable def tw12300621379119603197:=()
noncomputable def tw13538648237986014717:=()
noncomputable def tw1282729268235426333:=()
noncomputable def tw15595777311066410557:=()
noncomputable def tw18296921606822166077:=()
noncomputable def tw13193088266768620157:=()
noncomputable def tw3518184464155108989:=()
noncomputable def tw15739634201331240605:=()
noncomputable def tw10273910970538742429:=()
noncomputable def tw17189292973898532541:=()
noncomputable def tw18294053430274305757:=()
noncomputable def tw10638462066372891389:=()
noncomputable def tw6484248862995354429:=()
noncomputable def tw10502600679297291069:=()
noncomputable def tw5850788527555392317:=()
noncomputable def tw13016537740206154589:=()
noncomputable def tw2801387905510550365:=()
noncomputable def tw9220313814641785693:=()
noncomputable def tw2770449539591511965:=()
noncomputable def tw15943887109205735325:=()
noncomputable def tw1877381303287716829:=()
noncomputable def tw12775463969252060125:=()
noncomputable def tw14635129373368008669:=()
noncomputable def tw6047933513654041565:=()
noncomputable def tw935176924907585566:=()
noncomputable def tw12560421184571578430:=()
noncomputable def tw6034985450881326174:=()
noncomputable def tw196402677238547550:=()
noncomputable def tw7101414511892879454:=()
noncomputable def tw8055655995353106558:=()
noncomputable def tw7483817949250444414:=()
noncomputable def tw12105148834855094430:=()
noncomputable def tw18153353232373193886:=()
noncomputable def tw15474046816628954302:=()
noncomputable def tw9626316860983608542:=()
noncomputable def tw3364104950692989150:=()
noncomputable def tw4987731477832487166:=()
noncomputable def tw10754582469719551230:=()
noncomputable def tw10721743933867603230:=()
noncomputable def tw3084910105274605854:=()
noncomputable def tw17231765825096259902:=()
noncomputable def tw2405205712049911102:=()
noncomputable def tw16025320269372359006:=()
noncomputable def tw6635273410239215998:=()
noncomputable def tw18120130607542099326:=()
noncomputable def tw5099512560995527038:=()
noncomputable def tw14295036364746441118:=()
noncomputable def tw2257202549542626750:=()
noncomputable def tw16274482723549730238:=()
noncomputable def tw488881627830517246:=()
noncomputable def tw691678437418368510:=()
noncomputable def tw2229947831706515998:=()
noncomputable def tw12859476447247591998:=()
noncomputable def tw15421432087836460638:=()
noncomputable def tw12277295241147185758:=()
noncomputable def tw1140387019470690942:=()
noncomputable def tw5044769197918066334:=()
noncomputable def tw16242352207275834014:=()
noncomputable def tw13686618621076891294:=()
noncomputable def tw6736888903345315518:=()
noncomputable def tw2457369949027910334:=()
noncomputable def tw12639836579793218270:=()
noncomputable def tw8291805287132873438:=()
noncomputable def tw4005460781529836286:=()
noncomputable def tw11559126536819822334:=()
noncomputable def tw6119903404206912254:=()
noncomputable def tw5642255701304421150:=()
noncomputable def tw2238024465964064542:=()
noncomputable def tw14588585997338442526:=()
noncomputable def tw5536162987760218942:=()
noncomputable def tw5816828657283474302:=()
noncomputable def tw3090970871655218078:=()
noncomputable def tw7765413270526846878:=()
noncomputable def tw1778552680590007230:=()
noncomputable def tw14522501011679572926:=()
noncomputable def tw6457103540204743678:=()
noncomputable def tw330415191863506942:=()
noncomputable def tw9936552819479556127:=()
noncomputable def tw15333233795371016255:=()
noncomputable def tw14886284346273481791:=()
noncomputable def tw1285312784936527935:=()
noncomputable def tw11388872810107272255:=()
noncomputable def tw9042955766714215519:=()
noncomputable def tw11403435336300495039:=()
noncomputable def tw6453330415438630079:=()
noncomputable def tw763987099725141215:=()
noncomputable def tw15410341492213725407:=()
noncomputable def tw6337310315374395615:=()
noncomputable def tw18240901717430989087:=()
noncomputable def tw6211437379105132863:=()
noncomputable def tw7315006985811406143:=()
noncomputable def tw6481441949382715807:=()
noncomputable def tw661584130157438399:=()
noncomputable def tw13632980659347372543:=()
noncomputable def tw7439502644934092351:=()
noncomputable def tw4054294360253944415:=()
noncomputable def tw11009553391164417631:=()
noncomputable def tw7879517372175708767:=()
noncomputable def tw16322992357370630783:=()
noncomputable def tw8415150268199389887:=()
noncomputable def tw1887214404742378175:=()
noncomputable def tw3902353022303370943:=()
noncomputable def tw17598965425951177439:=()
noncomputable def tw13082712084036843263:=()
noncomputable def tw8232920927124244255:=()
noncomputable def tw5563673827708814143:=()
noncomputable def tw11374595553331735359:=()
noncomputable def tw7108792954478059359:=()
noncomputable def tw2128529392356316063:=()
noncomputable def tw9285964295158981535:=()
noncomputable def tw641083216337131487:=()
noncomputable def tw3296103237933970431:=()
noncomputable def tw8161624189182343167:=()
noncomputable def tw12663683971612706432:=()
noncomputable def tw13359998412474324054:=()
noncomputable def tw13878620630815971998:=()
noncomputable def tw16279436822471264910:=()
noncomputable def tw11745637878088088400:=()
noncomputable def tw11148694779608095311:=()
noncomputable def tw6502420456073719556:=()
noncomputable def tw12131117462088205981:=()
noncomputable def tw14116559481362124797:=()
noncomputable def tw17466775576896311188:=()
noncomputable def tw5549160446378556406:=()
noncomputable def tw5731636919106973014:=()
noncomputable def tw1182525922645723719:=()
noncomputable def tw7552165895503161065:=()
noncomputable def tw12195858577626862390:=()
noncomputable def tw10594289851378843649:=()
noncomputable def tw8060045278337791160:=()
noncomputable def tw9269847452670530342:=()
noncomputable def tw9586298858325132405:=()
noncomputable def tw3794480992792692506:=()
noncomputable def tw14680973521280896432:=()
noncomputable def tw18042517098594524665:=()
noncomputable def tw10630008613182893968:=()
noncomputable def tw15967618597365804093:=()
noncomputable def tw3429349448351201853:=()
noncomputable def tw15811685549768618342:=()
noncomputable def tw13996888352198350253:=()
noncomputable def tw15719034807651295516:=()
noncomputable def tw15166883961529454715:=()
noncomputable def tw16393176884066348895:=()
noncomputable def tw5195069948637379182:=()
noncomputable def tw6009749153455840321:=()
noncomputable def tw2948925568428047403:=()
noncomputable def tw8077767396030250151:=()
noncomputable def tw4417033096170695728:=()
noncomputable def tw17482208034551670344:=()
noncomputable def tw3947636042914073143:=()
end Nt.main
set_option Elab.async true in
set_option maxRecDepth 100000 in
set_option maxHeartbeats 8000000 in
theorem Nt.main:PySem.Challenge.rw_nt0144_01.Holds:=by
 w_on;o_law;k_head
 (case hw=>w_witness2)
 intro w s₀ s₁ mg mb G Y fa o pm cd doc dV kV ho hdt hcd hD hmg hg args vals as hpre hlay hrd hwl hlo
 have KX:=kIn_of Y
 refine Ground.open G ?_
 intro T B D TE TW
 have e:=mg_of (n:="law") (v:=.ref 1205) KX T.g (by kernel_rfl)
 have e2:Value.ref fa=Value.ref 1205:=Option.some.inj (hmg.symm.trans e)
 cases e2
 have W:=Ev.kn_of (w:=w) KX (by constructor<;>kernel_rfl) T.nolimit T.nodigits T.g T.b T.builtins (by kernel_rfl) (by kernel_rfl)
 clear G Y ho hdt hcd hD hmg T B D TE TW KX e
 wrow_args hpre hlay hrd hwl hlo
 rename_i hw _ _ _ hz _
 exact Ev.top_ok W hw hz hg
theorem PySem.Challenge.cw_nt0144_01_holds : PySem.Challenge.rw_nt0144_01.Holds :=
  Nt.main
