import PyProof.Rows.All
import Wide.All
import OpenK.AllK
import Wide.FinOn
import KE.KBits
import PySem.Challenge.RW_tn0029_01
open PySem PySem.W PyProof.Rows PySem.Calls PySem.Spec
set_option Elab.async false
set_option tactic.hygienic false
set_option genSizeOf false
set_option genInjectivity false
set_option linter.unusedVariables false
set_option linter.unusedSimpArgs false
set_option maxRecDepth 100000
set_option maxHeartbeats 8000000
namespace Mine
theorem el {α:Type}{x:Option α}{a:α}{P:α->Prop}(k:x.elim True P) (h:x=some a):P a:=by rw [h] at k;exact k
theorem Vr {b:Bool}{P:Prop}(k:cond b P True) (h:b=true):P:=by rw [h] at k;exact k
theorem jP {a b:Bool}(h:(a&&b)=true):a=true/\b=true:=by cases a;contradiction;exact ⟨rfl,h⟩
inductive V where
 | none | bool (b:Bool) | int (i:Int) | str (x:Str) | ref (a:Addr) | bi (id:String) | ty (n:String)
noncomputable def V.Is:V->Value->Prop
 | .none,v=>v = .none
 | .bool b,v=>v = .bool b
 | .int i,v=>∃ t,v = .int i t
 | .str x,v=>∃ t,v = .str x t
 | .ref a,v=>v = .ref a
 | .bi n,v=>v = .builtin n
 | .ty n,v=>v = .type n
inductive All2:List V->List Value->Prop
 | nil:All2 [] []
 | cons {x v xs vs}:V.Is x v->All2 xs vs->All2 (x::xs) (v::vs)
theorem All2.length {xs:List V}{vs:List Value}(h:All2 xs vs):vs.length=xs.length:=by induction h<;>simp_all
theorem All2.append {xs ys:List V}{vs ws:List Value}(h:All2 xs vs) (k:All2 ys ws):All2 (xs++ys) (vs++ws):=by
 induction h with
 | nil=>exact k
 | cons a _ ih=>exact .cons a ih
theorem All2.get {xs:List V}{vs:List Value}(h:All2 xs vs):∀ {i:Nat}{x:V},xs[i]?=some x->∃ v,vs[i]?=some v/\x.Is v:=by
 induction h with
 | nil=>intro i x e;simp at e
 | cons a _ ih =>
  intro i x e;induction i using Nat.casesOn with
  | zero=>simp at e;subst e;exact ⟨_,rfl,a⟩
  | succ i=>simpa using ih (by simpa using e)
theorem All2.set {xs:List V}{vs:List Value}(h:All2 xs vs) {x:V}{v:Value}(hx:x.Is v):∀ (i:Nat),All2 (xs.set i x) (vs.set i v):=by
 induction h with
 | nil=>intro i;exact .nil
 | cons a b ih =>
  intro i;induction i using Nat.casesOn with
  | zero=>exact .cons hx b
  | succ i=>exact .cons a (ih i)
theorem All2.takeDrop {xs:List V}{vs:List Value}(h:All2 xs vs):∀ (i:Nat),All2 (xs.take i) (vs.take i)/\All2 (xs.drop i) (vs.drop i):=by
 induction h with
 | nil=>intro i;simp;exact .nil
 | cons a b ih =>
  intro i;induction i using Nat.casesOn with
  | zero=>exact ⟨.nil,.cons a b⟩
  | succ i=>exact ⟨.cons a (ih i).1,(ih i).2⟩
inductive EntS:List DictEntry->List (Str×V)->Prop
 | nil:EntS [] []
 | cons {e es x v kvs}:(∃ t,e.key = .str x t)->v.Is e.val->EntS es kvs->EntS (e::es) ((x,v)::kvs)
inductive Kvs {K:Type}:List (K×V)->List (K×Value)->Prop
 | nil:Kvs [] []
 | cons {k x v xs vs}:V.Is x v->Kvs xs vs->Kvs ((k,x)::xs) ((k,v)::vs)
structure Wd where
 prog:Program
 w:World
 base:Heap
 s₀:Shared
inductive Ob where
 | list (xs:List V) | tup (xs:List V) | sdict (kvs:List (Str×V)) | idict (kvs:List (Int×V))
 | inst (C:Addr) (d:Addr) | attrs (kvs:List (Str×V)) | cell (x:Option V) | raw (P:Obj->Prop)
noncomputable def Ob.Is (W:Wd) (a:Addr):Ob->Obj->Prop
 | .list xs,o=>o.cls = .type "list"/\∃ vs n,o.data = .seq vs.toArray n/\All2 xs vs/\o.dict=none/\o.slots=#[]
 | .tup xs,o=>o.cls = .type "tuple"/\∃ vs n,o.data = .seq vs.toArray n/\All2 xs vs
 | .sdict kvs,o=>(a==sysModules)=false/\∃ l,o.IsDictOf (strKind W.prog W.w) l/\Kvs kvs l
 | .idict kvs,o=>(a==sysModules)=false/\∃ l,o.IsDictOf (intKind W.prog W.w) l/\Kvs kvs l
 | .inst C d,o=>o=instObj C d
 | .attrs kvs,o=>∃ es n,o=dictOf es n/\EntS es kvs
 | .cell x,o=>match x with | none=>o.data = .cell none | some x=>∃ v,o.data = .cell (some v)/\x.Is v
 | .raw P,o=>P o
noncomputable abbrev jA:=List (Addr×Ob)
noncomputable abbrev jX:=List (Str×V)
noncomputable abbrev jB:=List (Addr×jX)
noncomputable abbrev St (s:Shared) (h:Heap) (tk:Nat):Shared:={ s with heap:=h,toks:=tk }
noncomputable def LocsAre (ll:jX) (m:Str->Option Value):Prop:=∀ y x,ll.lookup y=some x->∃ v,m y=some v/\x.Is v
theorem LocsAre.nil (m:Str->Option Value):LocsAre [] m:=λ_ _ e=>nomatch e
structure Cx (W:Wd) (h:Heap) (objs:jA) (nss:jB):Prop where
 keep:∀ b o,W.base.get? b=some o->h.get? b=some o
 obj:∀ p ∈ objs,(∃ o,h.get? p.1=some o/\p.2.Is W p.1 o)/\W.base.get? p.1=none
 ns:∀ p ∈ nss,(∃ m,h.Ns p.1 m/\LocsAre p.2 m)/\W.base.get? p.1=none
 nd:(objs.map Prod.fst++nss.map Prod.fst).Nodup
inductive Put (a:Addr) (o o':Ob):jA->jA->Prop
 | head {r}:Put a o o' ((a,o)::r) ((a,o')::r)
 | tail {p r r'}:Put a o o' r r'->Put a o o' (p::r) (p::r')
inductive Bring (a:Addr) (o:Ob):jA->jA->Prop
 | head {r}:Bring a o ((a,o)::r) r
 | tail {p r r'}:Bring a o r r'->Bring a o (p::r) (p::r')
inductive Has (a:Addr) (o:Ob):jA->Prop
 | head {r}:Has a o ((a,o)::r)
 | tail {p r}:Has a o r->Has a o (p::r)
theorem Has.mem {a:Addr}{o:Ob}{l:jA}(H:Has a o l):(a,o) ∈ l:=by
 induction H with
 | head=>exact List.mem_cons_self ..
 | tail _ ih=>exact List.mem_cons_of_mem _ ih
theorem Has.of_mem {a:Addr}{o:Ob}{l:jA}(H:(a,o) ∈ l):Has a o l:=by
 induction l with
 | nil=>contradiction
 | cons p r ih =>
  rcases List.mem_cons.mp H with e | H
  ·subst e;exact .head
  ·exact .tail (ih H)
theorem Put.fst {a:Addr}{o o':Ob}{l l':jA}(P:Put a o o' l l'):l'.map Prod.fst=l.map Prod.fst:=by
 induction P with
 | head=>rfl
 | tail _ ih=>simp [ih]
theorem Put.mem {a:Addr}{o o':Ob}{l l':jA}(P:Put a o o' l l'):(a,o) ∈ l:=by
 induction P with
 | head=>exact List.mem_cons_self ..
 | tail _ ih=>exact List.mem_cons_of_mem _ ih
theorem Put.cases {a:Addr}{o o':Ob}{l l':jA}(P:Put a o o' l l') (hd:(l.map Prod.fst).Nodup):∀ p ∈ l',p=(a,o')\/(p ∈ l/\p.1≠a):=by
 induction P with
 | head =>
  intro p hp;rcases List.mem_cons.mp hp with rfl | hp
  ·exact .inl rfl
  ·refine .inr ⟨List.mem_cons_of_mem _ hp,λe=>?_⟩;rw [List.map_cons,List.nodup_cons] at hd;exact hd.1 (List.mem_map.mpr ⟨p,hp,e⟩)
 | tail P ih =>
  intro p hp;rw [List.map_cons,List.nodup_cons] at hd;rcases List.mem_cons.mp hp with rfl | hp
  ·exact .inr ⟨List.mem_cons_self ..,λe=>hd.1 (e▸List.mem_map_of_mem P.mem)⟩
  ·rcases ih hd.2 p hp with h | ⟨h,q⟩
   ·exact .inl h
   ·exact .inr ⟨List.mem_cons_of_mem _ h,q⟩
theorem Bring.perm {a:Addr}{o:Ob}{l l':jA}(B:Bring a o l l'):l.Perm ((a,o)::l'):=by
 induction B with
 | head=>exact List.Perm.refl _
 | tail _ ih=>exact (List.Perm.cons _ ih).trans (List.Perm.swap ..)
inductive Sel:jA->jA->Prop
 | nil {l}:Sel [] l
 | cons {a o r l l'}:Bring a o l l'->Sel r l'->Sel ((a,o)::r) l
namespace Cx
variable {W:Wd} {h h':Heap} {objs objs':jA} {nss nss':jB}
theorem get (C:Cx W h objs nss) {a:Addr}{o:Ob}(m:Has a o objs):∃ x,h.get? a=some x/\o.Is W a x:=(C.obj _ m.mem).1
theorem oldNe (C:Cx W h objs nss) {a b:Addr}{o:Ob}{ob:Obj}(m:(a,o) ∈ objs) (e:W.base.get? b=some ob):b≠a:=λq=>by have:=(C.obj _ m).2;rw [<- q] at this;simp only [e] at this;contradiction
theorem nsNe (C:Cx W h objs nss) {a:Addr}{o:Ob}{p:Addr×jX}(m:(a,o) ∈ objs) (hp:p ∈ nss):p.1≠a:=λq=>by have:=C.nd;rw [List.nodup_append] at this;exact this.2.2 a (List.mem_map_of_mem m) p.1 (List.mem_map_of_mem hp) q.symm
theorem ndO (C:Cx W h objs nss):(objs.map Prod.fst).Nodup:=(List.nodup_append.mp C.nd).1
theorem ndN (C:Cx W h objs nss):(nss.map Prod.fst).Nodup:=(List.nodup_append.mp C.nd).2.1
theorem perm (C:Cx W h objs nss) (p:objs.Perm objs'):Cx W h objs' nss where
 keep:=C.keep
 obj:=λq hq=>C.obj q (p.mem_iff.mpr hq)
 ns:=C.ns
 nd:=by have:(objs.map Prod.fst++nss.map Prod.fst).Perm (objs'.map Prod.fst++nss.map Prod.fst):=(p.map _).append_right _;exact this.nodup_iff.mp C.nd
theorem sub (C:Cx W h objs nss) (p:objs'.Sublist objs):Cx W h objs' nss where
 keep:=C.keep
 obj:=λq hq=>C.obj q (p.subset hq)
 ns:=C.ns
 nd:=C.nd.sublist ((p.map _).append_right _)
theorem pop {p:Addr×jX}(C:Cx W h objs (p::nss)):Cx W h objs nss where
 keep:=C.keep
 obj:=C.obj
 ns:=λq hq=>C.ns q (List.mem_cons_of_mem _ hq)
 nd:=C.nd.sublist (List.Sublist.append_left (List.sublist_cons_self ..) _)
theorem tailO {p:Addr×Ob}(C:Cx W h (p::objs) nss):Cx W h objs nss:=C.sub (List.sublist_cons_self ..)
theorem grown (C:Cx W h objs nss) (k:∀ b o,(b ∈ objs.map Prod.fst\/b ∈ nss.map Prod.fst\/(W.base.get? b).isSome)->h.get? b=some o->h'.get? b=some o):Cx W h' objs nss where
 keep:=λb o e=>k b o (.inr (.inr (by rw [e];rfl))) (C.keep b o e)
 obj:=λp hp=>by obtain ⟨⟨o,e,i⟩,n⟩:=C.obj p hp;exact ⟨⟨o,k _ _ (.inl (List.mem_map_of_mem hp)) e,i⟩,n⟩
 ns:=λp hp=>by obtain ⟨⟨m,e,i⟩,n⟩:=C.ns p hp;exact ⟨⟨m,e.at' λo e=>k _ o (.inr (.inl (List.mem_map_of_mem hp))) e,i⟩,n⟩
 nd:=C.nd
theorem grown' (C:Cx W h objs nss) (k:∀ b o,h.get? b=some o->h'.get? b=some o):Cx W h' objs nss:=C.grown λb o _ e=>k b o e
theorem noneAtSize (h:Heap):h.get? h.objs.size=none:=by
 induction e:h.get? h.objs.size using Option.casesOn with
 | none=>rfl
 | some o=>exact absurd (Heap.lt_size e) (Nat.lt_irrefl _)
theorem lt (C:Cx W h objs nss) {b:Addr}(hb:b ∈ objs.map Prod.fst\/b ∈ nss.map Prod.fst\/(W.base.get? b).isSome):b < h.objs.size:=by
 rcases hb with hb | hb | hb
 ·obtain ⟨p,hp,rfl⟩:=List.mem_map.mp hb;obtain ⟨⟨o,e,_⟩,_⟩:=C.obj p hp;exact Heap.lt_size e
 ·obtain ⟨p,hp,rfl⟩:=List.mem_map.mp hb;obtain ⟨⟨m,e,_⟩,_⟩:=C.ns p hp;exact e.lt
 ·obtain ⟨o,e⟩:=Option.isSome_iff_exists.mp hb;exact Heap.lt_size (C.keep _ _ e)
noncomputable def Nm (W:Wd) (objs:jA) (nss:jB) (b:Addr):Prop:=b ∈ objs.map Prod.fst\/b ∈ nss.map Prod.fst\/(W.base.get? b).isSome
theorem nmNe (C:Cx W h objs nss) {a b:Addr}(ha:h.get? a=none) (hb:Nm W objs nss b):b≠a:=λq=>by
 subst q;rcases hb with hb | hb | hb
 ·obtain ⟨p,hp,rfl⟩:=List.mem_map.mp hb;obtain ⟨⟨o,e,_⟩,_⟩:=C.obj p hp;simp only [ha] at e;contradiction
 ·obtain ⟨p,hp,rfl⟩:=List.mem_map.mp hb;obtain ⟨⟨m,⟨o,_,_,e,_⟩,_⟩,_⟩:=C.ns p hp;simp only [ha] at e;contradiction
 ·obtain ⟨o,e⟩:=Option.isSome_iff_exists.mp hb;have:=C.keep _ _ e;simp only [ha] at this;contradiction
theorem alloc (C:Cx W h objs nss) {a:Addr}{o:Ob}{x:Obj}(k:∀ b o,Nm W objs nss b->h.get? b=some o->h'.get? b=some o) (ha:h.get? a=none) (hx:h'.get? a=some x) (ho:o.Is W a x):Cx W h' ((a,o)::objs) nss where
 keep:=(C.grown k).keep
 obj:=λp hp=>by
  rcases List.mem_cons.mp hp with rfl | hp
  ·refine ⟨⟨x,hx,ho⟩,?_⟩;induction e:W.base.get? a using Option.casesOn with
   | none=>rfl
   | some o'=>rw [C.keep _ _ e] at ha;contradiction
  ·exact (C.grown k).obj p hp
 ns:=(C.grown k).ns
 nd:=by
  rw [List.map_cons,List.cons_append,List.nodup_cons];refine ⟨λhm=>?_,C.nd⟩;rcases List.mem_append.mp hm with hm | hm
  ·exact C.nmNe ha (.inl hm) rfl
  ·exact C.nmNe ha (.inr (.inl hm)) rfl
theorem push (C:Cx W h objs nss) {x:Obj}{o:Ob}(ho:o.Is W h.objs.size x) (hf:x.isFreed=false:=by rfl):Cx W (h.push x) ((h.objs.size,o)::objs) nss :=
 C.alloc (λ_ _ _ e=>Heap.get?_push_of_some _ e) (noneAtSize h) (Heap.get?_push_size _ hf) ho
theorem allocNs (C:Cx W h objs nss) {a:Addr}{ll:jX}{m:Str->Option Value}(k:∀ b o,Nm W objs nss b->h.get? b=some o->h'.get? b=some o) (ha:h.get? a=none) (hn:h'.Ns a m) (hl:LocsAre ll m):Cx W h' objs ((a,ll)::nss) where
 keep:=(C.grown k).keep
 obj:=(C.grown k).obj
 ns:=λp hp=>by
  rcases List.mem_cons.mp hp with rfl | hp
  ·refine ⟨⟨m,hn,hl⟩,?_⟩;induction e:W.base.get? a using Option.casesOn with
   | none=>rfl
   | some o'=>rw [C.keep _ _ e] at ha;contradiction
  ·exact (C.grown k).ns p hp
 nd:=by
  rw [List.map_cons];refine (List.perm_middle.nodup_iff).mpr ?_;rw [List.nodup_cons];refine ⟨λhm=>?_,C.nd⟩;rcases List.mem_append.mp hm with hm | hm
  ·exact C.nmNe ha (.inl hm) rfl
  ·exact C.nmNe ha (.inr (.inl hm)) rfl
theorem put (C:Cx W h objs nss) {a:Addr}{o o':Ob}{x:Obj}(P:Put a o o' objs objs') (k:∀ b o,b≠a->h.get? b=some o->h'.get? b=some o) (hx:h'.get? a=some x) (ho:o'.Is W a x):Cx W h' objs' nss where
 keep:=λb ob e=>k b ob (C.oldNe P.mem e) (C.keep b ob e)
 obj:=λp hp=>by
  rcases P.cases C.ndO p hp with rfl | ⟨hp,hne⟩
  ·exact ⟨⟨x,hx,ho⟩,(C.obj _ P.mem).2⟩
  ·obtain ⟨⟨y,e,i⟩,n⟩:=C.obj p hp;exact ⟨⟨y,k _ _ hne e,i⟩,n⟩
 ns:=λp hp=>by obtain ⟨⟨m,e,i⟩,n⟩:=C.ns p hp;exact ⟨⟨m,e.at' λo e=>k _ _ (C.nsNe P.mem hp) e,i⟩,n⟩
 nd:=by rw [P.fst];exact C.nd
theorem setNs {a:Addr}{ll ll':jX}{m:Str->Option Value}(C:Cx W h objs ((a,ll)::nss)) (k:∀ b o,b≠a->h.get? b=some o->h'.get? b=some o) (hn:h'.Ns a m) (hl:LocsAre ll' m):Cx W h' objs ((a,ll')::nss) where
 keep:=λb ob e=>k b ob (λq=>by have:=(C.ns _ (List.mem_cons_self ..)).2;rw [q] at e;simp only [e] at this;cases this) (C.keep b ob e)
 obj:=λp hp=>by obtain ⟨⟨y,e,i⟩,n⟩:=C.obj p hp;exact ⟨⟨y,k _ _ (λq=>C.nsNe (p:=(a,ll)) (a:=p.1) (o:=p.2) hp (List.mem_cons_self ..) q.symm) e,i⟩,n⟩
 ns:=λp hp=>by
  rcases List.mem_cons.mp hp with rfl | hp
  ·exact ⟨⟨m,hn,hl⟩,(C.ns _ (List.mem_cons_self ..)).2⟩
  ·obtain ⟨⟨m',e,i⟩,n⟩:=C.ns p (List.mem_cons_of_mem _ hp);refine ⟨⟨m',e.at' λo e=>k _ _ (λq=>?_) e,i⟩,n⟩;have:=C.ndN;rw [List.map_cons,List.nodup_cons] at this;exact this.1 (List.mem_map.mpr ⟨p,hp,q⟩)
 nd:=C.nd
theorem bring (C:Cx W h objs nss) {a:Addr}{o:Ob}(B:Bring a o objs objs'):Cx W h ((a,o)::objs') nss:=C.perm B.perm
theorem sel' {r l:jA}(S:Sel r l):∃ l',l.Perm (r++l'):=by
 induction S with
 | nil=>exact ⟨_,List.Perm.refl _⟩
 | cons B _ ih =>obtain ⟨l',p⟩:=ih;exact ⟨l',B.perm.trans (p.cons _)⟩
theorem sel (C:Cx W h objs nss) (S:Sel objs' objs):Cx W h objs' nss:=by obtain ⟨l',p⟩:=sel' S;exact (C.perm p).sub (List.sublist_append_left ..)
noncomputable abbrev Wd.into (W:Wd) (h:Heap) (l:List Addr):Wd:={ W with base:=hideAll h l }
theorem _root_.Mine.Ob.is_into {l:List Addr}{a:Addr}{o:Ob}{x:Obj}:o.Is (Wd.into W h l) a x ↔ o.Is W a x:=by cases o<;>exact Iff.rfl
theorem into {o₂:jA}{n₂:jB}(C:Cx W h (objs++o₂) (nss++n₂)):Cx (Wd.into W h (objs.map Prod.fst++nss.map Prod.fst)) h objs nss where
 keep:=λb o e=>of_hideAll _ e
 obj:=λp hp=>⟨by obtain ⟨a,_⟩:=C.obj p (List.mem_append_left _ hp);obtain ⟨o,e,i⟩:=a;exact ⟨o,e,Ob.is_into.mpr i⟩,hideAll_none _ (List.mem_append_left _ (List.mem_map_of_mem hp))⟩
 ns:=λp hp=>⟨(C.ns p (List.mem_append_left _ hp)).1,hideAll_none _ (List.mem_append_right _ (List.mem_map_of_mem hp))⟩
 nd:=C.nd.sublist (by rw [List.map_append,List.map_append];exact (List.sublist_append_left ..).append (List.sublist_append_left ..))
theorem baseIn {o₂:jA}{n₂:jB}(C:Cx W h (objs++o₂) (nss++n₂)):∀ b o,W.base.get? b=some o->(hideAll h (objs.map Prod.fst++nss.map Prod.fst)).get? b=some o:=λb o e =>
 hideAll_get _ (C.keep b o e) λhm=>by
  rcases List.mem_append.mp hm with hm | hm<;>obtain ⟨p,hp,q⟩:=List.mem_map.mp hm
  ·have:=(C.obj p (List.mem_append_left _ hp)).2;rw [q,e] at this;contradiction
  ·have:=(C.ns p (List.mem_append_left _ hp)).2;rw [q,e] at this;contradiction
theorem back {o' o₂:jA}{n' n₂:jB}{h':Heap}(C:Cx W h (objs++o₂) (nss++n₂)) (C':Cx (Wd.into W h (objs.map Prod.fst++nss.map Prod.fst)) h' o' n'):Cx W h' (o'++o₂) (n'++n₂):=by
 have nd2:=C.nd;have old:∀ b,W.base.get? b≠none->(hideAll h (objs.map Prod.fst++nss.map Prod.fst)).get? b≠none:=λb hb q=>by
  induction e:W.base.get? b using Option.casesOn with
  | none=>exact hb e
  | some o=>rw [C.baseIn b o e] at q;contradiction
 have inO:∀ p ∈ o₂,∀ o,h.get? p.1=some o->(hideAll h (objs.map Prod.fst++nss.map Prod.fst)).get? p.1=some o:=λp hp o e=>hideAll_get _ e λhm=>by
  rw [List.map_append,List.map_append] at nd2;rcases List.mem_append.mp hm with hm | hm
  ·have:=(List.nodup_append.mp (List.nodup_append.mp nd2).1).2.2;exact this _ hm _ (List.mem_map_of_mem hp) rfl
  ·have:=(List.nodup_append.mp nd2).2.2;exact this _ (List.mem_append_right _ (List.mem_map_of_mem hp)) _ (List.mem_append_left _ hm) rfl
 have inN:∀ p ∈ n₂,∀ o,h.get? p.1=some o->(hideAll h (objs.map Prod.fst++nss.map Prod.fst)).get? p.1=some o:=λp hp o e=>hideAll_get _ e λhm=>by
  rw [List.map_append,List.map_append] at nd2;rcases List.mem_append.mp hm with hm | hm
  ·have:=(List.nodup_append.mp nd2).2.2;exact this _ (List.mem_append_left _ hm) _ (List.mem_append_right _ (List.mem_map_of_mem hp)) rfl
  ·have:=(List.nodup_append.mp (List.nodup_append.mp nd2).2.1).2.2;exact this _ hm _ (List.mem_map_of_mem hp) rfl
 refine ⟨λb o e=>C'.keep b o (C.baseIn b o e),λp hp=>?_,λp hp=>?_,?_⟩
 ·rcases List.mem_append.mp hp with hp | hp
  ·obtain ⟨⟨o,e,i⟩,n⟩:=C'.obj p hp;refine ⟨⟨o,e,Ob.is_into.mp i⟩,?_⟩;induction q:W.base.get? p.1 using Option.casesOn with
   | none=>rfl
   | some o=>exact absurd n (old _ (by rw [q];exact nofun))
  ·obtain ⟨⟨o,e,i⟩,n⟩:=C.obj p (List.mem_append_right _ hp);exact ⟨⟨o,C'.keep _ _ (inO p hp o e),i⟩,n⟩
 ·rcases List.mem_append.mp hp with hp | hp
  ·obtain ⟨e,n⟩:=C'.ns p hp;refine ⟨e,?_⟩;induction q:W.base.get? p.1 using Option.casesOn with
   | none=>rfl
   | some o=>exact absurd n (old _ (by rw [q];exact nofun))
  ·obtain ⟨⟨m,e,i⟩,n⟩:=C.ns p (List.mem_append_right _ hp);exact ⟨⟨m,e.at' λo e=>C'.keep _ _ (inN p hp o e),i⟩,n⟩
 ·have apart:∀ x,(hideAll h (objs.map Prod.fst++nss.map Prod.fst)).get? x=none->x ∉ o₂.map Prod.fst/\x ∉ n₂.map Prod.fst:=by
   intro x hx;refine ⟨λhm=>?_,λhm=>?_⟩
   ·obtain ⟨p,hp,rfl⟩:=List.mem_map.mp hm;obtain ⟨⟨o,e,_⟩,_⟩:=C.obj p (List.mem_append_right _ hp);rw [inO p hp o e] at hx;contradiction
   ·obtain ⟨p,hp,rfl⟩:=List.mem_map.mp hm;obtain ⟨⟨m,⟨o,q1,q2,e,q3⟩,_⟩,_⟩:=C.ns p (List.mem_append_right _ hp);rw [inN p hp o e] at hx;contradiction
  have o'n:∀ x ∈ o'.map Prod.fst,x ∉ o₂.map Prod.fst/\x ∉ n₂.map Prod.fst:=λx hx=>by obtain ⟨p,hp,rfl⟩:=List.mem_map.mp hx;exact apart _ (C'.obj p hp).2
  have n'n:∀ x ∈ n'.map Prod.fst,x ∉ o₂.map Prod.fst/\x ∉ n₂.map Prod.fst:=λx hx=>by obtain ⟨p,hp,rfl⟩:=List.mem_map.mp hx;exact apart _ (C'.ns p hp).2
  have nd1:=C'.nd;rw [List.map_append,List.map_append] at nd2 ⊢;rw [List.nodup_append] at nd1 nd2 ⊢;obtain ⟨a1,a2,a3⟩:=nd1;obtain ⟨b1,b2,b3⟩:=nd2;rw [List.nodup_append] at b1 b2;refine ⟨List.nodup_append.mpr ⟨a1,b1.2.1,λx hx y hy e=>(o'n x hx).1 (e▸hy)⟩,List.nodup_append.mpr ⟨a2,b2.2.1,λx hx y hy e=>(n'n x hx).2 (e▸hy)⟩,λx hx y hy e=>?_⟩;subst e;rcases List.mem_append.mp hx with hx | hx<;>rcases List.mem_append.mp hy with hy | hy
  ·exact a3 _ hx _ hy rfl
  ·exact (o'n _ hx).2 hy
  ·exact (n'n _ hy).1 hx
  ·exact b3 _ (List.mem_append_right _ hx) _ (List.mem_append_right _ hy) rfl
end Cx
inductive SetL (x:Str) (v:V):jX->jX->Prop
 | nil:SetL x v [] [(x,v)]
 | head {u r}:SetL x v ((x,u)::r) ((x,v)::r)
 | tail {y u r r'}:(y==x)=false->SetL x v r r'->SetL x v ((y,u)::r) ((y,u)::r')
set_option tactic.hygienic true in
theorem SetL.look {x:Str}{v:V}{l l':jX}(S:SetL x v l l'):∀ y,l'.lookup y=if y=x then some v else l.lookup y:=by
 induction S with
 | nil =>
  intro y;simp only [List.lookup_cons,List.lookup_nil];by_cases h:y=x
  ·simp [h]
  ·have:(y==x)=false:=by simpa using h
   simp [h,this]
 | head =>
  intro y;simp only [List.lookup_cons];by_cases h:y=x
  ·simp [h]
  ·have:(y==x)=false:=by simpa using h
   simp [h,this]
 | tail hne _ ih =>
  rename_i z u r r' _;intro y;have:=ih y;simp only [List.lookup_cons];by_cases h:y=z
  ·subst h;have hx:¬ y=x:=by simpa using hne
   simp [hx]
  ·have hz:(y==z)=false:=by simpa using h
   simp only [hz];exact this
inductive GetL (x:Str) (v:V):jX->Prop
 | head {r}:GetL x v ((x,v)::r)
 | tail {y u r}:(x==y)=false->GetL x v r->GetL x v ((y,u)::r)
theorem GetL.fn {x:Str}{v:V}{l:jX}(S:GetL x v l):l.lookup x=some v:=by
 induction S with
 | head=>simp [List.lookup_cons]
 | tail h _ ih=>simp [List.lookup_cons,h,ih]
theorem LocsAre.get {ll:jX}{m:Str->Option Value}(h:LocsAre ll m) {x:Str}{v:V}(g:GetL x v ll):∃ u,m x=some u/\v.Is u:=h x v g.fn
theorem LocsAre.set {ll ll':jX}{m:Str->Option Value}(h:LocsAre ll m) {x:Str}{v:V}{u:Value}(g:SetL x v ll ll') (hu:v.Is u):LocsAre ll' (λy=>if y=x then some u else m y):=by
 intro y z e;rw [g.look] at e;by_cases q:y=x
 ·subst q;simp only [if_pos] at e ⊢;obtain rfl:=Option.some.inj e;exact ⟨u,rfl,hu⟩
 ·simp only [if_neg q] at e ⊢;exact h y z e
structure EnvAt (env:Env) (names:List (Str×NameKind)) (L:Addr) (cells:List (Str×Addr)):Prop where
 kind:env.scope.kind = .function
 names:env.scope.names=names
 locals : env.locals = L
 globals:env.globals=mainGlobals
 builtins:env.builtins=builtinsNs
 cells:env.cells=cells
structure Ar (A:Around) (k:Nat):Prop where
 handled:A.handled=none
 depth:A.depth + k < recursionLimit
 units:A.units + 8 * k < cLine
theorem Ar.le {A:Around}{k k':Nat}(R:Ar A k) (h:k'<=k):Ar A k':=⟨R.handled,by have:=R.depth;omega,by have:=R.units;omega⟩
theorem Ar.deeper {A:Around}{k:Nat}(R:Ar A (k + 1)) (env:Env):Ar (A.deeper env) k :=
 ⟨R.handled,by have:=R.depth;show A.depth + 1 + k < _;omega,by have:=R.units;show A.units + 3 + 8 * k < _;omega⟩
theorem Ar.d {A:Around}{k:Nat}(R:Ar A k):A.depth < recursionLimit:=by have:=R.depth;omega
inductive TrO {α:Type}(W:Wd) (Q:α->jA->jB->Prop) (a:α):Shared->Prop
 | mk (h':Heap) (tk':Nat) (objs':jA) (nss':jB) (C:Cx W h' objs' nss') (q:Q a objs' nss'):TrO W Q a (St W.s₀ h' tk')
noncomputable def Tr {α:Type}(W:Wd) (A:Around) (t:Sem α) (objs:jA) (nss:jB) (Q:α->jA->jB->Prop):Prop :=
 ∀ h tk,Cx W h objs nss->wpAny (model W.prog W.w) A t (TrO W Q) (λ_ _=>False) (St W.s₀ h tk)
section
variable {α β:Type} {W:Wd} {A:Around} {objs objs':jA} {nss:jB}
theorem Tr.go {m:Sem α}{Q:α->jA->jB->Prop}{R:α->Shared->Prop}{E:Value->Shared->Prop}{h:Heap}{tk:Nat}(H:Tr W A m objs nss Q) (C:Cx W h objs nss)
  (k:∀ a h' tk' o' n',Cx W h' o' n'->Q a o' n'->R a (St W.s₀ h' tk')):wpAny (model W.prog W.w) A m R E (St W.s₀ h tk) :=
 wpAny_mono (H h tk C) (λa _ x=>x.casesOn λh' tk' o n C' q=>k a h' tk' o n C' q) λ_ _ x=>x.elim
theorem Tr.bind {m:Sem α}{f:α->Sem β}{Q:β->jA->jB->Prop}(h:Tr W A m objs nss λa o n=>Tr W A (f a) o n Q):Tr W A (m >>= f) objs nss Q:=λhp tk C=>by exact wpAny_bind (h.go C λa h' tk' o n C' q=>q h' tk' C')
theorem Tr.pure {a:α}{Q:α->jA->jB->Prop}(h:Q a objs nss):Tr W A (Pure.pure a) objs nss Q:=λhp tk C=>wpAny_pure ⟨hp,tk,objs,nss,C,h⟩
theorem Tr.mono {m:Sem α}{Q Q':α->jA->jB->Prop}(h:Tr W A m objs nss Q) (k:∀ a o n,Q a o n->Q' a o n):Tr W A m objs nss Q':=λhp tk C =>
 wpAny_mono (h hp tk C) (λa s' x=>x.casesOn λh' tk' o n C' q=>⟨h',tk',o,n,C',k _ _ _ q⟩) λ_ _ x=>x
theorem Tr.perm {m:Sem α}{Q:α->jA->jB->Prop}(p:objs.Perm objs') (h:Tr W A m objs' nss Q):Tr W A m objs nss Q:=λhp tk C=>h hp tk (C.perm p)
theorem Tr.holding {vs:List Value}{m:Sem α}{Q:α->jA->jB->Prop}(h:Tr W A m objs nss Q):Tr W A (holding vs m) objs nss Q:=λhp tk C=>wpAny_holding (h hp tk C)
theorem Tr.standAt {p:Pos}{Q:Unit->jA->jB->Prop}(h:Q () objs nss):Tr W A (PySem.standAt p) objs nss Q:=λhp tk C=>wpAny_standAt ⟨hp,tk,objs,nss,C,h⟩
theorem Tr.rule {x:String}{Q:Unit->jA->jB->Prop}(h:Q () objs nss):Tr W A (PySem.rule x) objs nss Q:=λhp tk C=>wpAny_rule ⟨hp,tk,objs,nss,C,h⟩
theorem Tr.of_eq {t t':Sem α}{Q:α->jA->jB->Prop}(e:t=t') (h:Tr W A t' objs nss Q):Tr W A t objs nss Q:=e▸h
end
structure Gr (W:Wd) (K:Frag) (mg mb:Str->Option Value):Prop where
 kin:K.In W.base
 g:W.base.Ns mainGlobals mg
 b:W.base.Ns builtinsNs mb
 nolimit:W.base.NoLimit
 bi:∀ x:Str,x≠"__name__"->mb x=bootBuiltins x
 low:∃ b o,sysModules < b/\W.base.get? b=some o
section
variable (W:Wd) (A:Around) (env:Env)
inductive VO (Q:V->jA->jB->Prop) (v:Value) (o:jA) (n:jB):Prop
 | mk (x:V) (hx:V.Is x v) (q:Q x o n)
noncomputable def Tv (t:Sem Value) (objs:jA) (nss:jB) (Q:V->jA->jB->Prop):Prop:=Tr W A t objs nss (VO Q)
noncomputable def Ev (e:Expr) (objs:jA) (nss:jB) (Q:V->jA->jB->Prop):Prop:=Tv W A (eval e env) objs nss Q
noncomputable def Bo (e:Expr) (objs:jA) (nss:jB) (Q:Bool->jA->jB->Prop):Prop:=Tr W A (isTrue e env (eval e env)) objs nss Q
inductive Fl where | next | ret (x:V)
noncomputable def Fl.Is:Fl->Flow->Prop
 | .next,f=>f = .next
 | .ret x,f=>∃ v,f = .ret v/\x.Is v
inductive FO (Q:Fl->jA->jB->Prop) (v:Flow) (o:jA) (n:jB):Prop
 | mk (x:Fl) (hx:Fl.Is x v) (q:Q x o n)
noncomputable def Ex (st:Stmt) (objs:jA) (nss:jB) (Q:Fl->jA->jB->Prop):Prop:=Tr W A (exec st env) objs nss (FO Q)
noncomputable def Es (sts:List Stmt) (objs:jA) (nss:jB) (Q:Fl->jA->jB->Prop):Prop:=Tr W A (execs sts env) objs nss (FO Q)
noncomputable def As (t:Expr) (x:V) (objs:jA) (nss:jB) (Q:jA->jB->Prop):Prop:=∀ v,x.Is v->Tr W A (assign t env v) objs nss λ_=>Q
noncomputable def Stn (n:Str) (x:V) (objs:jA) (nss:jB) (Q:jA->jB->Prop):Prop:=∀ v,x.Is v->Tr W A (storeName env n v) objs nss λ_=>Q
noncomputable def Evs:List Expr->jA->jB->(List V->jA->jB->Prop)->Prop
 | [],objs,nss,Q=>Q [] objs nss
 | e::r,objs,nss,Q=>Ev W A env e objs nss λx o n=>Evs r o n λxs=>Q (x::xs)
noncomputable def Cl (f:Value) (xs:List V) (objs:jA) (nss:jB) (Q:V->jA->jB->Prop):Prop:=∀ vs,All2 xs vs->Tv W A (call f vs) objs nss Q
noncomputable def Bin (op:Operator) (x y:V) (objs:jA) (nss:jB) (Q:V->jA->jB->Prop):Prop:=∀ a b,x.Is a->y.Is b->Tv W A (binaryOp op a b) objs nss Q
noncomputable def Cmp (op:CmpOp) (x y:V) (objs:jA) (nss:jB) (Q:V->jA->jB->Prop):Prop:=∀ a b,x.Is a->y.Is b->Tv W A (compareOp op a b) objs nss Q
noncomputable def Tru (x:V) (objs:jA) (nss:jB) (Q:Bool->jA->jB->Prop):Prop:=∀ a,x.Is a->Tr W A (truthy a) objs nss Q
noncomputable def Sub (value slice:Expr) (x i:V) (objs:jA) (nss:jB) (Q:V->jA->jB->Prop):Prop:=∀ a b,x.Is a->i.Is b->Tv W A (subscriptTail value slice a b) objs nss Q
noncomputable def SetI (x i y:V) (objs:jA) (nss:jB) (Q:jA->jB->Prop):Prop:=∀ a b c,x.Is a->i.Is b->y.Is c->Tr W A (setItem a b c) objs nss λ_=>Q
noncomputable def GetA (x:V) (n:Str) (objs:jA) (nss:jB) (Q:V->jA->jB->Prop):Prop:=∀ a,x.Is a->Tv W A (getAttr a n true) objs nss Q
noncomputable def SetA (x:V) (n:Str) (y:V) (objs:jA) (nss:jB) (Q:jA->jB->Prop):Prop:=∀ a b,x.Is a->y.Is b->Tr W A (setAttr a n b) objs nss λ_=>Q
end
section
variable {W:Wd} {A:Around} {objs:jA} {nss:jB} {E:Value->Shared->Prop} {h:Heap} {tk:Nat}
theorem Tv.to {t:Sem Value}{Q:V->jA->jB->Prop}{R:Value->jA->jB->Prop}(H:Tv W A t objs nss Q) (k:∀ v x o n,V.Is x v->Q x o n->R v o n):Tr W A t objs nss R :=
 Tr.mono H λv o n q=>q.casesOn λx hx q=>k v x o n hx q
theorem Tv.go {t:Sem Value}{Q:V->jA->jB->Prop}{R:Value->Shared->Prop}(H:Tv W A t objs nss Q) (C:Cx W h objs nss)
  (k:∀ v x h' tk' o' n',V.Is x v->Cx W h' o' n'->Q x o' n'->R v (St W.s₀ h' tk')):wpAny (model W.prog W.w) A t R E (St W.s₀ h tk) :=
 Tr.go H C λv h' tk' o' n' C' q=>q.casesOn λx hx q=>k v x h' tk' o' n' hx C' q
theorem Fo.go {t:Sem Flow}{Q:Fl->jA->jB->Prop}{R:Flow->Shared->Prop}(H:Tr W A t objs nss (FO Q)) (C:Cx W h objs nss)
  (k:∀ v x h' tk' o' n',Fl.Is x v->Cx W h' o' n'->Q x o' n'->R v (St W.s₀ h' tk')):wpAny (model W.prog W.w) A t R E (St W.s₀ h tk) :=
 Tr.go H C λv h' tk' o' n' C' q=>q.casesOn λx hx q=>k v x h' tk' o' n' hx C' q
theorem VO.mono {Q Q':V->jA->jB->Prop}{v:Value}{o o':jA}{n n':jB}(H:VO Q v o n) (k:∀ x,Q x o n->Q' x o' n'):VO Q' v o' n':=H.casesOn λx hx q=>⟨x,hx,k x q⟩
theorem FO.mono {Q Q':Fl->jA->jB->Prop}{v:Flow}{o o':jA}{n n':jB}(H:FO Q v o n) (k:∀ x,Q x o n->Q' x o' n'):FO Q' v o' n':=H.casesOn λx hx q=>⟨x,hx,k x q⟩
end
noncomputable def Br (b:Bool) (X Y:Prop):Prop:=(b=true->X)/\(b=false->Y)
theorem Br.t {X Y:Prop}(h:X):Br true X Y:=⟨λ_=>h,λe=>nomatch e⟩
theorem Br.f {X Y:Prop}(h:Y):Br false X Y:=⟨λe=>(nomatch e),λ_=>h⟩
theorem Br.neg {b:Bool}{X Y:Prop}(e:b=false) (h:Y):Br b X Y:=e▸Br.f h
section
variable {W:Wd} {A:Around} {env:Env} {objs objs':jA} {nss:jB} {names:List (Str×NameKind)} {L:Addr} {cells:List (Str×Addr)} {ll ll':jX} {K:Frag} {mg mb:Str->Option Value}
theorem Ev.mono {e:Expr}{Q Q':V->jA->jB->Prop}(h:Ev W A env e objs nss Q) (k:∀ x o n,Q x o n->Q' x o n):Ev W A env e objs nss Q':=Tr.mono h λ_ _ _ q=>q.mono λx=>k x _ _
theorem Tv.mono {t:Sem Value}{Q Q':V->jA->jB->Prop}(h:Tv W A t objs nss Q) (k:∀ x o n,Q x o n->Q' x o n):Tv W A t objs nss Q':=Tr.mono h λ_ _ _ q=>q.mono λx=>k x _ _
theorem jr {x:Str}{pos:Pos}{v:V}{Q:V->jA->jB->Prop}(he:EnvAt env names L cells) (hx:names.lookup x=some .local) (g:GetL x v ll) (h:Q v objs ((L,ll)::nss))
  (hd:(x==("__debug__":Str))=false):Ev W A env (.Name x pos) objs ((L,ll)::nss) Q:=by
 intro hp tk C;obtain ⟨⟨m,hn,hl⟩,_⟩:=C.ns (L,ll) (List.mem_cons_self ..);obtain ⟨u,hu,hi⟩:=hl.get g;exact wpAny_Name (wpAny_loadName_local he.kind (by unfold Env.kindOf;rw [he.names];exact hx) (by rw [he.locals];exact hn) hu ⟨hp,tk,_,_,C,v,hi,h⟩) hd
theorem zEq {x:Str}{pos:Pos}{v:V}{c:Addr}{Q:V->jA->jB->Prop}(he:EnvAt env names L cells) (hx:names.lookup x=some .cell) (hc:cells.lookup x=some c) (g:Has c (.cell (some v)) objs) (h:Q v objs nss)
  (hd:(x==("__debug__":Str))=false):Ev W A env (.Name x pos) objs nss Q:=by
 intro hp tk C;obtain ⟨o,ho,u,hu,hi⟩:=C.get g;exact wpAny_Name (wpAny_loadName_cell he.kind (by unfold Env.kindOf;rw [he.names];exact hx) (by rw [he.cells];exact hc) ⟨o,ho,hu⟩ ⟨hp,tk,_,_,C,v,hi,h⟩) hd
theorem zLK {x:Str}{pos:Pos}{v:V}{c:Addr}{Q:V->jA->jB->Prop}(he:EnvAt env names L cells) (hx:names.lookup x=some .free) (hc:cells.lookup x=some c) (g:Has c (.cell (some v)) objs) (h:Q v objs nss)
  (hd:(x==("__debug__":Str))=false) (hn:(x==("__classdict__":Str))=false):Ev W A env (.Name x pos) objs nss Q:=by
 intro hp tk C;obtain ⟨o,ho,u,hu,hi⟩:=C.get g;exact wpAny_Name (wpAny_loadName_free he.kind (by unfold Env.kindOf;rw [he.names];exact hx) (by rw [he.cells];exact hc) ⟨o,ho,hu⟩ ⟨hp,tk,_,_,C,v,hi,h⟩ hn) hd
theorem zEr {x:Str}{pos:Pos}{v:V}{u:Value}{Q:V->jA->jB->Prop}(he:EnvAt env names L cells) (G:Gr W K mg mb) (hx:names.lookup x=some .globalImplicit) (hg:mg x=some u) (hi:v.Is u) (h:Q v objs nss)
  (hd:(x==("__debug__":Str))=false):Ev W A env (.Name x pos) objs nss Q:=by
 intro hp tk C;exact Name_function_global he.kind (by unfold Env.kindOf;rw [he.names];exact hx) (loadGlobal_global (env:=env) (by rw [he.globals];exact G.g.keeps C.keep) hg ⟨hp,tk,_,_,C,v,hi,h⟩) hd
theorem zEA {x:Str}{pos:Pos}{v:V}{u:Value}{Q:V->jA->jB->Prop}(he:EnvAt env names L cells) (G:Gr W K mg mb) (hx:names.lookup x=some .globalImplicit) (hg:mg x=none) (hb:bootBuiltins x=some u) (hi:v.Is u) (h:Q v objs nss)
  (hn:x≠"__name__") (hd:(x==("__debug__":Str))=false):Ev W A env (.Name x pos) objs nss Q:=by
 intro hp tk C;exact Name_function_global he.kind (by unfold Env.kindOf;rw [he.names];exact hx) (loadGlobal_builtin (env:=env) (by rw [he.globals];exact G.g.keeps C.keep) hg (by rw [he.builtins];exact G.b.keeps C.keep) ((G.bi x hn).trans hb) ⟨hp,tk,_,_,C,v,hi,h⟩) hd
theorem zh {x:Str}{v:V}{Q:jA->jB->Prop}(he:EnvAt env names L cells) (hx:names.lookup x=some .local) (g:SetL x v ll ll') (h:Q objs ((L,ll')::nss)):Stn W A env x v objs ((L,ll)::nss) Q:=by intro u hu hp tk C;obtain ⟨⟨m,hn,hl⟩,_⟩:=C.ns (L,ll) (List.mem_cons_self ..);refine wpAny_storeName_local (env:=env) (by unfold Env.kindOf;rw [he.names];exact hx) (by rw [he.locals];exact hn) (λh' hn' hs=>?_) (by rw [he.kind];rfl);rw [he.locals] at hn' hs;exact ⟨h',tk + 1,_,_,C.setNs (λb o hb e=>(hs.2 b hb).trans e) hn' (hl.set g hu),h⟩
theorem Zl {x:Str}{v:V}{v₀:Option V}{c:Addr}{Q:jA->jB->Prop}(he:EnvAt env names L cells) (hx:names.lookup x=some .cell) (hc:cells.lookup x=some c) (P:Put c (.cell v₀) (.cell (some v)) objs objs') (h:Q objs' nss):Stn W A env x v objs nss Q:=by
 intro u hu hp tk C;obtain ⟨o,ho,hi⟩:=C.get (.of_mem P.mem);have hcell:∃ w₀,hp.IsCell c w₀:=by
  induction v₀ using Option.casesOn with
  | none=>exact ⟨none,o,ho,hi⟩
  | some y=>obtain ⟨w,hw,_⟩:=hi;exact ⟨some w,o,ho,hw⟩
 obtain ⟨w₀,hw⟩:=hcell;refine wpAny_storeName_cell (env:=env) he.kind (by unfold Env.kindOf;rw [he.names];exact hx) (by rw [he.cells];exact hc) hw λh' hv hs=>?_;obtain ⟨o',ho',hd'⟩:=hv;exact ⟨h',tk,_,_,C.put P (λb ob hb e=>(hs.2 b hb).trans e) ho' ⟨u,hd',hu⟩,h⟩
theorem JV {i:Int}{k pos}{Q:V->jA->jB->Prop}(h:Q (.int i) objs nss):Ev W A env (.Constant (.int i) k pos) objs nss Q:=λhp tk C =>
 wpAny_Constant_int ⟨hp,tk + 1,_,_,C,.int i,⟨tk,rfl⟩,h⟩
theorem zDD {x:Str}{k pos}{Q:V->jA->jB->Prop}(h:Q (.str x) objs nss):Ev W A env (.Constant (.str x) k pos) objs nss Q:=λhp tk C =>
 Constant_str ⟨hp,tk + 1,_,_,C,.str x,⟨tk,rfl⟩,h⟩
theorem zLL {k pos}{Q:V->jA->jB->Prop}(h:Q .none objs nss):Ev W A env (.Constant .none k pos) objs nss Q:=λhp tk C=>wpAny_pure ⟨hp,tk,_,_,C,.none,rfl,h⟩
theorem zLM {b k pos}{Q:V->jA->jB->Prop}(h:Q (.bool b) objs nss):Ev W A env (.Constant (.bool b) k pos) objs nss Q:=λhp tk C=>wpAny_pure ⟨hp,tk,_,_,C,.bool b,rfl,h⟩
theorem YU {l op r pos}{Q:V->jA->jB->Prop}(h:Ev W A env l objs nss λx o n=>Ev W A env r o n λy o n=>Bin W A op x y o n Q):Ev W A env (.BinOp l op r pos) objs nss Q:=λhp tk C=>by refine wpAny_BinOp (Tv.go (h) C λa x h₁ t₁ o₁ n₁ hx C₁ q=>?_);refine Tv.go (q) C₁ λb y h₂ t₂ o₂ n₂ hy C₂ q=>?_;exact q a b hx hy h₂ t₂ C₂
theorem QF {l op r pos}{Q:V->jA->jB->Prop}(h:Ev W A env l objs nss λx o n=>Ev W A env r o n λy o n=>Cmp W A op x y o n Q)
  (hm:behindInMarks op r=false:=by with_unfolding_all rfl):Ev W A env (.Compare l [op] [r] pos) objs nss Q:=λhp tk C=>by
 refine wpAny_Compare1 (Tv.go (h) C λa x h₁ t₁ o₁ n₁ hx C₁ q=>?_) hm;refine Tv.go (q) C₁ λb y h₂ t₂ o₂ n₂ hy C₂ q=>?_;exact q a b hx hy h₂ t₂ C₂
theorem Zm {l op r pos}{Q:Bool->jA->jB->Prop}(h:Ev W A env l objs nss λx o n=>Ev W A env r o n λy o n=>Cmp W A op x y o n λz o n=>Tru W A z o n Q)
  (hm:behindInMarks op r=false:=by with_unfolding_all rfl):Bo W A env (.Compare l [op] [r] pos) objs nss Q:=λhp tk C=>by
 refine wpAny_isTrue_Compare1 (Tv.go (h) C λa x h₁ t₁ o₁ n₁ hx C₁ q=>?_) hm;refine Tv.go (q) C₁ λb y h₂ t₂ o₂ n₂ hy C₂ q=>?_;refine Tv.go (q a b hx hy) C₂ λc z h₃ t₃ o₃ n₃ hz C₃ q=>?_;exact q c hz h₃ t₃ C₃
theorem zBt {x pos}{Q:Bool->jA->jB->Prop}(h:Bo W A env x objs nss λb o n=>Q (!b) o n):Bo W A env (.UnaryOp .Not x pos) objs nss Q:=λhp tk C =>
 wpAny_isTrue_Not (Tr.go h C λ_ h' t' o' n' C' q=>⟨h',t',o',n',C',q⟩)
theorem YV {e:Expr}{Q:Bool->jA->jB->Prop}(h:Ev W A env e objs nss λx o n=>Tru W A x o n Q)
  (he:∀ whole,isTrue e env whole=(do let v <- whole;standAt e.pos;holding [v] (truthy v))):Bo W A env e objs nss Q:=λhp tk C=>by
 refine isTrue_plain (Tv.go (h) C λa x h₁ t₁ o₁ n₁ hx C₁ q=>?_) (he _);exact q a hx h₁ t₁ C₁
theorem Zn {x r pos}{Q:Bool->jA->jB->Prop}(h:Bo W A env x objs nss λb o n=>Br b (Bo W A env (.BoolOp .And r pos) o n Q) (Q false o n)):Bo W A env (.BoolOp .And (x::r) pos) objs nss Q:=by
 intro hp tk C;refine isTrue_and (Tr.go (h) C λb h₁ t₁ o₁ n₁ C₁ q=>?_);induction b using Bool.casesOn with
 | true=>exact q.1 rfl h₁ t₁ C₁
 | false=>exact ⟨h₁,t₁,o₁,n₁,C₁,q.2 rfl⟩
theorem QG {pos}{Q:Bool->jA->jB->Prop}(h:Q true objs nss):Bo W A env (.BoolOp .And [] pos) objs nss Q:=λhp tk C=>isTrue_and_nil ⟨hp,tk,_,_,C,h⟩
theorem zN8 {x r pos}{Q:Bool->jA->jB->Prop}(h:Bo W A env x objs nss λb o n=>Br b (Q true o n) (Bo W A env (.BoolOp .Or r pos) o n Q)):Bo W A env (.BoolOp .Or (x::r) pos) objs nss Q:=by
 intro hp tk C;refine isTrue_or (Tr.go (h) C λb h₁ t₁ o₁ n₁ C₁ q=>?_);induction b using Bool.casesOn with
 | true=>exact ⟨h₁,t₁,o₁,n₁,C₁,q.1 rfl⟩
 | false=>exact q.2 rfl h₁ t₁ C₁
theorem zEs {pos}{Q:Bool->jA->jB->Prop}(h:Q false objs nss):Bo W A env (.BoolOp .Or [] pos) objs nss Q:=λhp tk C=>isTrue_or_nil ⟨hp,tk,_,_,C,h⟩
theorem zEt {op e pos}{Q:V->jA->jB->Prop}(h:Ev W A env e objs nss Q):Ev W A env (.BoolOp op [e] pos) objs nss Q:=h
theorem zJa {e₁ e₂ r pos}{Q:V->jA->jB->Prop}(h:Ev W A env e₁ objs nss λx o n=>Tru W A x o n λb o n=>Br b (Ev W A env (.BoolOp .And (e₂::r) pos) o n Q) (Q x o n)):Ev W A env (.BoolOp .And (e₁::e₂::r) pos) objs nss Q:=by
 intro hp tk C;refine BoolOp_and (Tv.go (h) C λa x h₁ t₁ o₁ n₁ hx C₁ q=>?_);refine Tr.go (q a hx) C₁ λb h₂ t₂ o₂ n₂ C₂ q=>?_;induction b using Bool.casesOn with
 | true=>exact q.1 rfl h₂ t₂ C₂
 | false=>exact ⟨h₂,t₂,o₂,n₂,C₂,x,hx,q.2 rfl⟩
theorem zPi {e₁ e₂ r pos}{Q:V->jA->jB->Prop}(h:Ev W A env e₁ objs nss λx o n=>Tru W A x o n λb o n=>Br b (Q x o n) (Ev W A env (.BoolOp .Or (e₂::r) pos) o n Q)):Ev W A env (.BoolOp .Or (e₁::e₂::r) pos) objs nss Q:=by
 intro hp tk C;refine BoolOp_or (Tv.go (h) C λa x h₁ t₁ o₁ n₁ hx C₁ q=>?_);refine Tr.go (q a hx) C₁ λb h₂ t₂ o₂ n₂ C₂ q=>?_;induction b using Bool.casesOn with
 | true=>exact ⟨h₂,t₂,o₂,n₂,C₂,x,hx,q.1 rfl⟩
 | false=>exact q.2 rfl h₂ t₂ C₂
theorem zDE {t b e pos}{Q:V->jA->jB->Prop}(h:Bo W A env t objs nss λc o n=>Br c (Ev W A env b o n Q) (Ev W A env e o n Q)):Ev W A env (.IfExp t b e pos) objs nss Q:=by
 intro hp tk C;refine wpAny_IfExp (Tr.go (h) C λb h₁ t₁ o₁ n₁ C₁ q=>?_);induction b using Bool.casesOn with
 | true=>exact q.1 rfl h₁ t₁ C₁
 | false=>exact q.2 rfl h₁ t₁ C₁
section
variable {a b:Int} {Q:V->jA->jB->Prop}
theorem zEu {c:Int}(hc:a + b=c) (h:Q (.int c) objs nss):Bin W A .Add (.int a) (.int b) objs nss Q:=by rintro _ _ ⟨t,rfl⟩ ⟨u,rfl⟩;subst hc;exact λhp tk C=>add_int ⟨hp,tk + 1,_,_,C,.int (a + b),⟨_,rfl⟩,h⟩
theorem zN9 {c:Int}(hc:a - b=c) (h:Q (.int c) objs nss):Bin W A .Sub (.int a) (.int b) objs nss Q:=by rintro _ _ ⟨t,rfl⟩ ⟨u,rfl⟩;subst hc;exact λhp tk C=>sub_int ⟨hp,tk + 1,_,_,C,.int (a - b),⟨_,rfl⟩,h⟩
theorem zNa {c:Int}(hm:IntMulOk a b) (hc:a * b=c) (h:Q (.int c) objs nss):Bin W A .Mult (.int a) (.int b) objs nss Q:=by rintro _ _ ⟨t,rfl⟩ ⟨u,rfl⟩;subst hc;exact λhp tk C=>mul_int ⟨hp,tk + 1,_,_,C,.int (a * b),⟨_,rfl⟩,h⟩ hm
theorem zNb {c:Int}(hb:0 < b) (hc:a % b=c) (h:Q (.int c) objs nss):Bin W A .Mod (.int a) (.int b) objs nss Q:=by rintro _ _ ⟨t,rfl⟩ ⟨u,rfl⟩;subst hc;exact λhp tk C=>mod_int' (by omega) ⟨hp,tk + 1,_,_,C,.int (a.fmod b),⟨_,rfl⟩,by rw [Int.fmod_eq_emod_of_nonneg _ (by omega)];exact h⟩
theorem zJb {c:Int}(hb:0 < b) (hp:Builtin.divisionGoesByPylong a b=false) (hc:a / b=c) (h:Q (.int c) objs nss):Bin W A .FloorDiv (.int a) (.int b) objs nss Q:=by rintro _ _ ⟨t,rfl⟩ ⟨u,rfl⟩;subst hc;exact λhp' tk C=>floordiv_int (by omega) ⟨hp',tk + 1,_,_,C,.int (a.fdiv b),⟨_,rfl⟩,by rw [Int.fdiv_eq_ediv_of_nonneg _ (by omega)];exact h⟩ (.inl hp)
theorem zNc (h:Q (.int (Builtin.bitAnd a b)) objs nss):Bin W A .BitAnd (.int a) (.int b) objs nss Q:=by rintro _ _ ⟨t,rfl⟩ ⟨u,rfl⟩;exact λhp tk C=>and_int ⟨hp,tk + 1,_,_,C,.int (Builtin.bitAnd a b),⟨_,rfl⟩,h⟩
theorem zPj (h:Q (.int (Builtin.bitOr a b)) objs nss):Bin W A .BitOr (.int a) (.int b) objs nss Q:=by rintro _ _ ⟨t,rfl⟩ ⟨u,rfl⟩;exact λhp tk C=>or_int ⟨hp,tk + 1,_,_,C,.int (Builtin.bitOr a b),⟨_,rfl⟩,h⟩
theorem zNd (h:Q (.int (Builtin.bitXor a b)) objs nss):Bin W A .BitXor (.int a) (.int b) objs nss Q:=by rintro _ _ ⟨t,rfl⟩ ⟨u,rfl⟩;exact λhp tk C=>xor_int ⟨hp,tk + 1,_,_,C,.int (Builtin.bitXor a b),⟨_,rfl⟩,h⟩
theorem zNe {n:Nat}{m:Int}(hb:0<=b) (hn:b.toNat=n) (hm:(2:Int) ^ n=m) (h:Q (.int (a / m)) objs nss):Bin W A .RShift (.int a) (.int b) objs nss Q:=by rintro _ _ ⟨t,rfl⟩ ⟨u,rfl⟩;subst hn hm;exact λhp tk C=>rshift_int hb ⟨hp,tk + 1,_,_,C,.int (a.fdiv (2 ^ b.toNat)),⟨_,rfl⟩,by rw [Int.fdiv_eq_ediv_of_nonneg _ (Int.pow_nonneg (by decide))];exact h⟩
theorem zNf {c:Int}{n:Nat}(hb:0<=b) (hb2:b<=64) (ha:a.natAbs < 2 ^ 64) (hn:b.toNat=n) (hc:a * 2 ^ n=c) (h:Q (.int c) objs nss):Bin W A .LShift (.int a) (.int b) objs nss Q:=by rintro _ _ ⟨t,rfl⟩ ⟨u,rfl⟩;subst hn hc;exact λhp tk C=>lshift_int_small hb (by omega) ha ⟨hp,tk + 1,_,_,C,.int (a * 2 ^ b.toNat),⟨_,rfl⟩,h⟩
theorem zNg {c:Int}{n:Nat}(hb:0<=b) (hb2:b<=1000000) (ha:a.natAbs < 2 ^ 64) (hn:b.toNat=n) (hc:a ^ n=c) (h:Q (.int c) objs nss):Bin W A .Pow (.int a) (.int b) objs nss Q:=by rintro _ _ ⟨t,rfl⟩ ⟨u,rfl⟩;subst hn hc;exact λhp tk C=>pow_int_small hb hb2 ha ⟨hp,tk + 1,_,_,C,.int (a ^ b.toNat),⟨_,rfl⟩,h⟩
theorem zNh {c:Bool}(hc:(a==b)=c) (h:Q (.bool c) objs nss):Cmp W A .Eq (.int a) (.int b) objs nss Q:=by rintro _ _ ⟨t,rfl⟩ ⟨u,rfl⟩;subst hc;exact λhp tk C=>eq_int ⟨hp,tk,_,_,C,.bool (a==b),rfl,h⟩
theorem zPk {c:Bool}(hc:(a != b)=c) (h:Q (.bool c) objs nss):Cmp W A .NotEq (.int a) (.int b) objs nss Q:=by rintro _ _ ⟨t,rfl⟩ ⟨u,rfl⟩;subst hc;exact λhp tk C=>ne_int ⟨hp,tk,_,_,C,.bool (a != b),rfl,h⟩
theorem zPl {c:Bool}(hc:decide (a < b)=c) (h:Q (.bool c) objs nss):Cmp W A .Lt (.int a) (.int b) objs nss Q:=by rintro _ _ ⟨t,rfl⟩ ⟨u,rfl⟩;subst hc;exact λhp tk C=>lt_int ⟨hp,tk,_,_,C,.bool (decide (a < b)),rfl,h⟩
theorem zPm {c:Bool}(hc:decide (b < a)=c) (h:Q (.bool c) objs nss):Cmp W A .Gt (.int a) (.int b) objs nss Q:=by rintro _ _ ⟨t,rfl⟩ ⟨u,rfl⟩;subst hc;exact λhp tk C=>gt_int ⟨hp,tk,_,_,C,.bool (decide (b < a)),rfl,h⟩
theorem zPn {c:Bool}(hc:decide (a<=b)=c) (h:Q (.bool c) objs nss):Cmp W A .LtE (.int a) (.int b) objs nss Q:=by rintro _ _ ⟨t,rfl⟩ ⟨u,rfl⟩;subst hc;exact λhp tk C=>le_int ⟨hp,tk,_,_,C,.bool (decide (a<=b)),rfl,h⟩
theorem zPo {c:Bool}(hc:decide (b<=a)=c) (h:Q (.bool c) objs nss):Cmp W A .GtE (.int a) (.int b) objs nss Q:=by rintro _ _ ⟨t,rfl⟩ ⟨u,rfl⟩;subst hc;exact λhp tk C=>ge_int ⟨hp,tk,_,_,C,.bool (decide (b<=a)),rfl,h⟩
theorem Zo {c:Bool}{Q:Bool->jA->jB->Prop}(h:Q c objs nss):Tru W A (.bool c) objs nss Q:=by rintro _ rfl;exact λhp tk C=>wpAny_truthy_bool ⟨hp,tk,_,_,C,h⟩
theorem zJc {c:Bool}{Q:Bool->jA->jB->Prop}(hc:(a != 0)=c) (h:Q c objs nss):Tru W A (.int a) objs nss Q:=by rintro _ ⟨t,rfl⟩;subst hc;exact λhp tk C=>P.truthy_int ⟨hp,tk,_,_,C,h⟩
theorem zEv {Q:Bool->jA->jB->Prop}(h:Q false objs nss):Tru W A .none objs nss Q:=by rintro _ rfl;exact λhp tk C=>truthy_none ⟨hp,tk,_,_,C,h⟩
end
theorem JB {Q:Fl->jA->jB->Prop}(h:Q .next objs nss):Es W A env [] objs nss Q:=λhp tk C=>wpAny_execs_nil ⟨hp,tk,_,_,C,.next,rfl,h⟩
noncomputable def Aft (W:Wd) (A:Around) (env:Env) (r:List Stmt) (Q:Fl->jA->jB->Prop):Fl->jA->jB->Prop
 | .next,o,n=>Es W A env r o n Q
 | .ret x,o,n=>Q (.ret x) o n
theorem Aft.next {r:List Stmt}{Q:Fl->jA->jB->Prop}(h:Es W A env r objs nss Q):Aft W A env r Q .next objs nss:=h
theorem Aft.ret {r:List Stmt}{x:V}{Q:Fl->jA->jB->Prop}(h:Q (.ret x) objs nss):Aft W A env r Q (.ret x) objs nss:=h
theorem jx {st:Stmt}{r:List Stmt}{Q:Fl->jA->jB->Prop}(h:Ex W A env st objs nss (Aft W A env r Q)):Es W A env (st::r) objs nss Q:=λhp tk C=>by
 refine wpAny_execs_cons (Fo.go (h) C λf x h₁ t₁ o₁ n₁ hx C₁ q=>?_);induction x with
 | next=>subst hx;exact q h₁ t₁ C₁
 | ret y=>obtain ⟨v,rfl,hv⟩:=hx;exact ⟨h₁,t₁,o₁,n₁,C₁,.ret y,⟨v,rfl,hv⟩,q⟩
theorem JW {e pos}{Q:Fl->jA->jB->Prop}(h:Ev W A env e objs nss λx=>Q (.ret x)):Ex W A env (.Return (some e) pos) objs nss Q:=λhp tk C =>
 wpAny_Return_some (Tv.go h C λv x h₁ t₁ o₁ n₁ hx C₁ q=>⟨h₁,t₁,o₁,n₁,C₁,.ret x,⟨v,rfl,hx⟩,q⟩)
theorem zHo {t b e pos}{Q:Fl->jA->jB->Prop}(h:Bo W A env t objs nss λc o n=>Br c (Es W A env b o n Q) (Es W A env e o n Q)):Ex W A env (.If t b e pos) objs nss Q:=λhp tk C=>by
 refine wpAny_If (Tr.go (h) C λc h₁ t₁ o₁ n₁ C₁ q=>?_);induction c using Bool.casesOn with
 | true=>exact q.1 rfl h₁ t₁ C₁
 | false=>exact q.2 rfl h₁ t₁ C₁
theorem zLN {pos}{Q:Fl->jA->jB->Prop}(h:Q .next objs nss):Ex W A env (.Pass pos) objs nss Q:=λhp tk C=>wpAny_Pass ⟨hp,tk,_,_,C,.next,rfl,h⟩
theorem zY {t value pos}{Q:Fl->jA->jB->Prop}(h:Ev W A env value objs nss λx o n=>As W A env t x o n (Q .next))
  (hs:swapsWithSole [t] value pos.line env=pure false) (hw:swappedStores [t] value env=pure none) (ht:assignEach [t] env=[(false,assign t env)]) :
  Ex W A env (.Assign [t] value pos) objs nss Q:=by
 unfold Ex;rw [arm_exec_Assign,hs,hw,ht];refine Tr.bind (Tr.standAt (Tr.bind (Tr.pure ?_)));simp only [Bool.false_eq_true,if_false];refine Tr.bind (Tv.to h λv x o n hx q=>?_);refine Tr.bind (Tr.pure ?_);exact Tr.bind (Tr.mono (q v hx) λ_ o n q=>Tr.pure ⟨.next,rfl,q⟩)
theorem JC {n:Str}{pos:Pos}{x:V}{Q:jA->jB->Prop}(h:Stn W A env n x objs nss Q):As W A env (.Name n pos) x objs nss Q:=λv hv hp tk C=>wpAny_assign_Name (h v hv hp tk C)
theorem YW {o:Expr}{n:Str}{pos:Pos}{x:V}{Q:jA->jB->Prop}(h:Ev W A env o objs nss λy o n'=>SetA W A y n x o n' Q):As W A env (.Attribute o n pos) x objs nss Q:=by intro v hv;rw [arm_assign_Attribute];refine Tr.bind (Tr.holding (Tv.to h λu y o n' hy q=>?_));refine Tr.bind (Tr.standAt (Tr.bind (Tr.holding (Tr.mono (q u v hy hv) λ_ o n q=>?_))));exact λhp tk C Γ p hΓ=>by rw [Sem.wp_release];exact ⟨hp,tk,_,_,C,q⟩
theorem zHp {o i:Expr}{pos:Pos}{x:V}{Q:jA->jB->Prop}(h:Ev W A env o objs nss λy o n=>Ev W A env i o n λj o n=>SetI W A y j x o n Q):As W A env (.Subscript o i pos) x objs nss Q:=by intro v hv;rw [arm_assign_Subscript];refine Tr.bind (Tr.holding (Tv.to h λu y o n' hy q=>?_));refine Tr.bind (Tr.holding (Tv.to q λu' j o n' hj q=>?_));refine Tr.bind (Tr.standAt (Tr.bind (Tr.holding (Tr.mono (q u u' v hy hj hv) λ_ o n q=>?_))));exact λhp tk C Γ p hΓ=>by rw [Sem.wp_release];exact ⟨hp,tk,_,_,C,q⟩
theorem zJd {value slice pos}{Q:V->jA->jB->Prop}(h:Ev W A env value objs nss λx o n=>Ev W A env slice o n λi o n=>Sub W A value slice x i o n Q):Ev W A env (.Subscript value slice pos) objs nss Q:=λhp tk C=>by refine Subscript_ (Tv.go (h) C λa x h₁ t₁ o₁ n₁ hx C₁ q=>?_);refine Tv.go (q) C₁ λb y h₂ t₂ o₂ n₂ hy C₂ q=>?_;exact q a b hx hy h₂ t₂ C₂
inductive LO (Q:List V->jA->jB->Prop) (vs:List Value) (o:jA) (n:jB):Prop
 | mk (xs:List V) (hx:All2 xs vs) (q:Q xs o n)
theorem zZ {pos:Pos}:∀ (es:List Expr) (objs:jA) (nss:jB) (Q:List V->jA->jB->Prop),(∀ e ∈ es,∀ r,starEach (e::r) env=(false,eval e env)::starEach r env)->Evs W A env es objs nss Q ->
  Tr W A (spliced (backTo pos (starEach es env))) objs nss (LO Q)
 | [],objs,nss,Q,_,h=>λhp tk C=>spliced_nil ⟨hp,tk,_,_,C,[],.nil,h⟩
 | e::r,objs,nss,Q,hs,h=>by
  have hb:backTo pos (starEach (e::r) env)=(false,eval e env)::backTo pos (starEach r env):=by rw [hs e (List.mem_cons_self ..) r];rfl
  rw [hb];intro hp tk C;refine spliced_cons (Tv.go (h) C λv x h₁ t₁ o₁ n₁ hx C₁ q=>?_);exact Tr.go (zZ r o₁ n₁ _ (λe he=>hs e (List.mem_cons_of_mem _ he)) q) C₁ λvs h₂ t₂ o₂ n₂ C₂ q=>q.casesOn λxs hxs q=>⟨h₂,t₂,o₂,n₂,C₂,x::xs,.cons hx hxs,q⟩
end
theorem Lo.go {W:Wd}{A:Around}{objs:jA}{nss:jB}{E:Value->Shared->Prop}{h:Heap}{tk:Nat}{t:Sem (List Value)}{Q:List V->jA->jB->Prop}{R:List Value->Shared->Prop}(H:Tr W A t objs nss (LO Q)) (C:Cx W h objs nss)
  (k:∀ v x h' tk' o' n',All2 x v->Cx W h' o' n'->Q x o' n'->R v (St W.s₀ h' tk')):wpAny (model W.prog W.w) A t R E (St W.s₀ h tk) :=
 Tr.go H C λv h' tk' o' n' C' q=>q.casesOn λx hx q=>k v x h' tk' o' n' hx C' q
noncomputable def noStar (e:Expr):Bool:=!Nat.beq e.ctorIdx 22
noncomputable def j0:List Expr->Bool
 | []=>true
 | e::r=>noStar e&&j0 r
theorem zLO (e:Expr):cond (noStar e) (∀ (r:List Expr) (env:Env),starEach (e::r) env=(false,eval e env)::starEach r env) True:=by induction e using Expr.casesOn<;>first | exact λ_ _=>rfl | exact trivial
theorem zG {env:Env}:∀ {es:List Expr},j0 es=true->∀ e ∈ es,∀ r,starEach (e::r) env=(false,eval e env)::starEach r env
 | e::es,h,e',he,r=>(List.mem_cons.mp he).elim (λq=>by rw [q];exact Vr (zLO e) (jP h).1 r env) λhe=>zG (jP h).2 e' he r
section
variable {W:Wd} {A:Around} {env:Env} {objs objs':jA} {nss:jB} {names:List (Str×NameKind)} {L:Addr} {cells:List (Str×Addr)} {ll ll':jX} {K:Frag} {mg mb:Str->Option Value}
theorem Gr.high (G:Gr W K mg mb) {h:Heap}(C:Cx W h objs nss):(h.objs.size==sysModules)=false:=by obtain ⟨b,o,hb,e⟩:=G.low;have:=Heap.lt_size (C.keep _ _ e);exact beq_false_of_ne (by intro q;rw [q] at this;exact Nat.lt_irrefl _ (Nat.lt_trans hb this))
theorem Qj {es:List Expr}:∀ {objs nss}{Q:List V->jA->jB->Prop},Evs W A env es objs nss Q->Evs W A env es objs nss λxs o n=>xs.length=es.length/\Q xs o n:=by
 induction es with
 | nil=>intro objs nss Q h;exact ⟨rfl,h⟩
 | cons e r ih =>
  intro objs nss Q h;refine Ev.mono h λx o n q=>?_;have:=ih q;have mono:∀ {es:List Expr} {o n} {Q Q':List V->jA->jB->Prop},Evs W A env es o n Q->(∀ xs o n,Q xs o n->Q' xs o n)->Evs W A env es o n Q':=by
   intro es;induction es with
   | nil=>intro o n Q Q' h k;exact k _ _ _ h
   | cons e r ih2=>intro o n Q Q' h k;exact Ev.mono h λx o n q=>ih2 q λxs o n=>k _ _ _
  exact mono this λxs o n ⟨l,q⟩=>⟨by simp [l],q⟩
theorem Evs.mono {es:List Expr}:∀ {o n}{Q Q':List V->jA->jB->Prop},Evs W A env es o n Q->(∀ xs o n,Q xs o n->Q' xs o n)->Evs W A env es o n Q':=by
 induction es with
 | nil=>intro o n Q Q' h k;exact k _ _ _ h
 | cons e r ih2=>intro o n Q Q' h k;exact Ev.mono h λx o n q=>ih2 q λxs o n=>k _ _ _
theorem zC {n:Nat}(h:n<=1000):n<=sizeLine:=by rw [sizeLine_eq];omega
theorem zBu {vs:List Value}{xs:List V}{Q:V->jA->jB->Prop}(hx:All2 xs vs) (hz:xs.length<=1000) (h:∀ a,Q (.ref a) ((a,.list xs)::objs) nss):Tv W A (newList vs) objs nss Q:=λhp tk C=>by refine wpAny_newObj_type ?_ (by show vs.toArray.size<=sizeLine;rw [List.size_toArray,hx.length];exact zC hz);exact ⟨_,tk,_,_,C.push (o:=.list xs) ⟨rfl,vs,0,rfl,hx,rfl,rfl⟩,.ref hp.objs.size,rfl,h _⟩
theorem zA3 {vs:List Value}{xs:List V}{Q:V->jA->jB->Prop}(hx:All2 xs vs) (hz:xs.length<=1000) (h:∀ a,Q (.ref a) ((a,.tup xs)::objs) nss):Tv W A (newTuple vs) objs nss Q:=λhp tk C=>by refine wpAny_newObj_type ?_ (by show vs.toArray.size<=sizeLine;rw [List.size_toArray,hx.length];exact zC hz);exact ⟨_,tk,_,_,C.push (o:=.tup xs) ⟨rfl,vs,0,rfl,hx⟩,.ref hp.objs.size,rfl,h _⟩
theorem zBv {es pos}{Q:V->jA->jB->Prop}(h:Evs W A env es objs nss λxs o n=>∀ a,Q (.ref a) ((a,.list xs)::o) n) (hp:j0 es=true) (hz:es.length<=1000) :
  Ev W A env (.List es pos) objs nss Q:=by
 unfold Ev;rw [arm_eval_List];refine Tr.bind (Tr.standAt (Tr.bind (Tr.mono (zZ es objs nss _ (zG hp) (Qj h)) λvs o n ⟨xs,hxs,hl,q⟩=>?_)));exact zBu hxs (by omega) q
theorem zDF {es k pos}{Q:V->jA->jB->Prop}(h:Evs W A env es objs nss λxs o n=>∀ a,Q (.ref a) ((a,.tup xs)::o) n) (hp:j0 es=true) (hz:es.length<=1000) :
  Ev W A env (.Tuple es k pos) objs nss Q:=by
 unfold Ev;rw [arm_eval_Tuple];refine Tr.bind (Tr.standAt (Tr.bind (Tr.mono (zZ es objs nss _ (zG hp) (Qj h)) λvs o n ⟨xs,hxs,hl,q⟩=>?_)));exact zA3 hxs (by omega) q
inductive ZL:List (Option Expr)->List Str->Prop
 | nil:ZL [] []
 | cons {k n p r ks}:ZL r ks->ZL (some (.Constant (.str k) n p)::r) (k::ks)
inductive ZM:List (Option Expr)->List Int->Prop
 | nil:ZM [] []
 | cons {k n p r ks}:ZM r ks->ZM (some (.Constant (.int k) n p)::r) (k::ks)
theorem zEw:∀ {ks:List Str}{xs:List V}{vs:List (Value×Value)},All2 xs (vs.map Prod.snd)->(∃ ts:List Tok,ts.length=ks.length/\vs.map Prod.fst=(ks.zip ts).map λp=>.str p.1 p.2) ->
  allStrKeys vs=true/\(strPairs vs).map Prod.fst=ks/\Kvs (ks.zip xs) (strPairs vs):=by
 intro ks;induction ks with
 | nil =>
  rintro xs vs h ⟨ts,ht,he⟩;have:vs=[]:=by simpa using he
  subst this;exact ⟨rfl,rfl,.nil⟩
 | cons k ks ih =>
  rintro xs vs h ⟨ts,ht,he⟩;induction ts using List.casesOn with
  | nil=>simp at ht
  | cons t ts =>
   induction vs using List.casesOn with
   | nil=>simp at he
   | cons p vs =>
    obtain ⟨pk,pv⟩:=p;simp only [List.map_cons,List.zip_cons_cons,List.cons.injEq] at he;obtain ⟨e1,e2⟩:=he;subst e1;cases h with
    | cons hx hr =>obtain ⟨i1,i2,i3⟩:=ih hr ⟨ts,by simpa using ht,e2⟩;exact ⟨i1,by simp [strPairs,i2],.cons hx i3⟩
theorem zEx:∀ {ks:List Int}{xs:List V}{vs:List (Value×Value)},All2 xs (vs.map Prod.snd)->(∃ ts:List Tok,ts.length=ks.length/\vs.map Prod.fst=(ks.zip ts).map λp=>.int p.1 p.2) ->
  allIntKeys vs=true/\(intKeyPairs vs).map Prod.fst=ks/\Kvs (ks.zip xs) (intKeyPairs vs):=by
 intro ks;induction ks with
 | nil =>
  rintro xs vs h ⟨ts,ht,he⟩;have:vs=[]:=by simpa using he
  subst this;exact ⟨rfl,rfl,.nil⟩
 | cons k ks ih =>
  rintro xs vs h ⟨ts,ht,he⟩;induction ts using List.casesOn with
  | nil=>simp at ht
  | cons t ts =>
   induction vs using List.casesOn with
   | nil=>simp at he
   | cons p vs =>
    obtain ⟨pk,pv⟩:=p;simp only [List.map_cons,List.zip_cons_cons,List.cons.injEq] at he;obtain ⟨e1,e2⟩:=he;subst e1;cases h with
    | cons hx hr =>obtain ⟨i1,i2,i3⟩:=ih hr ⟨ts,by simpa using ht,e2⟩;exact ⟨i1,by simp [intKeyPairs,i2],.cons hx i3⟩
inductive KO {K:Type}(c:K->Tok->Value) (ks:List K) (Q:List V->jA->jB->Prop) (vs:List (Value×Value)) (o:jA) (n:jB):Prop
 | mk (xs:List V) (hx:All2 xs (vs.map Prod.snd)) (ts:List Tok) (ht:ts.length=ks.length) (e:vs.map Prod.fst=(ks.zip ts).map λp=>c p.1 p.2) (q:Q xs o n)
set_option tactic.hygienic true in
theorem zLP {pos:Pos}:∀ {keys:List (Option Expr)}{values:List Expr}{ks:List Str}{objs nss}{Q:List V->jA->jB->Prop},ZL keys ks->keys.length=values.length->Evs W A env values objs nss Q ->
  Tr W A (evalPairs (pairTrees keys values env pos)) objs nss (KO Value.str ks Q):=by
 intro keys values ks objs nss Q hk;induction hk generalizing values objs nss Q with
 | nil =>
  intro hl h;induction values using List.casesOn with
  | nil=>exact λhp tk C=>evalPairs_nil ⟨hp,tk,_,_,C,[],.nil,[],rfl,rfl,h⟩
  | cons=>simp at hl
 | cons hk ih =>
  rename_i k n p r ks;intro hl h;induction values using List.casesOn with
  | nil=>simp at hl
  | cons v values =>intro hp tk C;refine evalPairs_cons (Constant_str ?_);refine wpAny_bind (Tv.go h C λvv x h₁ t₁ o₁ n₁ hx C₁ q=>?_);refine wpAny_bind (wpAny_standAt (wpAny_pure ?_));exact Tr.go (ih (by simpa using hl) q) C₁ λvs h₂ t₂ o₂ n₂ C₂ q=>q.casesOn λxs hxs ts ht hts q=>⟨h₂,t₂,o₂,n₂,C₂,x::xs,.cons hx hxs,tk::ts,by simp [ht],by simp [hts],q⟩
set_option tactic.hygienic true in
theorem zLQ {pos:Pos}:∀ {keys:List (Option Expr)}{values:List Expr}{ks:List Int}{objs nss}{Q:List V->jA->jB->Prop},ZM keys ks->keys.length=values.length->Evs W A env values objs nss Q ->
  Tr W A (evalPairs (pairTrees keys values env pos)) objs nss (KO Value.int ks Q):=by
 intro keys values ks objs nss Q hk;induction hk generalizing values objs nss Q with
 | nil =>
  intro hl h;induction values using List.casesOn with
  | nil=>exact λhp tk C=>evalPairs_nil ⟨hp,tk,_,_,C,[],.nil,[],rfl,rfl,h⟩
  | cons=>simp at hl
 | cons hk ih =>
  rename_i k n p r ks;intro hl h;induction values using List.casesOn with
  | nil=>simp at hl
  | cons v values =>intro hp tk C;refine evalPairs_cons (wpAny_Constant_int ?_);refine wpAny_bind (Tv.go h C λvv x h₁ t₁ o₁ n₁ hx C₁ q=>?_);refine wpAny_bind (wpAny_standAt (wpAny_pure ?_));exact Tr.go (ih (by simpa using hl) q) C₁ λvs h₂ t₂ o₂ n₂ C₂ q=>q.casesOn λxs hxs ts ht hts q=>⟨h₂,t₂,o₂,n₂,C₂,x::xs,.cons hx hxs,tk::ts,by simp [ht],by simp [hts],q⟩
theorem QH {keys:List (Option Expr)}{ks:List Str}(h:ZL keys ks):keys.all (·.isSome)=true/\keys.length=ks.length:=by induction h<;>simp_all
theorem QI {keys:List (Option Expr)}{ks:List Int}(h:ZM keys ks):keys.all (·.isSome)=true/\keys.length=ks.length:=by induction h<;>simp_all
theorem zHq {keys values pos}{ks:List Str}{Q:V->jA->jB->Prop}(G:Gr W K mg mb) (hk:ZL keys ks) (hnd:ks.Nodup) (hl:keys.length=values.length) (h0:keys≠[]) (hlen:keys.length<=15)
  (h:∀ d,Evs W A env values ((d,.sdict [])::objs) nss λxs o n=>∃ o',Put d (.sdict []) (.sdict (ks.zip xs)) o o'/\Q (.ref d) o' n):Ev W A env (.Dict keys values pos) objs nss Q:=by
 intro hp tk C;refine wpAny_Dict_walk (knd:=PySem.strKind W.prog W.w) (QH hk).1 hl h0 hlen ?_;obtain ⟨o,ho,hd⟩:=Heap.dictOf_iff.mp (Heap.DictOf.new (knd:=PySem.strKind W.prog W.w) hp);have C':Cx W (hp.push { cls:=.type "dict",data:=.dict #[] }) ((hp.objs.size,.sdict [])::objs) nss :=
  C.alloc (x:=o) (λ_ _ _ e=>Heap.get?_push_of_some _ e) (Cx.noneAtSize hp) ho ⟨G.high C,[],hd,.nil⟩
 refine Tr.go (zLP hk hl (h hp.objs.size)) C' λvs h₁ t₁ o₁ n₁ C₁ qq=>?_;obtain ⟨xs,hxs,ts,ht,hts,o',P,q⟩:=qq;obtain ⟨hv,hfst,hkv⟩:=zEw hxs ⟨ts,ht,hts⟩;obtain ⟨o2,ho2,hlow,l0,hl0,hl1⟩:=C₁.get (.of_mem P.mem);have hl2:l0=[]:=by cases hl1;rfl
 subst hl2;refine display_done_str (P:=λh'=>TrO W (VO Q) (.ref hp.objs.size) _) hv (by rw [hfst];exact hnd) (Heap.dictOf_iff.mpr ⟨o2,ho2,hl0⟩) λh' hm hs=>?_;obtain ⟨o3,ho3,hd3⟩:=Heap.dictOf_iff.mp hm;exact ⟨h',t₁ + vs.length,o',n₁,C₁.put P (λb ob hb e=>(hs.2 b hb).trans e) ho3 ⟨hlow,_,hd3,hkv⟩,.ref _,rfl,q⟩
theorem zHr {keys values pos}{ks:List Int}{Q:V->jA->jB->Prop}(G:Gr W K mg mb) (hk:ZM keys ks) (hnd:ks.Nodup) (hl:keys.length=values.length) (h0:keys≠[]) (hlen:keys.length<=15)
  (h:∀ d,Evs W A env values ((d,.idict [])::objs) nss λxs o n=>∃ o',Put d (.idict []) (.idict (ks.zip xs)) o o'/\Q (.ref d) o' n):Ev W A env (.Dict keys values pos) objs nss Q:=by
 intro hp tk C;refine wpAny_Dict_walk (knd:=PySem.intKind W.prog W.w) (QI hk).1 hl h0 hlen ?_;obtain ⟨o,ho,hd⟩:=Heap.dictOf_iff.mp (Heap.DictOf.new (knd:=PySem.intKind W.prog W.w) hp);have C':Cx W (hp.push { cls:=.type "dict",data:=.dict #[] }) ((hp.objs.size,.idict [])::objs) nss :=
  C.alloc (x:=o) (λ_ _ _ e=>Heap.get?_push_of_some _ e) (Cx.noneAtSize hp) ho ⟨G.high C,[],hd,.nil⟩
 refine Tr.go (zLQ hk hl (h hp.objs.size)) C' λvs h₁ t₁ o₁ n₁ C₁ qq=>?_;obtain ⟨xs,hxs,ts,ht,hts,o',P,q⟩:=qq;obtain ⟨hv,hfst,hkv⟩:=zEx hxs ⟨ts,ht,hts⟩;obtain ⟨o2,ho2,hlow,l0,hl0,hl1⟩:=C₁.get (.of_mem P.mem);have hl2:l0=[]:=by cases hl1;rfl
 subst hl2;refine display_done_int (P:=λh'=>TrO W (VO Q) (.ref hp.objs.size) _) hv (by rw [hfst];exact hnd) (Heap.dictOf_iff.mpr ⟨o2,ho2,hl0⟩) λh' hm hs=>?_;obtain ⟨o3,ho3,hd3⟩:=Heap.dictOf_iff.mp hm;exact ⟨h',t₁ + vs.length,o',n₁,C₁.put P (λb ob hb e=>(hs.2 b hb).trans e) ho3 ⟨hlow,_,hd3,hkv⟩,.ref _,rfl,q⟩
inductive GetK {K:Type}(k:K) (x:V):List (K×V)->Prop
 | head {r}:GetK k x ((k,x)::r)
 | tail {j y r}:j≠k->GetK k x r->GetK k x ((j,y)::r)
inductive SetK {K:Type}(k:K) (x:V):List (K×V)->List (K×V)->Prop
 | nil:SetK k x [] [(k,x)]
 | head {y r}:SetK k x ((k,y)::r) ((k,x)::r)
 | tail {j y r r'}:j≠k->SetK k x r r'->SetK k x ((j,y)::r) ((j,y)::r')
theorem Kvs.length {K:Type}{xs:List (K×V)}{vs:List (K×Value)}(h:Kvs xs vs):vs.length=xs.length:=by induction h<;>simp_all
theorem GetK.at {K:Type} [DecidableEq K] {k:K}{x:V}{xs:List (K×V)}{vs:List (K×Value)}(g:GetK k x xs) (h:Kvs xs vs):∃ v,valueAt vs k=some v/\x.Is v:=by
 induction g generalizing vs with
 | head=>cases h with | cons hv hr=>exact ⟨_,by simp [valueAt],hv⟩
 | tail hne g ih =>
  cases h with
  | cons hv hr =>obtain ⟨v,e,i⟩:=ih hr;refine ⟨v,?_,i⟩;unfold valueAt at e ⊢;simpa [List.find?_cons,hne] using e
set_option tactic.hygienic true in
theorem SetK.at {K:Type} [DecidableEq K] {k:K}{x:V}{xs xs':List (K×V)}{vs:List (K×Value)}{v:Value}(g:SetK k x xs xs') (h:Kvs xs vs) (hx:x.Is v) (hn:(vs.map (·.1)).Nodup):Kvs xs' (stored vs k v):=by
 induction g generalizing vs with
 | nil=>cases h;exact .cons hx .nil
 | head =>
  cases h with
  | cons hv hr =>
   rename_i r _ vr;simp only [stored,List.any_cons,decide_true,Bool.true_or,if_true,List.map_cons];refine .cons hx ?_;have:vr.map (λkv=>if kv.1=k then (kv.1,v) else kv)=vr:=by simp only [List.map_cons,List.nodup_cons] at hn;refine (List.map_congr_left λp hp=>?_).trans (List.map_id _);have:p.1≠k:=λe=>hn.1 (List.mem_map.mpr ⟨p,hp,e⟩);simp [this]
   rw [this];exact hr
 | tail hne g ih =>
  cases h with
  | cons hv hr =>
   rename_i j y r r' _ w vr;simp only [List.map_cons,List.nodup_cons] at hn;have i:=ih hr hn.2;unfold stored at i ⊢;simp only [List.any_cons,hne,decide_false,Bool.false_or];by_cases ha:(vr.any λkv=>decide (kv.1=k))=true
   ·simp only [ha,if_true,List.map_cons,hne,if_false] at i ⊢;exact .cons hv i
   ·simp only [ha,Bool.false_eq_true,if_false] at i ⊢;exact .cons hv i
theorem zDG {value slice:Expr}{d:Addr}{k:Str}{x:V}{kvs:List (Str×V)}{Q:V->jA->jB->Prop}(hd:Has d (.sdict kvs) objs) (g:GetK k x kvs) (h:Q x objs nss)
  (hs:∀ o i,subscripted slice false o i=operate [o,i] (getItem o i)):Sub W A value slice (.ref d) (.str k) objs nss Q:=by
 rintro _ _ rfl ⟨t,rfl⟩;refine λhp tk C=>?_;obtain ⟨o,ho,_,l,hl,hk⟩:=C.get hd;obtain ⟨v,e,i⟩:=g.at hk;have hm:=(Heap.dictOf_iff.mpr ⟨o,ho,hl⟩).mapOf;exact tail_any (s:=St W.s₀ hp tk) hm.typeIs slot_dict_getitem.lookup (wpAny_getItem_of (s:=St W.s₀ hp tk) (knd:=PySem.strKind W.prog W.w) (by simp [PySem.strKind,Value.isStrOf]) hm e ⟨hp,tk + 1,_,_,C,x,i,h⟩) (hs _ _)
theorem zHs {value slice:Expr}{d:Addr}{k:Int}{x:V}{kvs:List (Int×V)}{Q:V->jA->jB->Prop}(hd:Has d (.idict kvs) objs) (g:GetK k x kvs) (h:Q x objs nss)
  (hs:∀ o i,subscripted slice false o i=operate [o,i] (getItem o i)):Sub W A value slice (.ref d) (.int k) objs nss Q:=by
 rintro _ _ rfl ⟨t,rfl⟩;refine λhp tk C=>?_;obtain ⟨o,ho,_,l,hl,hk⟩:=C.get hd;obtain ⟨v,e,i⟩:=g.at hk;have hm:=(Heap.dictOf_iff.mpr ⟨o,ho,hl⟩).mapOf;exact tail_any (s:=St W.s₀ hp tk) hm.typeIs slot_dict_getitem.lookup (wpAny_getItem_of (s:=St W.s₀ hp tk) (knd:=PySem.intKind W.prog W.w) (by simp [PySem.intKind,Value.isInt]) hm e ⟨hp,tk + 1,_,_,C,x,i,h⟩) (hs _ _)
theorem zEy {value slice:Expr}{l:Addr}{k:Int}{x:V}{xs:List V}{Q:V->jA->jB->Prop}(hl:Has l (.list xs) objs) (h0:0<=k) (hb:k < 2 ^ 63) (g:xs[k.toNat]?=some x) (h:Q x objs nss)
  (hs:∀ o i,subscripted slice false o i=operate [o,i] (getItem o i)):Sub W A value slice (.ref l) (.int k) objs nss Q:=by
 rintro _ _ rfl ⟨t,rfl⟩;refine λhp tk C=>?_;obtain ⟨o,ho,hc,vs,n,hd,hx,_⟩:=C.get hl;obtain ⟨v,e,i⟩:=hx.get g;have hli:hp.IsList l vs.toArray:=⟨o,ho,hc,n,hd⟩;exact tail_any (s:=St W.s₀ hp tk) hli.typeIs slot_list_getitem.lookup (wpAny_getItem_list (s:=St W.s₀ hp tk) hli h0 hb (by simpa using e) ⟨hp,tk,_,_,C,x,i,h⟩) (hs _ _)
theorem zNi {value slice:Expr}{l:Addr}{k:Int}{j:Nat}{x:V}{xs:List V}{Q:V->jA->jB->Prop}(hl:Has l (.tup xs) objs) (h0 : -(2 ^ 63)<=k) (hb:k < 2 ^ 63) (hj:seqIndex? k xs.length=some j) (g:xs[j]?=some x) (h:Q x objs nss)
  (hs:∀ o i,subscripted slice false o i=operate [o,i] (getItem o i)):Sub W A value slice (.ref l) (.int k) objs nss Q:=by
 rintro _ _ rfl ⟨t,rfl⟩;refine λhp tk C=>?_;obtain ⟨o,ho,hc,vs,n,hd,hx⟩:=C.get hl;obtain ⟨v,e,i⟩:=hx.get g;have hli:IsTup hp l vs.toArray:=⟨o,ho,hc,n,hd⟩;exact tail_any (s:=St W.s₀ hp tk) hli.typeIs slot_tuple_getitem.lookup (getItem_tuple (s:=St W.s₀ hp tk) hli h0 hb (by rw [List.size_toArray,hx.length];exact hj) (by simpa using e) ⟨hp,tk,_,_,C,x,i,h⟩) (hs _ _)
theorem zHt {d:Addr}{k:Str}{x:V}{kvs kvs':List (Str×V)}{Q:jA->jB->Prop}(P:Put d (.sdict kvs) (.sdict kvs') objs objs') (g:SetK k x kvs kvs') (h:Q objs' nss) (hz:kvs.length<=1000):SetI W A (.ref d) (.str k) x objs nss Q:=by
 rintro _ _ u rfl ⟨t,rfl⟩ hu;refine λhp tk C=>?_;obtain ⟨o,ho,hlow,l,hl,hk⟩:=C.get (.of_mem P.mem);have hdo:=Heap.dictOf_iff.mpr ⟨o,ho,hl⟩;have hlen:l.length=kvs.length:=hk.length;have hn:(l.map (·.1)).Nodup:=by obtain ⟨_,_,_,_,_,_,hn⟩:=hl;exact hn
 refine wpAny_setItem_pairs (s:=St W.s₀ hp tk) (k:=k) (knd:=PySem.strKind W.prog W.w) (by simp [PySem.strKind,Value.isStrOf]) hdo (λh' hm hs=>?_) (by rw [hlen];exact zC hz);obtain ⟨o3,ho3,hd3⟩:=Heap.dictOf_iff.mp hm;exact ⟨h',tk + 1,_,_,C.put P (λb ob hb e=>(hs.2 b hb).trans e) ho3 ⟨hlow,_,hd3,g.at hk hu hn⟩,h⟩
theorem zHu {d:Addr}{k:Int}{x:V}{kvs kvs':List (Int×V)}{Q:jA->jB->Prop}(P:Put d (.idict kvs) (.idict kvs') objs objs') (g:SetK k x kvs kvs') (h:Q objs' nss) (hz:kvs.length<=1000):SetI W A (.ref d) (.int k) x objs nss Q:=by
 rintro _ _ u rfl ⟨t,rfl⟩ hu;refine λhp tk C=>?_;obtain ⟨o,ho,hlow,l,hl,hk⟩:=C.get (.of_mem P.mem);have hdo:=Heap.dictOf_iff.mpr ⟨o,ho,hl⟩;have hlen:l.length=kvs.length:=hk.length;have hn:(l.map (·.1)).Nodup:=by obtain ⟨_,_,_,_,_,_,hn⟩:=hl;exact hn
 refine wpAny_setItem_pairs (s:=St W.s₀ hp tk) (k:=k) (knd:=PySem.intKind W.prog W.w) (by simp [PySem.intKind,Value.isInt]) hdo (λh' hm hs=>?_) (by rw [hlen];exact zC hz);obtain ⟨o3,ho3,hd3⟩:=Heap.dictOf_iff.mp hm;exact ⟨h',tk + 1,_,_,C.put P (λb ob hb e=>(hs.2 b hb).trans e) ho3 ⟨hlow,_,hd3,g.at hk hu hn⟩,h⟩
theorem Vs {prog:Program}{w:World}{A:Around}{E:Value->Shared->Prop}{s:Shared}{l:Addr}{items:Array Value}{n:Nat}{k:Int}{t:Tok}{v:Value}{Q:Unit->Shared->Prop}
  (ho:s.heap.get? l=some { cls:=.type "list",dict:=none,data:=.seq items n,slots:=#[] }) (h0:0<=k) (hfit:k < 2 ^ 63) (hn:k < items.size)
  (hQ:∀ h' n',h'.get? l=some { cls:=.type "list",dict:=none,data:=.seq (items.setIfInBounds k.toNat v) n',slots:=#[] }->Heap.SameBut l s.heap h'->Q () { s with heap:=h' }) :
  wpAny (model prog w) A (setItem (.ref l) (.int k t) v) Q E s:=by
 exact ki_setAt (n:=n) ho h0 hfit hn (hQ _ _ (Heap.get?_update_self (Obj.mapSeq (·.setIfInBounds k.toNat v)) ho rfl) (Heap.SameBut.update ..))
theorem zLR {l:Addr}{k:Int}{x:V}{xs:List V}{Q:jA->jB->Prop}(h0:0<=k) (hb:k < 2 ^ 63) (hi:k < xs.length) (P:Put l (.list xs) (.list (xs.set k.toNat x)) objs objs') (h:Q objs' nss):SetI W A (.ref l) (.int k) x objs nss Q:=by rintro _ _ u rfl ⟨t,rfl⟩ hu;refine λhp tk C=>?_;obtain ⟨⟨c,dd,da,sl⟩,ho,hc,vs,n,hd,hx,hdd,hsl⟩:=C.get (.of_mem P.mem);simp only at hc hd hdd hsl;subst hc hd hdd hsl;refine Vs (s:=St W.s₀ hp tk) ho h0 hb (by rw [List.size_toArray,hx.length];exact hi) λh' n' hl' hs=>?_;exact ⟨h',tk,_,_,C.put P (λb ob hb e=>(hs.2 b hb).trans e) hl' ⟨rfl,vs.set k.toNat u,n',by simp,hx.set hu _,rfl,rfl⟩,h⟩
theorem zEB {l m:Addr}{xs ys:List V}{Q:V->jA->jB->Prop}(hl:Has l (.list xs) objs) (hm:Has m (.list ys) objs) (hz:xs.length + ys.length<=1000) (h:∀ a,Q (.ref a) ((a,.list (xs++ys))::objs) nss):Bin W A .Add (.ref l) (.ref m) objs nss Q:=by
 rintro _ _ rfl rfl;refine λhp tk C=>?_;obtain ⟨⟨cls,dd,data,sl⟩,ho,hc,vs,n,hd,hx,_⟩:=C.get hl;obtain ⟨⟨cls2,dd2,data2,sl2⟩,ho2,hc2,ws,n2,hd2,hy,_⟩:=C.get hm;simp only at hc hd hc2 hd2;subst hc hd hc2 hd2;have e:vs.toArray++ws.toArray=(vs++ws).toArray:=by simp
 have hsz:vs.length + ws.length<=sizeLine:=by rw [hx.length,hy.length];exact zC hz
 refine concat_meets (s:=St W.s₀ hp tk) ⟨_,ho,rfl⟩ ⟨_,ho2,rfl⟩ noFill_list_add seq_list_add PySem.F.slot_list_add PySem.F.entry_list_add (PySem.F.args_list_add_2 _ _) (list_addW l m vs.toArray ws.toArray n n2 dd dd2 sl sl2 (by simpa using hsz)) ⟨ho,ho2,?_⟩;rw [e];exact ⟨_,tk,_,_,C.push (o:=.list (xs++ys)) ⟨rfl,vs++ws,0,rfl,hx.append hy,rfl,rfl⟩,.ref hp.objs.size,rfl,h _⟩
end
theorem Gr.into {W:Wd}{K:Frag}{mg mb:Str->Option Value}{h:Heap}{objs o₂:jA}{nss n₂:jB}(G:Gr W K mg mb) (C:Cx W h (objs++o₂) (nss++n₂)) :
  Gr (Cx.Wd.into W h (objs.map Prod.fst++nss.map Prod.fst)) K mg mb where
 kin:=λb o e=>C.baseIn b o (G.kin b o e)
 g:=G.g.keeps C.baseIn
 b:=G.b.keeps C.baseIn
 nolimit:=G.nolimit.keeps C.baseIn
 bi:=G.bi
 low:=by obtain ⟨b,o,l,e⟩:=G.low;exact ⟨b,o,l,C.baseIn b o e⟩
theorem Gr.into' {W:Wd}{K:Frag}{mg mb:Str->Option Value}{h:Heap}{objs:jA}{nss:jB}(G:Gr W K mg mb) (C:Cx W h objs nss) :
  Gr (Cx.Wd.into W h (objs.map Prod.fst++nss.map Prod.fst)) K mg mb:=Gr.into (o₂:=[]) (n₂:=[]) G (by simpa using C)
theorem Cx.into' {W:Wd}{h:Heap}{objs:jA}{nss:jB}(C:Cx W h objs nss):Cx (Cx.Wd.into W h (objs.map Prod.fst++nss.map Prod.fst)) h objs nss:=Cx.into (o₂:=[]) (n₂:=[]) (by simpa using C)
theorem Cx.back' {W:Wd}{h h':Heap}{objs o':jA}{nss n':jB}(C:Cx W h objs nss) (C':Cx (Cx.Wd.into W h (objs.map Prod.fst++nss.map Prod.fst)) h' o' n'):Cx W h' o' n':=by have:=Cx.back (o₂:=[]) (n₂:=[]) (by simpa using C) C';simpa using this
theorem Cx.off {W:Wd}{h h':Heap}{objs o':jA}{nss n':jB}(C:Cx W h objs nss) (C':Cx (Cx.Wd.into W h (objs.map Prod.fst++nss.map Prod.fst)) h' o' n') {b:Addr}{o:Obj}(hb:¬ Cx.Nm W objs nss b) (e:h.get? b=some o) :
  h'.get? b=some o/\¬ Cx.Nm W o' n' b:=by
 have hh:(hideAll h (objs.map Prod.fst++nss.map Prod.fst)).get? b=some o:=hideAll_get _ e λhm=>hb (by
  rcases List.mem_append.mp hm with hm | hm
  ·exact .inl hm
  ·exact .inr (.inl hm))
 refine ⟨C'.keep b o hh,λq=>?_⟩;rcases q with q | q | q
 ·obtain ⟨p,hp,e'⟩:=List.mem_map.mp q;have:=(C'.obj p hp).2;rw [e'] at this;rw [show (Cx.Wd.into W h (objs.map Prod.fst++nss.map Prod.fst)).base.get? b=some o from hh] at this;contradiction
 ·obtain ⟨p,hp,e'⟩:=List.mem_map.mp q;have:=(C'.ns p hp).2;rw [e'] at this;rw [show (Cx.Wd.into W h (objs.map Prod.fst++nss.map Prod.fst)).base.get? b=some o from hh] at this;contradiction
 ·exact hb (.inr (.inr q))
theorem Cx.offPut {W:Wd}{h h':Heap}{objs:jA}{nss:jB}{fp:List Addr}(C:Cx W h objs nss) (hf:∀ b ∈ fp,¬ Cx.Nm W objs nss b) (k:∀ b o,b ∉ fp->h.get? b=some o->h'.get? b=some o):Cx W h' objs nss :=
 C.grown λb o hb e=>k b o (λhm=>hf b hm hb) e
theorem Cx.intoX {W:Wd}{h:Heap}{objs:jA}{nss:jB}(C:Cx W h objs nss) (fp:List Addr):Cx { W with base:=hideAll h ((objs.map Prod.fst++nss.map Prod.fst)++fp) } h objs nss where
 keep:=λb o e=>of_hideAll _ e
 obj:=λp hp=>⟨by obtain ⟨o,e,i⟩:=(C.obj p hp).1;exact ⟨o,e,by cases h:p.2<;>(rw [h] at i;exact i)⟩,hideAll_none _ (List.mem_append_left _ (List.mem_append_left _ (List.mem_map_of_mem hp)))⟩
 ns:=λp hp=>⟨(C.ns p hp).1,hideAll_none _ (List.mem_append_left _ (List.mem_append_right _ (List.mem_map_of_mem hp)))⟩
 nd:=C.nd
theorem Cx.offX {W:Wd}{h h':Heap}{objs o':jA}{nss n':jB}{fp:List Addr}(C':Cx { W with base:=hideAll h ((objs.map Prod.fst++nss.map Prod.fst)++fp) } h' o' n') {b:Addr} {o:Obj} (hb:¬ Cx.Nm W objs nss b) (hf:b ∉ fp) (e:h.get? b=some o) :
  h'.get? b=some o/\¬ Cx.Nm W o' n' b:=by
 have hh:(hideAll h ((objs.map Prod.fst++nss.map Prod.fst)++fp)).get? b=some o:=hideAll_get _ e λhm=>by
  rcases List.mem_append.mp hm with hm | hm
  ·rcases List.mem_append.mp hm with hm | hm
   ·exact hb (.inl hm)
   ·exact hb (.inr (.inl hm))
  ·exact hf hm
 refine ⟨C'.keep b o hh,λq=>?_⟩;rcases q with q | q | q
 ·obtain ⟨p,hp,e'⟩:=List.mem_map.mp q;have:=(C'.obj p hp).2;rw [e'] at this;dsimp only at this;rw [hh] at this;contradiction
 ·obtain ⟨p,hp,e'⟩:=List.mem_map.mp q;have:=(C'.ns p hp).2;rw [e'] at this;dsimp only at this;rw [hh] at this;contradiction
 ·exact hb (.inr (.inr q))
theorem Cx.inX {W:Wd}{h:Heap}{objs:jA}{nss:jB}{fp:List Addr}(C:Cx W h objs nss) (hf:∀ b ∈ fp,¬ Cx.Nm W objs nss b):∀ b o,W.base.get? b=some o->(hideAll h ((objs.map Prod.fst++nss.map Prod.fst)++fp)).get? b=some o:=λb o e=>hideAll_get _ (C.keep b o e) λhm=>by
  rcases List.mem_append.mp hm with hm | hm
  ·rcases List.mem_append.mp hm with hm | hm<;>obtain ⟨p,hp,q⟩:=List.mem_map.mp hm
   ·have:=(C.obj p hp).2;rw [q,e] at this;contradiction
   ·have:=(C.ns p hp).2;rw [q,e] at this;contradiction
  ·exact hf b hm (.inr (.inr (by rw [e];rfl)))
theorem Cx.backX {W:Wd}{h h':Heap}{objs o':jA}{nss n':jB}{fp:List Addr}(C:Cx W h objs nss) (hf:∀ b ∈ fp,¬ Cx.Nm W objs nss b) (C':Cx { W with base:=hideAll h ((objs.map Prod.fst++nss.map Prod.fst)++fp) } h' o' n'):Cx W h' o' n':=by
 have hin:∀ b o,W.base.get? b=some o->(hideAll h ((objs.map Prod.fst++nss.map Prod.fst)++fp)).get? b=some o:=λb o e=>hideAll_get _ (C.keep b o e) λhm=>by
  rcases List.mem_append.mp hm with hm | hm
  ·rcases List.mem_append.mp hm with hm | hm<;>obtain ⟨p,hp,q⟩:=List.mem_map.mp hm
   ·have:=(C.obj p hp).2;rw [q,e] at this;contradiction
   ·have:=(C.ns p hp).2;rw [q,e] at this;contradiction
  ·exact hf b hm (.inr (.inr (by rw [e];rfl)))
 refine ⟨λb o e=>C'.keep b o (hin b o e),λp hp=>?_,λp hp=>?_,C'.nd⟩
 ·obtain ⟨⟨o,e,i⟩,n⟩:=C'.obj p hp;refine ⟨⟨o,e,by cases h:p.2<;>(rw [h] at i;exact i)⟩,?_⟩;induction q:W.base.get? p.1 using Option.casesOn with
  | none=>rfl
  | some o=>dsimp only at n;rw [hin _ _ q] at n;contradiction
 ·obtain ⟨e,n⟩:=C'.ns p hp;refine ⟨e,?_⟩;induction q:W.base.get? p.1 using Option.casesOn with
  | none=>rfl
  | some o=>dsimp only at n;rw [hin _ _ q] at n;contradiction
section
variable {W:Wd} {A:Around} {env:Env} {objs objs':jA} {nss:jB} {names:List (Str×NameKind)} {L:Addr} {cells:List (Str×Addr)} {ll ll':jX} {K:Frag} {mg mb:Str->Option Value}
structure It (W:Wd) (A:Around) (t:Expr) (it:Value) (fp:List Addr) (n:Nat) (need:jA->Prop) (Val:Nat->jA->jA->V->Prop) (S:Nat->Heap->Prop):Prop where
 frame:∀ i h h',S i h->(∀ b o,W.base.get? b=some o->h.get? b=some o/\h'.get? b=some o)->(∀ b ∈ fp,∀ o,h.get? b=some o->h'.get? b=some o)->S i h'
 there:∀ i h,S i h->∀ b ∈ fp,∃ o,h.get? b=some o
 item:∀ i h tk objs nss (Q:Value->Shared->Prop) (E:Value->Shared->Prop),i < n->S i h->Cx W h objs nss->(∀ b ∈ fp,¬ Cx.Nm W objs nss b)->need objs ->
  (∀ v x h' tk' objs',V.Is x v->Val i objs objs' x->S (i + 1) h'->Cx W h' objs' nss->(∀ b ∈ fp,¬ Cx.Nm W objs' nss b)->Q v (St W.s₀ h' tk')) ->
  wpAny (model W.prog W.w) A (pyNext it) (λr s₁=>match r with | none=>False | some v=>wpAny (model W.prog W.w) A (letOwnedTupleGo t it v) (λ_=>Q v) E s₁) E (St W.s₀ h tk)
 done:∀ h tk objs nss (Q:Shared->Prop) (E:Value->Shared->Prop),S n h->Cx W h objs nss->(∀ b ∈ fp,¬ Cx.Nm W objs nss b)->need objs ->
  (∀ h' tk',Cx W h' objs nss->Q (St W.s₀ h' tk'))->wpAny (model W.prog W.w) A (pyNext it) (λr s₁=>match r with | none=>Q s₁ | some _=>False) E (St W.s₀ h tk)
 self:∀ i h tk (Q:Value->Shared->Prop) (E:Value->Shared->Prop),S i h->Q it (St W.s₀ h tk)->wpAny (model W.prog W.w) A (pyIter it) Q E (St W.s₀ h tk)
noncomputable def ItOf (W:Wd) (A:Around) (t:Expr) (x:V) (objs:jA) (nss:jB) (objs':jA) (n:Nat) (need:jA->Prop) (Val:Nat->jA->jA->V->Prop):Prop :=
 ∀ v h tk (Q:Value->Shared->Prop) (E:Value->Shared->Prop),x.Is v->Cx W h objs nss ->
  (∀ it fp S h' tk',(∀ b,(∀ a o,W.base.get? a=some o->b.get? a=some o)->It { W with base:=b } A t it fp n need Val S)->S 0 h'->Cx W h' objs' nss->(∀ b ∈ fp,¬ Cx.Nm W objs' nss b)->Q it (St W.s₀ h' tk'))->wpAny (model W.prog W.w) A (pyIter v) Q E (St W.s₀ h tk)
theorem Zp {M:Model}{A:Around}{E:Value->Shared->Prop}{s:Shared}{t:Expr}{I:Addr}{v:Value}{o:Obj}{T:String}{vs:Array Value}{Q:Unit->Shared->Prop}(ho:s.heap.get? I=some o) (hc:o.cls = .type T) (hd:o.data = .fields vs)
  (hT:["enumerate","zip","dict_itemiterator","dict_reverseitemiterator","odict_iterator","itertools.zip_longest","itertools.pairwise"].contains T=false) (hQ:Q () s):wpAny M A (letOwnedTupleGo t (.ref I) v) Q E s:=by
 have key:wpAny M A (pure ():Sem Unit) Q E s:=wpAny_pure hQ;have main:∀ e k p,wpAny M A (letOwnedTupleGo (.Tuple e k p) (.ref I) v) Q E s:=λe k p=>by
  induction v using Value.casesOn with
  | ref a =>refine wpAny_bind (wpAny_load ho ?_);rw [hc,hd];dsimp only;rw [hT,Bool.false_and,if_neg (by decide)];exact key
  | _=>exact key
 induction t using Expr.casesOn with
 | Tuple e k p=>exact main e k p
 | List e p=>exact main e 0 p
 | _=>exact key
theorem yN {W:Wd}{h:Heap}{objs:jA}{nss:jB}(C:Cx W h objs nss) {a:Addr}(ha:h.get? a=none):¬ Cx.Nm W objs nss a:=λq=>C.nmNe ha q rfl
theorem It.list {l:Addr}{xs:List V}{t:Expr}{I:Addr}(hh:A.handled=none) :
  It W A t (.ref I) [I] xs.length (λo=>Has l (.list xs) o) (λi o o' x=>o'=o/\xs[i]?=some x) (λi h=>h.IsListIter I l i) where
 frame:=λi h h' hs _ k=>by obtain ⟨o,e,r⟩:=hs;exact ⟨o,k I (by simp) o e,r⟩
 there:=λi h hs b hb=>by obtain ⟨o,e,r⟩:=hs;simp at hb;subst hb;exact ⟨o,e⟩
 item:=λi h tk objs nss Q E hi hs C hf hn hQ=>by obtain ⟨o,ho,hc,vs,n,hd,hx,_⟩:=C.get hn;have hli:h.IsList l vs.toArray:=⟨o,ho,hc,n,hd⟩;obtain ⟨v,e,iv⟩:=hx.get (i:=i) (x:=xs[i]) (by simp [hi]);refine wpAny_pyNext_list_item (s:=St W.s₀ h tk) hs hli (x:=v) (by simpa using e) λh' hit hsb=>?_;obtain ⟨o',ho',hc',hd'⟩:=id hit;refine Zp ho' hc' hd' (by decide) ?_;exact hQ v xs[i] h' tk objs iv ⟨rfl,by simp [hi]⟩ hit (C.offPut hf λb o hb e=>hsb.extBut b o (by simpa using hb) e) hf
 done:=λh tk objs nss Q E hs C hf hn hQ=>by obtain ⟨o,ho,hc,vs,n,hd,hx,_⟩:=C.get hn;have hli:h.IsList l vs.toArray:=⟨o,ho,hc,n,hd⟩;refine wpAny_pyNext_list_end (s:=St W.s₀ h tk) hh hs hli (by simp [hx.length]) λh' he=>?_;exact hQ h' tk (C.offPut hf λb o hb e=>he b o (by simpa using hb) e)
 self:=λi h tk Q E hs hQ=>wpAny_pyIter_listiter (s:=St W.s₀ h tk) hs hQ
theorem ItOf.list {l:Addr}{xs:List V}{t:Expr}(hh:A.handled=none) (hl:Has l (.list xs) objs) :
  ItOf W A t (.ref l) objs nss objs xs.length (λo=>Has l (.list xs) o) (λi o o' x=>o'=o/\xs[i]?=some x):=by
 rintro _ h tk Q E rfl C hQ;obtain ⟨o,ho,hc,vs,n,hd,hx,_⟩:=C.get hl;have hli:h.IsList l vs.toArray:=⟨o,ho,hc,n,hd⟩;refine wpAny_pyIter_list (s:=St W.s₀ h tk) hli ?_;refine hQ _ [h.objs.size] _ _ tk (λ_ _=>It.list (I:=h.objs.size) hh) ⟨_,Heap.get?_push_size _ rfl,rfl,rfl⟩ (C.grown' λb o e=>Heap.get?_push_of_some _ e) λb hb=>?_;simp at hb;subst hb;exact yN C (Cx.noneAtSize h)
theorem It.btup {l:Addr}{vs:Array Value}{xs:List V}{t:Expr}{I:Addr}(hh:A.handled=none) (hb:W.base.IsTuple l vs) (hx:All2 xs vs.toList) :
  It W A t (.ref I) [I] xs.length (λ_=>True) (λi o o' x=>o'=o/\xs[i]?=some x) (λi h=>h.IsTupleIter I l i/\h.IsTuple l vs) where
 frame:=λi h h' hs kb k=>by obtain ⟨⟨o,e,r⟩,o2,e2,r2⟩:=hs;obtain ⟨o3,e3,r3⟩:=hb;exact ⟨⟨o,k I (by simp) o e,r⟩,o3,(kb l o3 e3).2,r3⟩
 there:=λi h hs b hb=>by obtain ⟨⟨o,e,r⟩,_⟩:=hs;simp at hb;subst hb;exact ⟨o,e⟩
 item:=λi h tk objs nss Q E hi hs C hf hn hQ=>by obtain ⟨v,e,iv⟩:=hx.get (i:=i) (x:=xs[i]) (by simp [hi]);refine wpAny_pyNext_tuple_item (s:=St W.s₀ h tk) hs.1 hs.2 (x:=v) (by simpa using e) λh' hit hsb=>?_;obtain ⟨o',ho',hc',hd'⟩:=id hit;refine Zp ho' hc' hd' (by decide) ?_;have C':=C.offPut hf λb o hb e=>hsb.extBut b o (by simpa using hb) e;obtain ⟨o3,e3,r3⟩:=hb;exact hQ v xs[i] h' tk objs iv ⟨rfl,by simp [hi]⟩ ⟨hit,o3,C'.keep _ _ e3,r3⟩ C' hf
 done:=λh tk objs nss Q E hs C hf hn hQ=>by
  have:vs.size=xs.length:=by rw [<- Array.length_toList];exact hx.length
  refine wpAny_pyNext_tuple_end (s:=St W.s₀ h tk) hh hs.1 hs.2 (by simp [this]) λh' he=>?_;exact hQ h' tk (C.offPut hf λb o hb e=>he b o (by simpa using hb) e)
 self:=λi h tk Q E hs hQ=>wpAny_pyIter_tupleiter (s:=St W.s₀ h tk) hs.1 hQ
theorem ItOf.btup {l:Addr}{vs:Array Value}{xs:List V}{t:Expr}(hh:A.handled=none) (hb:W.base.IsTuple l vs) (hx:All2 xs vs.toList) :
  ItOf W A t (.ref l) objs nss objs xs.length (λ_=>True) (λi o o' x=>o'=o/\xs[i]?=some x):=by
 rintro _ h tk Q E rfl C hQ;have hli:h.IsTuple l vs:=by obtain ⟨o,e,r⟩:=hb;exact ⟨o,C.keep _ _ e,r⟩
 refine wpAny_pyIter_tuple (s:=St W.s₀ h tk) hli ?_;refine hQ _ [h.objs.size] _ _ tk (λb k=>It.btup (I:=h.objs.size) hh (by obtain ⟨o,e,r⟩:=hb;exact ⟨o,k _ _ e,r⟩) hx) ⟨⟨_,Heap.get?_push_size _ rfl,rfl,rfl⟩,hli.push _⟩ (C.grown' λb o e=>Heap.get?_push_of_some _ e) λb hb=>?_;simp at hb;subst hb;exact yN C (Cx.noneAtSize h)
noncomputable def zU (n:Int):Ob:=.raw λo=>∃ t u v,o={ cls:=.type "range",dict:=none,data:=.fields #[.int 0 t,.int n u,.int 1 v],slots:=#[] }
theorem It.range {n:Nat}{t:Expr}{I:Addr}(hh:A.handled=none) :
  It W A t (.ref I) [I] n (λ_=>True) (λi o o' x=>o'=o/\x = .int i) (λi h=>IsRangeIter h I (i:Nat) ((n:Int) - (i:Nat)) 1) where
 frame:=λi h h' hs _ k=>k I (by simp) _ hs
 there:=λi h hs b hb=>by simp at hb;subst hb;exact ⟨_,hs⟩
 item:=λi h tk objs nss Q E hi hs C hf hn hQ=>by
  refine wpAny_pyNext_range_item (s:=St W.s₀ h tk) hs (by omega) λh' hit hsb=>?_;refine Zp hit rfl rfl (by decide) ?_;refine hQ _ (.int i) h' _ objs ⟨_,rfl⟩ ⟨rfl,rfl⟩ ?_ (C.offPut hf λb o hb e=>hsb.extBut b o (by simpa using hb) e) hf;have e2:(n:Int) - ((i + 1:Nat):Int)=(n:Int) - (i:Int) - 1:=by push_cast;omega
  rw [e2];exact hit
 done:=λh tk objs nss Q E hs C hf hn hQ=>by refine wpAny_pyNext_range_end (s:=St W.s₀ h tk) hh hs (by omega) λh' he=>?_;exact hQ h' tk (C.offPut hf λb o hb e=>he b o (by simpa using hb) e)
 self:=λi h tk Q E hs hQ=>wpAny_pyIter_rangeiter (s:=St W.s₀ h tk) hs hQ
theorem ItOf.range {l:Addr}{n:Nat}{t:Expr}(hh:A.handled=none) (hl:Has l (zU n) objs) (hn:n<=1000) :
  ItOf W A t (.ref l) objs nss objs n (λ_=>True) (λi o o' x=>o'=o/\x = .int i):=by
 rintro _ h tk Q E rfl C hQ;obtain ⟨o,ho,t1,t2,t3,rfl⟩:=C.get hl;refine wpAny_pyIter_range (s:=St W.s₀ h tk) (a:=0) (b:=n) (c:=1) ho (small_one (by omega) (by omega) (by omega) (by omega)) ?_;refine hQ _ [h.objs.size] _ _ tk (λ_ _=>It.range (I:=h.objs.size) hh) ?_ (C.grown' λb o e=>Heap.get?_push_of_some _ e) λb hb=>?_
 ·have:Builtin.Range.rangeSize 0 n 1=(n:Int):=by rw [rangeSize_one];split<;>omega
  rw [this];show IsRangeIter _ _ _ _ _;simpa using Heap.get?_push_size h (o:={ cls:=.type "range_iterator",data:=.fields #[rawInt 0,rawInt n,rawInt 1] }) rfl
 ·simp at hb;subst hb;exact yN C (Cx.noneAtSize h)
noncomputable def Yr (I:Addr):Ob:=.raw λo=>o={ cls:=.type "enumerate",dict:=none,data:=.fields #[.none,.bool false,.ref I,rawInt 0,.none,.none],slots:=#[] }
noncomputable def yA (l:Addr):Ob:=.raw λo=>o.cls = .type "list_iterator"/\o.data = .fields #[.ref l,.int ((0:Nat):Int) 0]
theorem zDH {h h':Heap}{T:Addr}{x y:V}{a b:Value}(C:Cx W h objs nss) (hf:∀ c ∈ ([]:List Addr),¬ Cx.Nm W objs nss c) (hx:x.Is a) (hy:y.Is b) (hT:h.get? T=none) (k:∀ c o,Cx.Nm W objs nss c->h.get? c=some o->h'.get? c=some o)
  (hp:h'.get? T=some { cls:=.type "tuple",data:=.seq #[a,b] }):Cx W h' ((T,.tup [x,y])::objs) nss :=
 C.alloc k hT hp ⟨rfl,[a,b],0,rfl,.cons hx (.cons hy .nil)⟩
theorem It.enum {l:Addr}{xs:List V}{elts:List Expr}{x1:Nat}{pos:Pos}{e I:Addr}(hh:A.handled=none) (hne:e≠I) :
  It W A (.Tuple elts x1 pos) (.ref e) [e,I] xs.length (λo=>Has l (.list xs) o) (λi o o' x=>∃ T y,o'=(T,.tup [.int i,y])::o/\x = .ref T/\xs[i]?=some y) (λi h=>(∃ old,IsEnum h e I i old)/\h.IsListIter I l i) where
 frame:=λi h h' hs _ k=>by obtain ⟨⟨old,he⟩,o,e',r⟩:=hs;exact ⟨⟨old,k e (by simp) _ he⟩,o,k I (by simp) o e',r⟩
 there:=λi h hs b hb=>by
  obtain ⟨⟨old,he⟩,o,e',r⟩:=hs;simp at hb;rcases hb with rfl | rfl
  ·exact ⟨_,he⟩
  ·exact ⟨_,e'⟩
 item:=λi h tk objs nss Q E hi hs C hf hn hQ=>by
  obtain ⟨⟨old,he⟩,hit⟩:=hs;obtain ⟨o,ho,hc,vs,n,hd,hx,_⟩:=C.get hn;have hli:h.IsList l vs.toArray:=⟨o,ho,hc,n,hd⟩;obtain ⟨v,e1,iv⟩:=hx.get (i:=i) (x:=xs[i]) (by simp [hi]);refine wpAny_pyNext_enum_item (s:=St W.s₀ h tk) he hit hli (x:=v) (by simpa using e1) hne λh₁ heo hit₁ hp hsz hk=>?_;have hT:h.get? h.objs.size=none:=Cx.noneAtSize h;have hTe:h.objs.size≠e:=λq=>by rw [q,he] at hT;contradiction
  refine wpAny_letOwnedTupleGo_enum (s:=St W.s₀ h₁ (tk + 1)) heo λh₂ he₂ hs₂=>?_;have k2:∀ c o,c≠e->c≠I->h.get? c=some o->h₂.get? c=some o:=λc o h1 h2 e0=>hs₂.extBut c o h1 (hk c o h1 h2 e0);have nm:∀ c,Cx.Nm W objs nss c->c≠e/\c≠I:=λc hc=>⟨λq=>hf e (by simp) (q▸hc),λq=>hf I (by simp) (q▸hc)⟩;have hp2:=hs₂.extBut _ _ hTe hp;have C2:Cx W h₂ ((h.objs.size,.tup [.int i,xs[i]])::objs) nss:=zDH C (by simp) ⟨tk,rfl⟩ iv hT (λc o hc e0=>k2 c o (nm c hc).1 (nm c hc).2 e0) hp2;refine hQ _ (.ref h.objs.size) h₂ (tk + 1) _ rfl ⟨_,_,rfl,rfl,by simp [hi]⟩ ⟨⟨_,by simpa using he₂⟩,hit₁.extBut hs₂.extBut (Ne.symm hne)⟩ C2 λb hb q=>?_;have hb':b≠h.objs.size:=λq=>by
   subst q;simp at hb;rcases hb with q | q
   ·exact hTe q
   ·obtain ⟨o,e',r⟩:=hit;rw [<- q,hT] at e';contradiction
  rcases q with q | q
  ·rw [List.map_cons] at q;rcases List.mem_cons.mp q with q | q
   ·exact hb' q
   ·exact hf b hb (.inl q)
  ·exact hf b hb (.inr q)
 done:=λh tk objs nss Q E hs C hf hn hQ=>by obtain ⟨⟨old,he⟩,hit⟩:=hs;obtain ⟨o,ho,hc,vs,n,hd,hx,_⟩:=C.get hn;have hli:h.IsList l vs.toArray:=⟨o,ho,hc,n,hd⟩;refine wpAny_pyNext_enum_end (s:=St W.s₀ h tk) hh he hit hli (by simp [hx.length]) λh' hk=>?_;exact hQ h' tk (C.offPut hf λb o hb e0=>hk b o (λq=>hb (by simp [q])) e0)
 self:=λi h tk Q E hs hQ=>by obtain ⟨⟨old,he⟩,hit⟩:=hs;exact wpAny_pyIter_enum (s:=St W.s₀ h tk) he hQ
theorem ItOf.enum {e I l:Addr}{xs:List V}{elts:List Expr}{x1:Nat}{pos:Pos}{o1 o2:jA}(hh:A.handled=none) (b1:Bring e (Yr I) objs o1) (b2:Bring I (yA l) o1 o2) :
  ItOf W A (.Tuple elts x1 pos) (.ref e) objs nss o2 xs.length (λo=>Has l (.list xs) o) (λi o o' x=>∃ T y,o'=(T,.tup [.int i,y])::o/\x = .ref T/\xs[i]?=some y):=by
 rintro _ h tk Q E rfl C hQ;have C1:=C.bring b1;have C2:Cx W h ((I,yA l)::(e,Yr I)::o2) nss:=(C1.perm (b2.perm.cons _)).perm (List.Perm.swap ..);obtain ⟨o,ho,hoe⟩:=C2.get (.tail .head);obtain ⟨o',ho',hoi⟩:=C2.get .head;have nd:=C2.nd;have nde:∀ b ∈ [e,I],b ∉ o2.map Prod.fst/\b ∉ nss.map Prod.fst/\W.base.get? b=none:=by
  intro b hb;simp only [List.map_cons,List.cons_append,List.nodup_cons,List.mem_cons,List.mem_append,not_or] at nd;simp only [List.mem_cons,List.not_mem_nil,or_false] at hb;rcases hb with rfl | rfl
  ·exact ⟨nd.2.1.1,nd.2.1.2,(C2.obj _ (.tail _ (.head _))).2⟩
  ·exact ⟨nd.1.2.1,nd.1.2.2,(C2.obj _ (.head _)).2⟩
 have hne:e≠I:=λq=>by subst q;simp at nd
 have he:IsEnum h e I ((0:Nat):Int) .none:=by subst hoe;exact ho
 refine wpAny_pyIter_enum (s:=St W.s₀ h tk) he ?_;refine hQ _ [e,I] _ h tk (λ_ _=>It.enum hh hne) ⟨⟨_,he⟩,o',ho',hoi.1,hoi.2⟩ (C2.tailO.tailO) λb hb q=>?_;obtain ⟨h1,h2,h3⟩:=nde b hb;rcases q with q | q | q
 ·exact h1 q
 ·exact h2 q
 ·rw [h3] at q;contradiction
noncomputable def zJe (TI TO:Addr):Ob:=.raw λo=>o={ cls:=.type "zip",dict:=none,data:=.fields #[.none,.bool false,.bool false,.ref TI,.ref TO],slots:=#[] }
noncomputable def Qk (a b:Value):Ob:=.raw λo=>o={ cls:=.type "tuple",data:=.seq #[a,b] }
structure ZipS (l1 l2 z TI TO i1 i2:Addr) (i:Nat) (h:Heap):Prop where
 zz:IsZip h z TI TO .none
 zi:IsPair h TI (.ref i1) (.ref i2)
 zo:∃ a b,IsPair h TO a b
 zf:h.IsListIter i1 l1 i
 zg:h.IsListIter i2 l2 i
inductive zLS (xs ys:List V) (i:Nat) (o:jA):jA->V->Prop
 | mk (T:Addr) (a b:V) (ha:xs[i]?=some a) (hb:ys[i]?=some b):zLS xs ys i o ((T,.tup [a,b])::o) (.ref T)
theorem ZipS.there {l1 l2 z TI TO i1 i2:Addr}{i:Nat}{h:Heap}(s:ZipS l1 l2 z TI TO i1 i2 i h):∀ b ∈ [z,TI,TO,i1,i2],∃ o,h.get? b=some o :=
 List.forall_mem_cons.mpr ⟨⟨_,s.zz⟩,List.forall_mem_cons.mpr ⟨⟨_,s.zi⟩,List.forall_mem_cons.mpr ⟨s.zo.elim λ_ h=>h.elim λ_ h=>⟨_,h⟩,List.forall_mem_cons.mpr ⟨s.zf.elim λo e=>⟨o,e.1⟩,List.forall_mem_cons.mpr ⟨s.zg.elim λo e=>⟨o,e.1⟩,λ_ h=>absurd h List.not_mem_nil⟩⟩⟩⟩⟩
section
variable {z TI TO i1 i2:Addr}
theorem z0:z ∈ [z,TI,TO,i1,i2]:=.head _
theorem z1:TI ∈ [z,TI,TO,i1,i2]:=.tail _ (.head _)
theorem z2:TO ∈ [z,TI,TO,i1,i2]:=.tail _ (.tail _ (.head _))
theorem z3:i1 ∈ [z,TI,TO,i1,i2]:=.tail _ (.tail _ (.tail _ (.head _)))
theorem z4:i2 ∈ [z,TI,TO,i1,i2]:=.tail _ (.tail _ (.tail _ (.tail _ (.head _))))
theorem zEz {l1 l2:Addr}(nd:[z,TI,TO,i1,i2].Nodup) (h1:∀ b ∈ [z,TI,TO,i1,i2],l1≠b) (h2:∀ b ∈ [z,TI,TO,i1,i2],l2≠b):ZipApart z TI TO i1 i2 l1 l2:=by simp only [List.nodup_cons,List.mem_cons,List.not_mem_nil,or_false,not_or,List.nodup_nil,and_true,not_false_eq_true] at nd;obtain ⟨⟨q1,q2,q3,q4⟩,⟨q5,q6,q7⟩,⟨q8,q9⟩,q10⟩:=nd;exact ⟨Ne.symm q1,Ne.symm q2,Ne.symm q3,Ne.symm q4,q5,q6,q7,q8,q9,q10,h1 _ z0,h1 _ z2,h1 _ z3,h1 _ z4,h2 _ z0,h2 _ z2,h2 _ z3,h2 _ z4⟩
end
theorem Cx.isList {h:Heap}{l:Addr}{xs:List V}(C:Cx W h objs nss) (hl:Has l (.list xs) objs):∃ vs:List Value,h.IsList l vs.toArray/\All2 xs vs:=by obtain ⟨o,ho,hc,vs,n,hd,hx,_⟩:=C.get hl;exact ⟨vs,⟨o,ho,hc,n,hd⟩,hx⟩
theorem Has.nm {l:Addr}{o:Ob}(hl:Has l o objs):Cx.Nm W objs nss l:=.inl (List.mem_map_of_mem (f:=Prod.fst) hl.mem)
theorem It.zip {l1 l2:Addr}{xs ys:List V}{elts:List Expr}{x1:Nat}{pos:Pos}{z TI TO i1 i2:Addr}(hh:A.handled=none) (nd:[z,TI,TO,i1,i2].Nodup) (hlen:xs.length=ys.length) :
  It W A (.Tuple elts x1 pos) (.ref z) [z,TI,TO,i1,i2] xs.length (λo=>Has l1 (.list xs) o/\Has l2 (.list ys) o) (zLS xs ys) (ZipS l1 l2 z TI TO i1 i2) where
 frame:=λi h h' hs _ k=>⟨k z z0 _ hs.zz,k TI z1 _ hs.zi,hs.zo.elim λa h=>h.elim λb h=>⟨a,b,k TO z2 _ h⟩,hs.zf.elim λo e=>⟨o,k i1 z3 _ e.1,e.2⟩,hs.zg.elim λo e=>⟨o,k i2 z4 _ e.1,e.2⟩⟩
 there:=λi h hs=>hs.there
 item:=λi h tk objs nss Q E hi hs C hf hn hQ=>by
  obtain ⟨vs,hl1,hx⟩:=C.isList hn.1;obtain ⟨ws,hl2,hy⟩:=C.isList hn.2;have g1:=List.getElem?_eq_getElem hi;have g2:=List.getElem?_eq_getElem (hlen▸hi);obtain ⟨v,e1,iv⟩:=hx.get g1;obtain ⟨u,e2,iu⟩:=hy.get g2;obtain ⟨a,b,h3⟩:=hs.zo;have nf:∀ c,Cx.Nm W objs nss c->∀ b ∈ [z,TI,TO,i1,i2],c≠b:=λc hc b hb q=>hf b hb (q▸hc);have D:=zEz nd (nf l1 hn.1.nm) (nf l2 hn.2.nm);refine wpAny_pyNext_zip_item (s:=St W.s₀ h tk) D hs.zz hs.zi h3 hs.zf hs.zg hl1 hl2 (by simpa using e1) (by simpa using e2) λh₁ b1 b2 b3 b4 b5 b6 hk=>?_;have hT:h.get? h.objs.size=none:=Cx.noneAtSize h;have ltn:∀ b ∈ [z,TI,TO,i1,i2],b≠h.objs.size:=λb hb q=>(hs.there b hb).elim λo e=>by rw [q,hT] at e;exact nomatch e
  refine wpAny_letOwnedTupleGo_zip (s:=St W.s₀ h₁ tk) b1 λh₂ hz₂ hs₂=>?_;have k2:∀ c o,Cx.Nm W objs nss c->h.get? c=some o->h₂.get? c=some o:=λc o hc e0=>hs₂.extBut c o (nf c hc z z0) (hk c o (nf c hc _ z0) (nf c hc _ z2) (nf c hc _ z3) (nf c hc _ z4) e0);refine hQ _ (.ref h.objs.size) h₂ tk _ rfl ⟨_,_,_,g1,g2⟩ ⟨hz₂,hs₂.extBut _ _ D.TIz (hk _ _ D.TIz D.TITO D.TIi1 D.TIi2 hs.zi),⟨_,_,hs₂.extBut _ _ D.TOz b2⟩,b3.extBut hs₂.extBut D.i1z,b4.extBut hs₂.extBut D.i2z⟩
   (zDH C (λ_ h=>absurd h List.not_mem_nil) iv iu hT k2 (hs₂.extBut _ _ (Ne.symm (ltn _ z0)) b5)) λb hb q=>q.elim (λq=>?_) λq=>hf b hb (.inr q)
  exact (List.mem_cons.mp q).elim (ltn b hb) λq=>hf b hb (.inl q)
 done:=λh tk objs nss Q E hs C hf hn hQ=>by obtain ⟨vs,hl1,hx⟩:=C.isList hn.1;obtain ⟨ws,hl2,hy⟩:=C.isList hn.2;obtain ⟨a,b,h3⟩:=hs.zo;have nf:∀ c,Cx.Nm W objs nss c->∀ b ∈ [z,TI,TO,i1,i2],c≠b:=λc hc b hb q=>hf b hb (q▸hc);refine wpAny_pyNext_zip_end (s:=St W.s₀ h tk) hh (zEz nd (nf l1 hn.1.nm) (nf l2 hn.2.nm)) hs.zz hs.zi h3 hs.zf hs.zg hl1 hl2 (.inl (by simp [hx.length])) λh' hk=>?_;exact hQ h' tk (C.offPut hf λb o hb e0=>hk b o (λq=>hb (q▸z0)) (λq=>hb (q▸z2)) (λq=>hb (q▸z3)) (λq=>hb (q▸z4)) e0)
 self:=λi h tk Q E hs hQ=>wpAny_pyIter_zip (s:=St W.s₀ h tk) hs.zz hQ
theorem Cx.apart {h:Heap}{p o:jA}(C:Cx W h (p++o) nss):(p.map Prod.fst).Nodup/\∀ b ∈ p.map Prod.fst,¬ Cx.Nm W o nss b:=by have nd:=C.nd;rw [List.map_append,List.append_assoc,List.nodup_append] at nd;refine ⟨nd.1,λb hb q=>q.elim (λq=>nd.2.2 b hb b (List.mem_append_left _ q) rfl) λq=>q.elim (λq=>nd.2.2 b hb b (List.mem_append_right _ q) rfl) λq=>?_⟩;obtain ⟨x,hx,rfl⟩:=List.mem_map.mp hb;rw [(C.obj x (List.mem_append_left _ hx)).2] at q;exact nomatch q
noncomputable def Zq (l1 l2 z TI TO i1 i2:Addr):jA:=[(z,zJe TI TO),(TI,Qk (.ref i1) (.ref i2)),(TO,Qk .none .none),(i1,yA l1),(i2,yA l2)]
theorem ItOf.zip {l1 l2:Addr}{xs ys:List V}{elts:List Expr}{x1:Nat}{pos:Pos}{z TI TO i1 i2:Addr}{o1:jA}(hh:A.handled=none) (hlen:xs.length=ys.length) :
  ItOf W A (.Tuple elts x1 pos) (.ref z) (Zq l1 l2 z TI TO i1 i2++o1) nss o1 xs.length (λo=>Has l1 (.list xs) o/\Has l2 (.list ys) o) (zLS xs ys):=by
 rintro _ h tk Q E rfl C hQ;obtain ⟨nd,ap⟩:=C.apart;obtain ⟨_,p1,rfl⟩:=C.get .head;obtain ⟨_,p2,rfl⟩:=C.get (.tail .head);obtain ⟨_,p3,rfl⟩:=C.get (.tail (.tail .head));obtain ⟨r4,p4,t4⟩:=C.get (.tail (.tail (.tail .head)));obtain ⟨r5,p5,t5⟩:=C.get (.tail (.tail (.tail (.tail .head))));exact wpAny_pyIter_zip (s:=St W.s₀ h tk) p1 (hQ _ [z,TI,TO,i1,i2] _ h tk (λ_ _=>It.zip hh nd hlen) ⟨p1,p2,⟨_,_,p3⟩,⟨r4,p4,t4.1,t4.2⟩,r5,p5,t5.1,t5.2⟩ C.tailO.tailO.tailO.tailO.tailO ap)
end
section
variable {W:Wd} {A:Around} {env:Env} {objs objs':jA} {nss:jB} {names:List (Str×NameKind)} {L:Addr} {cells:List (Str×Addr)} {ll ll':jX} {K:Frag} {mg mb:Str->Option Value}
noncomputable def JS (Inv:jA->jB->Prop) (Q:Fl->jA->jB->Prop):Fl->jA->jB->Prop
 | .next,o,n=>∃ o',Sel o' o/\Inv o' n
 | .ret x,o,n=>Q (.ret x) o n
noncomputable def zDI (K:Frag) (mg mb:Str->Option Value) (A:Around) (env:Env) (target:Expr) (body:List Stmt) (Q:Fl->jA->jB->Prop) (cnt:Nat) (need:jA->Prop) (Val:Nat->jA->jA->V->Prop) (Inv:Nat->jA->jB->Prop):Prop :=
 (∀ W' i o n,Gr W' K mg mb->i < cnt->Inv i o n->need o/\∀ o' x,Val i o o' x->As W' A env target x o' n λo n=>Es W' A env body o n (JS (Inv (i + 1)) Q)) /\
 ∀ o n,Inv cnt o n->need o/\Q .next o n
noncomputable def zPp (W:Wd) (Q:Fl->jA->jB->Prop) (r:Result) (s':Shared):Prop:=match r with
 | .ok f=>TrO W (FO Q) f s'
 | .error _=>False
structure LAt (W:Wd) (S:Nat->Heap->Prop) (fp:List Addr) (i:Nat) (h:Heap) (o:jA) (n:jB):Prop where
 s:S i h
 c:Cx W h o n
 nm:∀ b ∈ fp,¬ Cx.Nm W o n b
noncomputable def zJf (W:Wd) (fp:List Addr) (h:Heap) (o:jA) (n:jB) (h':Heap) (o':jA) (n':jB):Prop :=
 ∀ D ob,h.get? D=some ob->¬ Cx.Nm W o n D->D ∉ fp->h'.get? D=some ob/\¬ Cx.Nm W o' n' D
noncomputable def ItA (W:Wd) (A:Around) (t:Expr) (it:Value) (fp:List Addr) (cnt:Nat) (need:jA->Prop) (Val:Nat->jA->jA->V->Prop) (S:Nat->Heap->Prop):Prop :=
 ∀ b,(∀ a o,W.base.get? a=some o->b.get? a=some o)->It { W with base:=b } A t it fp cnt need Val S
section
variable {fp:List Addr} {cnt i:Nat} {need:jA->Prop} {Val:Nat->jA->jA->V->Prop} {S:Nat->Heap->Prop} {t:Expr} {it:Value} {h:Heap} {tk:Nat} {o:jA} {n:jB}
theorem LAt.inX (a:LAt W S fp i h o n) (b:Addr) (hb:b ∈ fp):¬ Cx.Nm { W with base:=hideAll h ((o.map Prod.fst++n.map Prod.fst)++fp) } o n b:=λq=>q.elim (λq=>a.nm b hb (.inl q)) λq=>q.elim (λq=>a.nm b hb (.inr (.inl q))) λq=>by rw [show _=none from hideAll_none _ (List.mem_append_right _ hb)] at q;contradiction
theorem LAt.next (I:ItA W A t it fp cnt need Val S) (hi:i < cnt) (a:LAt W S fp i h o n) (hn:need o) {D:Shared->Prop}{P:Value->Shared->Prop}{E E':Value->Shared->Prop}
  (k:∀ v x h' tk' o',V.Is x v->Val i o o' x->LAt W S fp (i + 1) h' o' n->zJf W fp h o n h' o' n->P v (St W.s₀ h' tk')) :
  wpAny (model W.prog W.w) A (pyNext it) (λr s₁=>match r with | none=>D s₁ | some v=>wpAny (model W.prog W.w) A (letOwnedTupleGo t it v) (λ_=>P v) E s₁) E' (St W.s₀ h tk):=by
 refine wpAny_mono ((I _ (a.c.inX a.nm)).item i h tk o n P (λ_ _=>False) hi a.s (a.c.intoX fp) a.inX hn λv x h' tk' o' hx hv hS' C' nm'=>k v x h' tk' o' hx hv ⟨hS',a.c.backX a.nm C',λb hb q=>q.elim (λq=>nm' b hb (.inl q)) λq=>q.elim (λq=>nm' b hb (.inr (.inl q))) λq=>a.nm b hb (.inr (.inr q))⟩ λD ob e nD fD=>Cx.offX C' nD fD e) (λr s₁ hr=>?_) λ_ _ x=>x.elim;induction r using Option.casesOn with
 | none=>exact hr.elim
 | some v=>exact wpAny_mono hr (λ_ _ q=>q) λ_ _ x=>x.elim
theorem LAt.last (I:ItA W A t it fp cnt need Val S) (a:LAt W S fp cnt h o n) (hn:need o) {D:Shared->Prop}{P:Value->Shared->Prop}{E':Value->Shared->Prop}
  (k:∀ h' tk',Cx W h' o n->zJf W fp h o n h' o n->D (St W.s₀ h' tk')) :
  wpAny (model W.prog W.w) A (pyNext it) (λr s₁=>match r with | none=>D s₁ | some v=>P v s₁) E' (St W.s₀ h tk):=by
 refine wpAny_mono ((I _ (a.c.inX a.nm)).done h tk o n D (λ_ _=>False) a.s (a.c.intoX fp) a.inX hn λh' tk' C'=>k h' tk' (a.c.backX a.nm C') λD ob e nD fD=>Cx.offX C' nD fD e) (λr s₁ hr=>?_) λ_ _ x=>x.elim;induction r using Option.casesOn with
 | none=>exact hr
 | some v=>exact hr.elim
theorem LAt.run (I:ItA W A t it fp cnt need Val S) (a:LAt W S fp i h o n) {h₂:Heap}{o₂:jA}{n₂:jB}(C₂:Cx (Cx.Wd.into W h (o.map Prod.fst++n.map Prod.fst)) h₂ o₂ n₂):LAt W S fp i h₂ o₂ n₂ where
 s:=(I W.base λ_ _ e=>e).frame _ _ _ a.s (λb o e=>⟨a.c.keep b o e,(a.c.back' C₂).keep b o e⟩) λb hb _ e=>(a.c.off C₂ (a.nm b hb) e).1
 c:=a.c.back' C₂
 nm:=λb hb=>((I W.base λ_ _ e=>e).there _ _ a.s b hb).elim λ_ e=>(a.c.off C₂ (a.nm b hb) e).2
end
inductive zNj (W:Wd) (S:Nat->Heap->Prop) (fp:List Addr) (Inv:Nat->jA->jB->Prop) (cnt:Nat):Nat->Shared->Prop
 | mk (i:Nat) (h:Heap) (tk:Nat) (o:jA) (n:jB) (hi:i<=cnt) (a:LAt W S fp i h o n) (q:Inv i o n):zNj W S fp Inv cnt (cnt + 1 - i) (St W.s₀ h tk)
theorem zLT {i cnt:Nat}(h:i < cnt):cnt + 1 - (i + 1) < cnt + 1 - i:=by omega
theorem zBw {target:Expr}{body:List Stmt}{it:Value}{fp:List Addr}{cnt:Nat}{need:jA->Prop}{Val:Nat->jA->jA->V->Prop}{S:Nat->Heap->Prop}{Inv:Nat->jA->jB->Prop}{Q:Fl->jA->jB->Prop}
  (G:Gr W K mg mb) (I:ItA W A target it fp cnt need Val S) (T:zDI K mg mb A env target body Q cnt need Val Inv) {h:Heap} {tk:Nat} (a:LAt W S fp 0 h objs nss) (h0:Inv 0 objs nss) :
  codeAny (model W.prog W.w) A (.forLoop target it body [] env) (zPp W Q) (St W.s₀ h tk):=by
 refine codeAny_forLoop_any (zNj W S fp Inv cnt) ?_ (cnt + 1) (.mk 0 h tk objs nss (Nat.zero_le _) a h0);intro k s f;induction f with
 | mk i h tk o n hi a hI =>
 by_cases hc:i < cnt
 ·refine LAt.next I hc a (T.1 W i o n G hc hI).1 λv x h' tk' o' hx hv a' _=>?_;refine Tr.go (W:=Cx.Wd.into W h' (o'.map Prod.fst++n.map Prod.fst)) ((T.1 _ i o n (G.into' a'.c) hc hI).2 o' x hv v hx) a'.c.into' λ_ h₃ tk₃ o₃ n₃ C₃ q=>?_;refine Fo.go (W:=Cx.Wd.into W h' (o'.map Prod.fst++n.map Prod.fst)) q C₃ λf y h₄ tk₄ o₄ n₄ hy C₄ q=>?_;induction y with
  | ret z=>exact hy.elim λu hu=>hu.1▸⟨h₄,tk₄,o₄,n₄,a'.c.back' C₄,.ret z,⟨u,rfl,hu.2⟩,q⟩
  | next =>subst hy;exact q.elim λo₅ q=>⟨_,zLT hc,.mk (i + 1) h₄ tk₄ o₅ n₄ hc (a'.run I (C₄.sel q.1)) q.2⟩
 ·obtain rfl:=Nat.le_antisymm hi (Nat.le_of_not_lt hc);refine LAt.last I a (T.2 o n hI).1 λh' tk' C' _=>?_;exact wpAny_execs_nil ⟨h',tk',o,n,C',.next,rfl,(T.2 o n hI).2⟩
noncomputable def ForQ (W:Wd) (K:Frag) (mg mb:Str->Option Value) (A:Around) (env:Env) (target:Expr) (body:List Stmt) (x:V) (o:jA) (n:jB) (Q:Fl->jA->jB->Prop):Prop :=
 ∃ (o₁:jA) (cnt:Nat) (need:jA->Prop) (Val:Nat->jA->jA->V->Prop) (Inv:Nat->jA->jB->Prop),ItOf W A target x o n o₁ cnt need Val/\Inv 0 o₁ n/\zDI K mg mb A env target body Q cnt need Val Inv
theorem QJ {target iter:Expr}{body:List Stmt}{pos:Pos}{Q:Fl->jA->jB->Prop}(G:Gr W K mg mb) (h:Ev W A env iter objs nss λx o n=>ForQ W K mg mb A env target body x o n Q)
  (hs:∀ x,foldedSetIterable iter env x=pure x):Ex W A env (.For target iter body [] pos) objs nss Q:=by
 intro hp tk C;refine wpAny_For (Tv.go (h) C λv x h₁ t₁ o n hx C₁ qq=>?_) hs;obtain ⟨o₁,cnt,need,Val,Inv,hi,h0,T⟩:=qq;refine hi v h₁ t₁ _ _ hx C₁ λit fp S h' tk' I hS C' nm=>?_;refine codeAny_mono (zBw G I T ⟨hS,C',nm⟩ h0) λr s' hr=>?_;induction r with
 | ok f=>exact hr
 | error e=>exact hr.elim
theorem ForQ.listInv {target:Expr}{body:List Stmt}{l:Addr}{xs:List V}{Q:Fl->jA->jB->Prop}(Inv:Nat->jA->jB->Prop) (hh:A.handled=none) (hl:Has l (.list xs) objs) (h0:Inv 0 objs nss)
  (turn:∀ W' i o n x,Gr W' K mg mb->xs[i]?=some x->Inv i o n->Has l (.list xs) o/\As W' A env target x o n λo n=>Es W' A env body o n (JS (Inv (i + 1)) Q))
  (last:∀ o n,Inv xs.length o n->Has l (.list xs) o/\Q .next o n):ForQ W K mg mb A env target body (.ref l) objs nss Q:=by
 refine ⟨_,_,_,_,Inv,ItOf.list hh hl,h0,λW' i o n G hi hI=>⟨(turn W' i o n xs[i] G (by simp [hi]) hI).1,?_⟩,last⟩;rintro o' x ⟨rfl,hx⟩;exact (turn W' i o' n x G hx hI).2
noncomputable def Ql (K:Frag) (mg mb:Str->Option Value) (A:Around) (env:Env) (target:Expr) (body:List Stmt) (Q:Fl->jA->jB->Prop):List V->jA->jB->Prop
 | [],o,n=>Q .next o n
 | x::r,o,n=>∀ W',Gr W' K mg mb->As W' A env target x o n λo n=>Es W' A env body o n (JS (Ql K mg mb A env target body Q r) Q)
theorem ForQ.btup {target:Expr}{body:List Stmt}{l:Addr}{vs:Array Value}{xs:List V}{Q:Fl->jA->jB->Prop}(hh:A.handled=none) (hb:W.base.IsTuple l vs) (hx:All2 xs vs.toList) (h:Ql K mg mb A env target body Q xs objs nss) :
  ForQ W K mg mb A env target body (.ref l) objs nss Q:=by
 refine ⟨_,_,_,_,λi o n=>Ql K mg mb A env target body Q (xs.drop i) o n,ItOf.btup hh hb hx,by simpa using h,λW' i o n G hi hI=>⟨trivial,?_⟩,λo n hI=>⟨trivial,?_⟩⟩
 ·dsimp only at hI;rw [List.drop_eq_getElem_cons hi] at hI;rintro o' x ⟨rfl,hx⟩;rw [List.getElem?_eq_getElem hi] at hx;obtain rfl:=Option.some.inj hx;exact hI W' G
 ·dsimp only at hI;rw [List.drop_length] at hI;exact hI
theorem ForQ.range {target:Expr}{body:List Stmt}{l:Addr}{cnt:Nat}{Q:Fl->jA->jB->Prop}(Inv:Nat->jA->jB->Prop) (hh:A.handled=none) (hl:Has l (zU cnt) objs) (hc:cnt<=1000) (h0:Inv 0 objs nss)
  (turn:∀ W' i o n,Gr W' K mg mb->i < cnt->Inv i o n->As W' A env target (.int i) o n λo n=>Es W' A env body o n (JS (Inv (i + 1)) Q))
  (last:∀ o n,Inv cnt o n->Q .next o n):ForQ W K mg mb A env target body (.ref l) objs nss Q:=by
 refine ⟨_,_,_,_,Inv,ItOf.range hh hl hc,h0,λW' i o n G hi hI=>⟨trivial,?_⟩,λo n hI=>⟨trivial,last o n hI⟩⟩;rintro o' x ⟨rfl,rfl⟩;exact turn W' i o' n G hi hI
noncomputable def Qm (K:Frag) (mg mb:Str->Option Value) (A:Around) (env:Env) (target:Expr) (body:List Stmt) (need:jA->Prop) (Q:Fl->jA->jB->Prop):List (V×V)->jA->jB->Prop
 | [],o,n=>need o/\Q .next o n
 | x::r,o,n=>need o/\∀ W' T,Gr W' K mg mb->As W' A env target (.ref T) ((T,.tup [x.1,x.2])::o) n λo n=>Es W' A env body o n (JS (Qm K mg mb A env target body need Q r) Q)
theorem ForQ.zip {elts:List Expr}{x1:Nat}{pos:Pos}{body:List Stmt}{l1 l2:Addr}{xs ys:List V}{z TI TO i1 i2:Addr}{o1:jA}{Q:Fl->jA->jB->Prop}(hh:A.handled=none) (hlen:xs.length=ys.length)
  (h:Qm K mg mb A env (.Tuple elts x1 pos) body (λo=>Has l1 (.list xs) o/\Has l2 (.list ys) o) Q (xs.zip ys) o1 nss) :
  ForQ W K mg mb A env (.Tuple elts x1 pos) body (.ref z) (Zq l1 l2 z TI TO i1 i2++o1) nss Q:=by
 have hz:(xs.zip ys).length=xs.length:=by rw [List.length_zip,hlen,Nat.min_self]
 refine ⟨_,_,_,_,λi o n=>Qm K mg mb A env (.Tuple elts x1 pos) body _ Q ((xs.zip ys).drop i) o n,ItOf.zip hh hlen,h,λW' i o n G hi hI=>?_,λo n hI=>?_⟩
 ·dsimp only at hI;rw [List.drop_eq_getElem_cons (hz▸hi),List.getElem_zip] at hI;refine ⟨hI.1,λo' x v=>?_⟩;induction v with
  | mk T a b ha hb =>
  rw [List.getElem?_eq_getElem hi] at ha;rw [List.getElem?_eq_getElem (hlen▸hi)] at hb;obtain rfl:=Option.some.inj ha;obtain rfl:=Option.some.inj hb;exact hI.2 W' T G
 ·dsimp only at hI;rw [<- hz,List.drop_length] at hI;exact hI
noncomputable def LayQ:List (Str×NameKind)->List (Str×Addr)->jA->(List (Str×Addr)->jA->Prop)->Prop
 | [],cs,o,Q=>Q cs o
 | (n,k)::r,cs,o,Q=>if (k==.cell)=true then ∀ a,LayQ r ((n,a)::cs) ((a,.cell none)::o) Q else LayQ r cs o Q
theorem zBx {M:Model}{W:Wd}{E:Value->Shared->Prop}{nss:jB}(f:Str×NameKind->List (Str×Addr)->Sem (ForInStep (List (Str×Addr))))
  (hf:∀ name kind cells,f (name,kind) cells=if kind==.cell then (do let a <- alloc { cls:=.type "cell",data:=.cell none };pure (.yield ((name,a)::cells))) else pure (.yield cells)) :
  ∀ (names:List (Str×NameKind)) (acc:List (Str×Addr)) (objs:jA) (h:Heap) (tk:Nat) (Q:List (Str×Addr)->jA->Prop) (R:List (Str×Addr)->Shared->Prop),LayQ names acc objs Q->Cx W h objs nss ->
   (∀ cs o h',Q cs o->Cx W h' o nss->R cs (St W.s₀ h' tk))->wpAny M A (forIn names acc f) R E (St W.s₀ h tk)
 | [],acc,objs,h,tk,Q,R,hq,C,hR=>by rw [List.forIn_nil];exact wpAny_pure (hR _ _ _ hq C)
 | (name,kind)::r,acc,objs,h,tk,Q,R,hq,C,hR=>by
  rw [List.forIn_cons,hf];unfold LayQ at hq;by_cases hk:(kind==NameKind.cell)=true
  ·rw [if_pos hk] at hq ⊢;refine wpAny_bind (wpAny_bind (wpAny_alloc (wpAny_pure ?_)));exact zBx f hf r _ _ _ tk Q R (hq _) (C.push (o:=.cell none) rfl) hR
  ·rw [if_neg hk] at hq ⊢;exact wpAny_bind (wpAny_pure (zBx f hf r _ _ _ tk Q R hq C hR))
theorem LayQ.mono {Q Q':List (Str×Addr)->jA->Prop}(h:∀ cs o,Q cs o->Q' cs o):∀ {names:List (Str×NameKind)}{cs:List (Str×Addr)}{o:jA},LayQ names cs o Q->LayQ names cs o Q'
 | [],_,_,q=>h _ _ q
 | (n,k)::r,_,_,q=>by
  unfold LayQ at q ⊢;split
  ·rename_i e;rw [if_pos e] at q;exact λa=>LayQ.mono h (q a)
  ·rename_i e;rw [if_neg e] at q;exact LayQ.mono h q
theorem Cx.noNs {W:Wd}{h:Heap}{objs:jA}{nss:jB}(C:Cx W h objs nss):Cx W h objs []:=⟨C.keep,C.obj,nofun,by simpa using C.ndO⟩
noncomputable def BindQ (W:Wd) (A:Around) (env:Env):List Str->List V->jA->jB->(jA->jB->Prop)->Prop
 | [],_,o,n,Q=>Q o n
 | _::_,[],_,_,_=>False
 | y::r,x::xs,o,n,Q=>Stn W A env y x o n λo n=>BindQ W A env r xs o n Q
theorem zDJ {env:Env}(f:Str×Value->PUnit->Sem (ForInStep PUnit)) (hf:∀ n v u,f (n,v) u=(do storeName env n v;pure (.yield ⟨⟩))) :
  ∀ (ys:List Str) (xs:List V) (vs:List Value) (objs:jA) (nss:jB) (Q:jA->jB->Prop),ys.length=xs.length->All2 xs vs->BindQ W A env ys xs objs nss Q->Tr W A (forIn (ys.zip vs) ⟨⟩ f) objs nss λ_=>Q:=by
 intro ys xs vs objs nss Q hl hx h;induction hx generalizing ys objs nss with
 | nil =>obtain rfl:=List.length_eq_zero_iff.mp hl;exact Tr.of_eq List.forIn_nil (Tr.pure h)
 | cons hx hxs ih =>
  induction ys using List.casesOn with
  | nil=>exact absurd hl.symm (Nat.succ_ne_zero _)
  | cons y ys =>rw [List.zip_cons_cons,List.forIn_cons,hf];exact Tr.bind (Tr.bind (Tr.mono (h _ hx) λ_ o n q=>Tr.pure (ih _ _ _ (Nat.succ.inj hl) q)))
theorem QK {scope:Scope}{globals:Addr}{closure:List (Str×Addr)}{ys:List Str}{xs:List V}{vs:List Value}{qual:Str}{func:Option Addr}{code:Value}{around:Option Env}{builtins:Addr}{Q:Env->jA->jB->Prop}
  (hl:ys.length=xs.length) (hx:All2 xs vs)
  (h:∀ L,LayQ scope.names closure objs λcs o=>BindQ W A (newEnv scope L globals cs qual func code around builtins) ys xs o ((L,[])::nss) (Q (newEnv scope L globals cs qual func code around builtins))) :
  Tr W A (newFunctionEnv scope globals closure (ys.zip vs) qual func code around builtins) objs nss Q:=by
 intro hp tk C;unfold newFunctionEnv;refine wpAny_bind (wpAny_alloc ?_);refine wpAny_bind ?_;have C1:Cx W (hp.push { cls:=.type (if around.isSome then "dict" else "frame"),data:=.dict #[] }) objs ((hp.objs.size,[])::nss) :=
  C.allocNs (λb o _ e=>Heap.get?_push_of_some _ e) (Cx.noneAtSize hp) (Heap.Ns.new hp _) (LocsAre.nil _)
 refine zBx (nss:=(hp.objs.size,[])::nss) _ (λname kind cells=>by cases hkc:kind==NameKind.cell<;>simp [hkc]) scope.names closure objs _ tk
  (λcs o=>BindQ W A (newEnv scope hp.objs.size globals cs qual func code around builtins) ys xs o ((hp.objs.size,[])::nss) (Q (newEnv scope hp.objs.size globals cs qual func code around builtins))) _ (h hp.objs.size) C1 λcs o h' hq C'=>?_
 induction around using Option.casesOn with
 | none=>exact wpAny_bind (Tr.go (zDJ _ (λ_ _ _=>rfl) ys xs vs o _ _ hl hx hq) C' λ_ h₁ t₁ o₁ n₁ C₁ q=>wpAny_pure ⟨h₁,t₁,o₁,n₁,C₁,q⟩)
 | some u=>exact wpAny_bind (Tr.go (zDJ _ (λ_ _ _=>rfl) ys xs vs o _ _ hl hx hq) C' λ_ h₁ t₁ o₁ n₁ C₁ q=>wpAny_pure ⟨h₁,t₁,o₁,n₁,C₁,q⟩)
inductive RetQ (W:Wd) (Q:V->jA->jB->Prop):Result->Shared->Prop
 | mk (v:Value) (h':Heap) (tk':Nat) (o:jA) (n:jB) (C:Cx W h' o n) (x:V) (hx:V.Is x v) (q:Q x o n):RetQ W Q (.ok (.ret v)) (St W.s₀ h' tk')
noncomputable def Cc (W:Wd) (A:Around) (f:Value) (xs:List V) (objs:jA) (nss:jB) (Q:V->jA->jB->Prop):Prop :=
 ∀ vs,All2 xs vs->∀ h tk,Cx W h objs nss->codeAny (model W.prog W.w) A (.call f ⟨vs,[]⟩) (RetQ W Q) (St W.s₀ h tk)
theorem RetQ.mono {Q Q':V->jA->jB->Prop}{r:Result}{s':Shared}(h:RetQ W Q r s') (k:∀ x o n,Q x o n->Q' x o n):RetQ W Q' r s':=by
 induction h with
 | mk v h' tk' o n C x hx q=>exact ⟨v,h',tk',o,n,C,x,hx,k _ _ _ q⟩
theorem Cc.cl {f:Value}{xs:List V}{Q:V->jA->jB->Prop}(h:Cc W A f xs objs nss Q):Cl W A f xs objs nss Q:=λvs hvs hp tk C=>wpAny_call (codeAny_mono (h vs hvs hp tk C) λr s' hr=>by
 induction hr with
 | mk v h' tk' o n C x hx q=>exact ⟨h',tk',o,n,C,x,hx,q⟩)
inductive CtQ (Q:V->jA->Prop) (x:V) (o':jA):jB->Prop
 | mk (o'':jA) (s:Sel o'' o') (q:Q x o''):CtQ Q x o' []
noncomputable def Ct (K:Frag) (mg mb:Str->Option Value) (k:Nat) (f:Value) (xs:List V) (o:jA) (Q:V->jA->Prop):Prop :=
 ∀ W A,Gr W K mg mb->Ar A k->Cc W A f xs o [] (CtQ Q)
noncomputable def zA4 (W:Wd) (A:Around) (env:Env) (body:List Stmt) (Q:V->jA->Prop) (o:jA) (n:jB):Prop :=
 Es W A env body o n λf o _=>∃ o',Sel o' o/\match f with | .next=>Q .none o' | .ret x=>Q x o'
theorem Vt (A:Around) (env:Env):(A.deeper env).frames=A.frames.map (env::·):=by first | rfl | (unfold Around.deeper;rfl)
structure InF (A:Around) (k:Nat) (names:List (Str×NameKind)) (L:Addr) (cs:List (Str×Addr)) (env:Env) (A':Around):Prop where
 he:EnvAt env names L cs
 R:Ar A' k
 fr:A'.frames=A.frames.map (env::·)
 hf:env.frame=some L
noncomputable def zFA (W:Wd) (A':Around) (env:Env) (body:List Stmt) (R':Result->Shared->Prop) (o:jA) (n:jB):Prop:=∀ h t,Cx W h o n ->
 wpAny (model W.prog W.w) A' (execs body env) (λf s'=>R' (.ok (.ret (match f with | .ret v=>v | _=>.none))) s') (λe s'=>wpAny (model W.prog W.w) A' (leaving env e) (λ_ s''=>R' (.error e) s'') (λe' s''=>R' (.error e') s'') s') (St W.s₀ h t)
noncomputable def JX (K:Frag) (mg mb:Str->Option Value) (f:Addr) (names:List (Str×NameKind)) (ys:List Str) (body:List Stmt) (xs xs':List V):Prop :=
 ∀ (W:Wd) (A:Around) (k:Nat) (R':Result->Shared->Prop) (objs:jA) (nss:jB),Gr W K mg mb->Ar A (k + 1) ->
  (∀ L,LayQ names [] objs λcs o=>∀ env A',InF A k names L cs env A'->BindQ W A.in1 env ys xs' o ((L,[])::nss) (zFA W A' env body R'))->∀ vs,All2 xs vs->∀ hp tk,Cx W hp objs nss->codeAny (model W.prog W.w) A (.call (.ref f) ⟨vs,[]⟩) R' (St W.s₀ hp tk)
theorem Zr {f:Addr}{oc:Value}{od:Option Addr}{osl:Array (Option Value)}{name qual:Str}{params:Arguments}{body:List Stmt}{scope:Scope}{dV kV doc pm cdv ct:Value}{an:Option Addr}{ys:List Str}{xs xs':List V}
  (ho:K.lookup f=some ⟨oc,od,.func (fnOf name qual params body scope dV kV doc pm an cdv ct),osl⟩) (hcd:codeIn K cdv qual=true)
  (hbind:∀ (s:Shared) vs,K.In s.heap->All2 xs vs->∃ vs':List Value,All2 xs' vs'/\BindsTo s (fnOf name qual params body scope dV kV doc pm an cdv ct) ⟨vs,[]⟩ (ys.zip vs'))
  (hlen:ys.length=xs'.length) (hco:scope.isCoroutine=false) (hgen:scope.isGenerator=false) (hk:scope.kind = .function):JX K mg mb f scope.names ys body xs xs':=by
 intro W A k R' objs nss G R h vs hvs hp tk C;have KX:K.In hp:=λb o e=>C.keep b o (G.kin b o e);refine codeAny_call_function R.d (KX _ _ ho) rfl hco hgen rfl (codeRec_of KX hcd) ?_;obtain ⟨vs',hv',hb⟩:=hbind (St W.s₀ hp tk) vs KX hvs;exact hb _ _ _ _ (Tr.go (QK (Q:=λenv=>zFA W (A.deeper env) env body R') hlen hv' λL=>LayQ.mono (λcs o hb=>hb _ _ ⟨⟨hk,rfl,rfl,rfl,rfl,rfl⟩,R.deeper _,Vt _ _,rfl⟩) (h L)) C λenv h₁ t₁ o₁ n₁ C₁ q=>⟨G.nolimit.keeps C₁.keep,codeAny_func (q h₁ t₁ C₁)⟩)
theorem BindQ.mono {env:Env}{Q Q':jA->jB->Prop}(k:∀ o n,Q o n->Q' o n):∀ {ns:List Str}{xs:List V}{o:jA}{n:jB},BindQ W A env ns xs o n Q->BindQ W A env ns xs o n Q'
 | [],_,_,_,h=>k _ _ h
 | _::_,[],_,_,h=>False.elim h
 | _::_,_::_,_,_,h=>λv hv=>Tr.mono (h v hv) λ_ _ _ q=>BindQ.mono k q
theorem Zs {f:Addr}{names:List (Str×NameKind)}{ys:List Str}{body:List Stmt}{xs xs':List V}{k:Nat}{Q:V->jA->Prop}(e:JX K mg mb f names ys body xs xs')
  (h:∀ W A L,Gr W K mg mb->LayQ names [] objs λcs o=>∀ env A',EnvAt env names L cs->Ar A' k->BindQ W A env ys xs' o [(L,[])] (λo n=>zA4 W A' env body Q o n)):Ct K mg mb (k + 1) (.ref f) xs objs Q:=λW A G R =>
 e W A k _ _ _ G R λL=>LayQ.mono (λcs o hb env A' I=>BindQ.mono (λo n q h₁ t₁ C₁=>Fo.go q C₁ λfl x h₂ t₂ o₂ n₂ hx C₂ qq=>by
  obtain ⟨o₃,hsel,q⟩:=qq;induction x with
  | next=>subst hx;exact ⟨_,h₂,t₂,o₂,[],C₂.noNs,.none,rfl,o₃,hsel,q⟩
  | ret x=>obtain ⟨v,rfl,hv⟩:=hx;exact ⟨_,h₂,t₂,o₂,[],C₂.noNs,x,hv,o₃,hsel,q⟩) (hb env A' I.he I.R)) (h W A.in1 L G)
theorem Ct.cc {k k':Nat}{f:Value}{xs:List V}{o o₂:jA}{Q:V->jA->Prop}{Q':V->jA->jB->Prop}(c:Ct K mg mb k f xs o Q) (G:Gr W K mg mb) (R:Ar A k') (hk:k<=k') (p:objs.Perm (o++o₂))
  (h:∀ x o',Q x o'->Q' x (o'++o₂) nss):Cc W A f xs objs nss Q':=by
 intro vs hvs hp tk C;have C0:Cx W hp (o++o₂) ([]++nss):=C.perm p;refine codeAny_mono (c _ A (G.into (nss:=[]) C0) (R.le hk) vs hvs hp tk C0.into) λr s₁ h₁=>?_;induction h₁ with
 | mk v h₁ t₁ o₁ n₁ C₁ x hx q=>induction q with
  | mk o'' hsel q=>exact ⟨_,h₁,t₁,o''++o₂,nss,C0.back (C₁.sel hsel),x,hx,h x o'' q⟩
theorem Cl.use {k k':Nat}{f:Value}{xs:List V}{o o₂:jA}{Q:V->jA->Prop}{Q':V->jA->jB->Prop}(c:Ct K mg mb k f xs o Q) (G:Gr W K mg mb) (R:Ar A k') (hk:k<=k') (p:objs.Perm (o++o₂))
  (h:∀ x o',Q x o'->Q' x (o'++o₂) nss):Cl W A f xs objs nss Q':=(c.cc G R hk p h).cl
end
theorem Cx.weakNs {W:Wd}{h:Heap}{objs:jA}{nss:jB}{C₀:Addr}{ll:jX}(C:Cx W h objs ((C₀,ll)::nss)):Cx W h objs ((C₀,[])::nss) where
 keep:=C.keep
 obj:=C.obj
 ns:=λq hq=>by
  rcases List.mem_cons.mp hq with rfl | hq
  ·obtain ⟨⟨m,e,i⟩,n⟩:=C.ns _ (.head _);exact ⟨⟨m,e,LocsAre.nil m⟩,n⟩
  ·exact C.ns q (.tail _ hq)
 nd:=C.nd
theorem Cx.add {W:Wd}{h:Heap}{objs:jA}{nss:jB}{a:Addr}{o:Ob}{x:Obj}(C:Cx W h objs nss) (hn:¬ Cx.Nm W objs nss a) (hx:h.get? a=some x) (ho:o.Is W a x):Cx W h ((a,o)::objs) nss where
 keep:=C.keep
 obj:=λp hp=>by
  rcases List.mem_cons.mp hp with rfl | hp
  ·refine ⟨⟨x,hx,ho⟩,?_⟩;induction e:W.base.get? a using Option.casesOn with
   | none=>rfl
   | some o'=>exact absurd (Or.inr (Or.inr (by rw [e];rfl))) hn
  ·exact C.obj p hp
 ns:=C.ns
 nd:=by
  rw [List.map_cons,List.cons_append,List.nodup_cons];refine ⟨λhm=>hn ?_,C.nd⟩;rcases List.mem_append.mp hm with hm | hm
  ·exact .inl hm
  ·exact .inr (.inl hm)
noncomputable def y4 (cn names:List (Str×NameKind)):List (Str×NameKind):=cn.map λx=>if (x.2==.free&&names.lookup x.1==some .cell) then (x.1,.cell) else x
noncomputable def yb (cells:List (Str×Addr)):List (Str×NameKind)->List (Str×Addr)->Option (List (Str×Addr))
 | [],acc=>some acc
 | (n,k)::r,acc=>if (k==.free)=true then (cells.lookup n).bind λa=>yb cells r ((n,a)::acc) else yb cells r acc
theorem Ys {env:Env}:∀ (names:List (Str×NameKind)) (acc cl:List (Str×Addr)),yb env.cells names acc=some cl ->
  (forIn names acc λx r=>if (x.2==NameKind.free)=true then (cellOf env x.1 >>= λa=>(pure (ForInStep.yield ((x.1,a)::r)):Sem _)) else pure (ForInStep.yield r))=(pure cl:Sem _)
 | [],acc,cl,e=>by obtain rfl:=Option.some.inj e;rfl
 | (n,k)::r,acc,cl,e=>by
  rw [List.forIn_cons];unfold yb at e;dsimp only;by_cases hk:(k==NameKind.free)=true
  ·rw [if_pos hk] at e ⊢;obtain ⟨a,ha,e⟩:=Option.bind_eq_some_iff.mp e;unfold cellOf;rw [ha];exact Ys r _ cl e
  ·rw [if_neg hk] at e ⊢;exact Ys r _ cl e
theorem Jz {env:Env}{scope:Scope}{cl:List (Str×Addr)}(e:yb env.cells scope.names []=some cl):closureFor scope env=pure cl:=by have:=Ys scope.names [] cl e;unfold closureFor;simpa using this
section
variable {W:Wd} {A:Around} {env:Env} {objs objs':jA} {nss:jB} {names:List (Str×NameKind)} {L:Addr} {cells:List (Str×Addr)} {ll ll':jX} {K:Frag} {mg mb:Str->Option Value}
theorem EnvAt.comp {scope:Scope}{cs:List (Str×Addr)}{C:Addr}{qual:Str}(he:EnvAt env names L cells) (hk:scope.kind = .function) :
  EnvAt { newEnv scope C env.globals cs qual none .none (some env) builtinsNs with scope:=relabel scope env } (y4 scope.names names) C cs where
 kind:=hk
 names:=by
  show (relabel scope env).names=_;unfold relabel y4;refine List.map_congr_left λx _=>?_;obtain ⟨n,k⟩:=x;have:env.kindOf n=names.lookup n:=by unfold Env.kindOf;rw [he.names]
  simp only [he.kind,this];by_cases q:(k==NameKind.free)=true
  ·simp [q]
  ·simp [q]
 locals := rfl
 globals:=he.globals
 builtins:=he.builtins
 cells:=rfl
noncomputable def Ift (W:Wd) (A:Around) (env:Env):List Expr->jA->jB->(Bool->jA->jB->Prop)->Prop
 | [],o,n,Q=>Q true o n
 | [c],o,n,Q=>Bo W A env c o n Q
 | _,_,_,_=>False
inductive PopNs (C:Addr) (P:jA->jB->Prop) (o:jA):jB->Prop
 | mk (ll:jX) (n':jB) (o':jA) (s:Sel o' o) (q:P o' n'):PopNs C P o ((C,ll)::n')
noncomputable def zJg (K:Frag) (mg mb:Str->Option Value) (A:Around) (cn:List (Str×NameKind)) (cs:List (Str×Addr)) (elt target:Expr) (ifs:List Expr) (cnt:Nat) (need:jA->Prop) (Val:Nat->jA->jA->V->Prop) (Inv:Nat->List V->jA->jB->Prop):Prop :=
 ∀ W' i ys o n,Gr W' K mg mb->i < cnt->Inv i ys o n->need o/\∀ o' x,Val i o o' x->∀ cenv C,EnvAt cenv cn C cs->As W' A cenv target x o' ((C,[])::n) λo n=>Ift W' A cenv ifs o n λb o n =>
  Br b (Ev W' A cenv elt o n λy=>PopNs C (Inv (i + 1) (ys++[y]))) (PopNs C (Inv (i + 1) ys) o n)
theorem Qn {prog:Program}{w:World}{A:Around}{R:Result->Shared->Prop}{s:Shared}{elt target iter:Expr}{ifs:List Expr}{scope:Scope}{pos:Pos}{it acc:Value}{env:Env}(I:Nat->Shared->Prop)
  (turn:∀ n s,I n s->wpAny (model prog w) A (pyNext it) (λr s₁=>match r with
   | none=>R (.ok .next) s₁
   | some v=>wpAny (model prog w) A (letOwnedTupleGo target it v) (λ_ s₀=>wpAny (model prog w) A (assign target env v) (λ_ s₂ =>
     wpAny (model prog w) A (forIn ifs true λc r=>if r=true then do let ok <- isTrue c env (eval c env);pure (ForInStep.yield ok) else pure (ForInStep.yield r)) (λok s₃ =>
      if ok=true then wpAny (model prog w) A (eval elt env) (λx s₄ =>
       wpAny (model prog w) A (call (.builtin "list.append") [acc,x]) (λ_ s₅=>∃ m,m < n/\I m s₅) (notedBy (model prog w) A env λe s'=>R (.error e) s') s₄) (notedBy (model prog w) A env λe s'=>R (.error e) s') s₃
      else ∃ m,m < n/\I m s₃) (notedBy (model prog w) A env λe s'=>R (.error e) s') s₂) (notedBy (model prog w) A env λe s'=>R (.error e) s') s₀) (notedBy (model prog w) A env λe s'=>R (.error e) s') s₁) (notedBy (model prog w) A env λe s'=>R (.error e) s') s)
  (n:Nat) (h:I n s) :
  codeAny (model prog w) A (.compLoop (.ListComp elt [⟨target,iter,ifs,0⟩] scope pos) 0 it acc env) R s:=by
 refine codeAny_loop rfl I (λn s hI=>?_) n h;show wpAny _ A ((compTurn (.ListComp elt [⟨target,iter,ifs,0⟩] scope pos) 0 it acc env).onRaise (λx=>do noteFrame x env;theTreesLotGoes x)) _ _ s;refine wpAny_noted ?_;rw [compTurn_list];refine wpAny_bind (wpAny_standAt (wpAny_bind (wpAny_mono (turn n s hI) (λr s₁ h₁=>?_) λ_ _ h'=>h')));induction r using Option.casesOn with
 | none=>exact wpAny_pure h₁
 | some v =>
  refine wpAny_bind (wpAny_mono h₁ (λ_ s₀ h₀=>?_) λ_ _ h'=>h');refine wpAny_bind (wpAny_mono h₀ (λ_ s₂ h₂=>wpAny_bind (wpAny_mono h₂ (λok s₃ h₃=>?_) λ_ _ h'=>h')) λ_ _ h'=>h');induction ok using Bool.casesOn with
  | false=>exact wpAny_pure ⟨rfl,h₃⟩
  | true =>exact wpAny_bind (wpAny_bind (wpAny_mono h₃ (λx s₄ h₄=>wpAny_bind (wpAny_mono h₄ (λ_ s₅ h₅=>wpAny_pure (wpAny_pure ⟨rfl,h₅⟩)) λ_ _ h'=>h')) λ_ _ h'=>h'))
inductive CompOut (W:Wd) (Inv:List V->jA->jB->Prop) (C D:Addr):Result->Shared->Prop
 | mk (f:Flow) (h:Heap) (tk:Nat) (ys:List V) (vs:Array Value) (o:jA) (n:jB) (X:Cx W h o ((C,[])::n)) (hl:h.PlainList D vs) (hys:All2 ys vs.toList) (nD:¬ Cx.Nm W o ((C,[])::n) D) (q:Inv ys o n):CompOut W Inv C D (.ok f) (St W.s₀ h tk)
inductive zNk (W:Wd) (S:Nat->Heap->Prop) (fp:List Addr) (Inv:Nat->List V->jA->jB->Prop) (cnt:Nat) (C D:Addr):Nat->Shared->Prop
 | mk (i:Nat) (h:Heap) (tk:Nat) (o:jA) (n:jB) (ys:List V) (vs:Array Value) (hi:i<=cnt) (a:LAt W S fp i h o ((C,[])::n)) (hl:h.PlainList D vs) (hys:All2 ys vs.toList) (hyl:ys.length<=i) (nD:¬ Cx.Nm W o ((C,[])::n) D) (q:Inv i ys o n):zNk W S fp Inv cnt C D (cnt + 1 - i) (St W.s₀ h tk)
inductive zPq (W:Wd) (S:Nat->Heap->Prop) (fp:List Addr) (i:Nat) (C D:Addr) (ob:Obj) (P:jA->jB->Prop) (h:Heap):Prop
 | mk (o:jA) (n:jB) (a:LAt W S fp i h o ((C,[])::n)) (e:h.get? D=some ob) (d:¬ Cx.Nm W o ((C,[])::n) D) (q:P o n)
section
variable {fp:List Addr} {cnt i:Nat} {need:jA->Prop} {Val:Nat->jA->jA->V->Prop} {S:Nat->Heap->Prop} {t:Expr} {it:Value} {h:Heap} {tk:Nat} {o:jA} {n:jB} {C D:Addr}
theorem LAt.pop (I:ItA W A t it fp cnt need Val S) (a:LAt W S fp i h o n) {h₂:Heap}{o₂:jA}{n₂:jB}{P:jA->jB->Prop}{ob:Obj}(C₂:Cx (Cx.Wd.into W h (o.map Prod.fst++n.map Prod.fst)) h₂ o₂ n₂) (p:PopNs C P o₂ n₂)
  (e:h.get? D=some ob) (d:¬ Cx.Nm W o n D):zPq W S fp i C D ob P h₂:=by
 induction p with
 | mk ll n' o' s q=>exact ⟨o',n',⟨(a.run I (C₂.sel s)).s,(a.run I (C₂.sel s)).c.weakNs,(a.run I (C₂.sel s)).nm⟩,(a.c.off (C₂.sel s) d e).1,(a.c.off (C₂.sel s) d e).2,q⟩
theorem LAt.grow (I:ItA W A t it fp cnt need Val S) (a:LAt W S fp i h o n) (d:¬ Cx.Nm W o n D) (fD:D ∉ fp) {h':Heap}(k:∀ b o,b≠D->h.get? b=some o->h'.get? b=some o):LAt W S fp i h' o n where
 s:=(I W.base λ_ _ e=>e).frame _ _ _ a.s (λb o e=>⟨a.c.keep b o e,k b o (λq=>d (.inr (.inr (by rw [<- q,e];rfl)))) (a.c.keep b o e)⟩) λb hb ob e=>k b ob (λq=>fD (q▸hb)) e
 c:=a.c.offPut (fp:=[D]) (by simpa using d) λb o hb e=>k b o (by simpa using hb) e
 nm:=a.nm
theorem LAt.fresh (I:ItA W A t it fp cnt need Val S) (a:LAt W S fp i h o n) {h':Heap}(k:∀ b o,h.get? b=some o->h'.get? b=some o):LAt W S fp i h' o n where
 s:=(I W.base λ_ _ e=>e).frame _ _ _ a.s (λb o e=>⟨a.c.keep b o e,k b o (a.c.keep b o e)⟩) λb _ ob e=>k b ob e
 c:=a.c.grown' k
 nm:=a.nm
theorem LAt.new (I:ItA W A t it fp cnt need Val S) (a:LAt W S fp i h o n):h.objs.size ∉ fp:=λhm=>((I W.base λ_ _ e=>e).there _ _ a.s _ hm).elim λo e=>nomatch e.symm.trans (Cx.noneAtSize h)
theorem Ift.go {ifs:List Expr}{Q:Bool->jA->jB->Prop}{R:Bool->Shared->Prop}{E:Value->Shared->Prop}(q:Ift W A env ifs o n Q) (C:Cx W h o n) (k:∀ b h' tk' o' n',Cx W h' o' n'->Q b o' n'->R b (St W.s₀ h' tk')) :
  wpAny (model W.prog W.w) A (forIn ifs true λc r=>if r=true then do let ok <- isTrue c env (eval c env);pure (ForInStep.yield ok) else pure (ForInStep.yield r)) R E (St W.s₀ h tk):=by
 match ifs,q with
 | [],q=>exact wpAny_tests_nil (k _ _ _ _ _ C q)
 | [c],q=>exact wpAny_tests_one (Tr.go q C k)
end
theorem zA5 {elt target iter:Expr}{ifs:List Expr}{scope:Scope}{pos:Pos}{it:Value}{cenv:Env}{cn:List (Str×NameKind)}{cs:List (Str×Addr)}{C D:Addr}{fp:List Addr}{cnt:Nat}{need:jA->Prop}{Val:Nat->jA->jA->V->Prop}{S:Nat->Heap->Prop}{Inv:Nat->List V->jA->jB->Prop}
  (G:Gr W K mg mb) (I:ItA W A target it fp cnt need Val S) (he:EnvAt cenv cn C cs) (T:zJg K mg mb A cn cs elt target ifs cnt need Val Inv) (Tl:∀ ys o n,Inv cnt ys o n->need o) (hcnt:cnt<=1000)
  {h:Heap} {tk:Nat} (a:LAt W S fp 0 h objs ((C,[])::nss)) (hD:h.PlainList D #[]) (nD:¬ Cx.Nm W objs ((C,[])::nss) D) (fD:D ∉ fp) (h0:Inv 0 [] objs nss) :
  codeAny (model W.prog W.w) A (.compLoop (.ListComp elt [⟨target,iter,ifs,0⟩] scope pos) 0 it (.ref D) cenv) (CompOut W (Inv cnt) C D) (St W.s₀ h tk):=by
 refine Qn (zNk W S fp Inv cnt C D) ?_ (cnt + 1) (.mk 0 h tk objs nss [] #[] (Nat.zero_le _) a hD .nil (Nat.le_refl _) nD h0);intro k s f;induction f with
 | mk i h tk o n ys vs hi a hD hys hyl nD hI =>
 obtain ⟨nD',eD⟩:=hD;by_cases hc:i < cnt
 ·refine LAt.next I hc a (T W i ys o n G hc hI).1 λv x h' tk' o' hx hv a' kD=>?_;have kD:=kD _ _ eD nD fD;refine Tr.go (W:=Cx.Wd.into W h' (o'.map Prod.fst++((C,([]:jX))::n).map Prod.fst)) ((T _ i ys o n (G.into' a'.c) hc hI).2 o' x hv cenv C he v hx) a'.c.into' λ_ h₃ t₃ o₃ n₃ C₃ q=>?_;refine Ift.go (W:=Cx.Wd.into W h' (o'.map Prod.fst++((C,([]:jX))::n).map Prod.fst)) q C₃ λok h₄ t₄ o₄ n₄ C₄ q=>?_;induction ok using Bool.casesOn with
  | false =>rw [if_neg (by decide)];exact (a'.pop I C₄ (q.2 rfl) kD.1 kD.2).casesOn λo₅ n₅ a₅ e₅ d₅ hI₅=>⟨_,zLT hc,.mk (i + 1) h₄ t₄ o₅ n₅ ys vs hc a₅ ⟨nD',e₅⟩ hys (Nat.le_succ_of_le hyl) d₅ hI₅⟩
  | true =>rw [if_pos rfl];refine Tv.go (W:=Cx.Wd.into W h' (o'.map Prod.fst++((C,([]:jX))::n).map Prod.fst)) (q.1 rfl) C₄ λy y' h₅ t₅ o₅ n₅ hy' C₅ q=>?_;refine (a'.pop I C₅ q kD.1 kD.2).casesOn λo₆ n₆ a₆ e₆ d₆ hI₆=>?_;refine wpAny_list_append_plain (s:=St W.s₀ h₅ t₅) ⟨nD',e₆⟩ (λh₆ hl₆ hs₆=>?_) (zC (by rw [<- Array.length_toList,hys.length];exact Nat.le_trans hyl (Nat.le_of_lt (Nat.lt_of_lt_of_le hc hcnt))));exact ⟨_,zLT hc,.mk (i + 1) h₆ t₅ o₆ n₆ (ys++[y']) (vs.push y) hc (a₆.grow I d₆ fD λb o hb e=>hs₆.extBut b o hb e) hl₆ (by rw [Array.toList_push];exact hys.append (.cons hy' .nil)) (by rw [List.length_append];exact Nat.succ_le_succ hyl) d₆ hI₆⟩
 ·obtain rfl:=Nat.le_antisymm hi (Nat.le_of_not_lt hc);refine LAt.last I a (Tl ys o n hI) λh' tk' C' kD=>?_;exact .mk _ h' tk' ys vs o n C' ⟨nD',(kD _ _ eD nD fD).1⟩ hys nD hI
inductive zBy (K:Frag) (mg mb:Str->Option Value) (A:Around) (cn:List (Str×NameKind)) (elt target:Expr) (ifs:List Expr) (cnt:Nat) (need:jA->Prop) (Val:Nat->jA->jA->V->Prop) (n:jB) (Q:List V->jA->jB->Prop) (cs:List (Str×Addr)) (o:jA):Prop
 | mk (Inv:Nat->List V->jA->jB->Prop) (i0:Inv 0 [] o n) (T:zJg K mg mb A cn cs elt target ifs cnt need Val Inv) (l:∀ ys o n,Inv cnt ys o n->need o/\Q ys o n)
inductive CompQ (W:Wd) (K:Frag) (mg mb:Str->Option Value) (A:Around) (cn names:List (Str×NameKind)) (cl:List (Str×Addr)) (elt target:Expr) (ifs:List Expr) (x:V) (o:jA) (n:jB) (Q:List V->jA->jB->Prop):Prop
 | mk (o₁:jA) (cnt:Nat) (need:jA->Prop) (Val:Nat->jA->jA->V->Prop) (it:ItOf W A target x o n o₁ cnt need Val) (hc:cnt<=1000) (l:LayQ cn cl o₁ (zBy K mg mb A (y4 cn names) elt target ifs cnt need Val n Q))
inductive zNl (K:Frag) (mg mb:Str->Option Value) (A:Around) (cn:List (Str×NameKind)) (elt target:Expr) (ifs:List Expr) (cnt:Nat) (need:jA->Prop) (Val:Nat->jA->jA->V->Prop) (n:jB) (Q:List V->jA->jB->Prop) (scope:Scope) (env:Env):Env->jA->jB->Prop
 | mk (cs:List (Str×Addr)) (C:Addr) (o:jA) (c:zBy K mg mb A cn elt target ifs cnt need Val n Q cs o):zNl K mg mb A cn elt target ifs cnt need Val n Q scope env (newEnv scope C env.globals cs env.qual none .none (some env) builtinsNs) o ((C,[])::n)
theorem zFB {elt target iter:Expr}{ifs:List Expr}{scope:Scope}{pos:Pos}{QQ:Result->Shared->Prop}{Q:List V->jA->jB->Prop}{cs:List (Str×Addr)}{C D:Addr}{fp:List Addr}{cnt:Nat}{need:jA->Prop}{Val:Nat->jA->jA->V->Prop}{S:Nat->Heap->Prop}{it:Value}{qual:Str}
  (G:Gr W K mg mb) (he:EnvAt env names L cells) (hkind:scope.kind = .function) (I:ItA W A target it fp cnt need Val S) (hcnt:cnt<=1000) {h:Heap} {tk:Nat} (a:LAt W S fp 0 h objs ((C,[])::nss)) (hD:h.PlainList D #[]) (nD:¬ Cx.Nm W objs ((C,[])::nss) D) (fD:D ∉ fp)
  (c:zBy K mg mb A (y4 scope.names names) elt target ifs cnt need Val nss Q cs objs) (hQ:∀ f s',CompOut W Q C D (.ok f) s'->QQ (.ok f) s') :
  codeAny (model W.prog W.w) A (.compStart (.ListComp elt [⟨target,iter,ifs,0⟩] scope pos) 0 it (.ref D) { newEnv scope C env.globals cs qual none .none (some env) builtinsNs with scope:=relabel scope env }) QQ (St W.s₀ h tk):=by
 induction c with
 | mk Inv i0 T Tl =>
 have loop:=codeAny_mono (zA5 (iter:=iter) (pos:=pos) (scope:=scope) G I (he.comp (cs:=cs) (C:=C) (qual:=qual) hkind) T (λys o n q=>(Tl ys o n q).1) hcnt a (tk:=tk) hD nD fD i0) (R':=QQ) λr s' hr=>by
  induction hr with
  | mk f h tk ys vs o n X hl hys nD q=>exact hQ f _ (.mk f h tk ys vs o n X hl hys nD (Tl ys o n q).2)
 exact codeAny_compStart_list loop ((I W.base λ_ _ e=>e).self 0 h tk _ _ a.s loop)
theorem QL {elt target iter:Expr}{ifs:List Expr}{scope:Scope}{pos:Pos}{use:Option (Value->Sem Unit)}{QQ:Value->Shared->Prop}{Q:List V->jA->jB->Prop}{E:Value->Shared->Prop}
  (G:Gr W K mg mb) (he:EnvAt env names L cells) (hkind:scope.kind = .function) (hnames:∀ x ∈ scope.names,x.2 = .local->scope.names.lookup x.1=some .local)
  {cl:List (Str×Addr)} {x:V} {v:Value} (hx:x.Is v) (h:CompQ W K mg mb A scope.names names cl elt target ifs x objs nss Q) {hp:Heap} {tk:Nat} (X:Cx W hp objs nss)
  (hQ:∀ C D f s',CompOut W Q C D (.ok f) s'->compPost (model W.prog W.w) A E use QQ (.ref D) C (.ok f) s') :
  wpAny (model W.prog W.w) A (pyIter v) (λit s₂=>wpAny (model W.prog W.w) A (newList []) (λacc s₃ =>
   wpAny (model W.prog W.w) A (newFunctionEnv scope env.globals cl [] env.qual none .none (some env)) (λcenv s₄ =>
    codeAny (model W.prog W.w) A (.compStart (.ListComp elt [⟨target,iter,ifs,0⟩] scope pos) 0 it acc { cenv with scope:=relabel scope env }) (compPost (model W.prog W.w) A E use QQ acc cenv.locals) s₄) E s₃) E s₂) E (St W.s₀ hp tk):=by
 induction h with
 | mk o₁ cnt need Val hi hcnt hl =>
 refine hi v hp tk _ _ hx X λit fp S h₁ t₁ I hS X₁ nm=>?_;refine wpAny_newObj_type (s:=St W.s₀ h₁ t₁) ?_ (by exact Nat.zero_le _);have a:LAt W S fp 0 h₁ o₁ nss:=⟨hS,X₁,nm⟩;have a₂:=a.fresh I (h':=h₁.push { cls:=.type "list",dict:=none,data:=.seq ([]:List Value).toArray }) λb o e=>Heap.get?_push_of_some _ e;have nD:¬ Cx.Nm W o₁ nss h₁.objs.size:=yN X₁ (Cx.noneAtSize h₁);refine Tr.go (W:=Cx.Wd.into W (h₁.push { cls:=.type "list",dict:=none,data:=.seq ([]:List Value).toArray }) (o₁.map Prod.fst++nss.map Prod.fst)) (QK (A:=A) (globals:=env.globals) (qual:=env.qual) (func:=none) (code:=.none) (around:=some env) (builtins:=builtinsNs) (ys:=[]) (vs:=[]) (xs:=[]) (nss:=nss) (closure:=cl) (scope:=scope)
  (Q:=zNl K mg mb A (y4 scope.names names) elt target ifs cnt need Val nss Q scope env) rfl .nil (λC=>LayQ.mono (λcs o q=>.mk cs C o q) hl)) a₂.c.into' λcenv h₂ t₂ o₂ n₂ C₂ q=>?_
 induction q with
 | mk cs C o c =>
 have d:=a₂.c.off C₂ nD (Heap.get?_push_size _ rfl);exact zFB G he hkind I hcnt (a₂.run I C₂) ⟨0,d.1⟩ d.2 (a.new I) c λf s'=>hQ C _ f s'
inductive zDK (W:Wd) (Q:List V->jA->jB->Prop) (C D:Addr):Shared->Prop
 | mk (h:Heap) (tk:Nat) (ys:List V) (o:jA) (n:jB) (m:Str->Option Value) (hm:h.Ns C m) (q:Q ys o n) (X:Cx W h ((D,.list ys)::o) n) (d:¬ Cx.Nm W ((D,.list ys)::o) n C):zDK W Q C D (St W.s₀ h tk)
theorem CompOut.end_ {Q:List V->jA->jB->Prop}{C D:Addr}{f:Flow}{s':Shared}(h:CompOut W Q C D (.ok f) s'):zDK W Q C D s':=by
 cases h with
 | mk _ h tk ys vs o n X hD hys nD q =>
 obtain ⟨nD',eD⟩:=hD;obtain ⟨⟨m,hm,_⟩,hb⟩:=X.ns (C,[]) (.head _);have X':Cx W h ((D,.list ys)::o) ((C,[])::n):=X.add (o:=.list ys) nD eD ⟨rfl,vs.toList,nD',by simp,hys,rfl,rfl⟩;refine ⟨h,tk,ys,o,n,m,hm,q,X'.pop,λq=>?_⟩;have nd:=X'.nd;rw [List.nodup_append] at nd;rcases q with q | q | q
 ·exact nd.2.2 _ q _ (.head _) rfl
 ·have:=nd.2.1;rw [List.map_cons,List.nodup_cons] at this;exact this.1 q
 ·simp only [hb] at q;contradiction
theorem zHv {elt target iter:Expr}{ifs:List Expr}{scope:Scope}{pos:Pos}{cl:List (Str×Addr)}{Q:V->jA->jB->Prop}(G:Gr W K mg mb) (he:EnvAt env names L cells) (hcl:yb cells scope.names []=some cl)
  (h:Ev W A env iter objs nss λx o n=>CompQ W K mg mb A scope.names names cl elt target ifs x o n λys o n=>∀ D,Q (.ref D) ((D,.list ys)::o) n)
  (hkind:scope.kind = .function) (hnames:∀ x ∈ scope.names,x.2 = .local->scope.names.lookup x.1=some .local)
  (hs:∀ x,foldedSetIterable iter env x=pure x):Ev W A env (.ListComp elt [⟨target,iter,ifs,0⟩] scope pos) objs nss Q:=by
 intro hp tk X;rw [eval_ListComp];refine wpAny_comprehension_free (use:=none) rfl hs (Jz (by rw [he.cells];exact hcl)) hkind hnames (Tv.go h X λv x h₁ t₁ o₁ n₁ hx X₁ q=>?_);refine QL G he hkind hnames hx q X₁ λC D f s' ho=>?_;refine ho.end_.casesOn λh₂ t₂ ys o n m hm q X₂ nC=>?_;exact ⟨m,hm,λh' hs'=>⟨h',t₂,_,n,X₂.offPut (fp:=[C]) (by simpa using nC) (λb o hb e=>hs'.extBut b o (by simpa using hb) e),.ref D,rfl,q D⟩⟩
theorem zLU {elt target iter:Expr}{ifs:List Expr}{scope:Scope}{x:Str}{px pos spos:Pos}{cl:List (Str×Addr)}{Q:Fl->jA->jB->Prop}(G:Gr W K mg mb) (he:EnvAt env names L cells) (hcl:yb cells scope.names []=some cl)
  (hsw:swapsWith (.ListComp elt [⟨target,iter,ifs,0⟩] scope pos) (some (.Name x px)) spos.line env=pure true)
  (h:Ev W A env iter objs nss λy o n=>CompQ W K mg mb A scope.names names cl elt target ifs y o n λys o n=>∀ W',Gr W' K mg mb->∀ D,As W' A env (.Name x px) (.ref D) ((D,.list ys)::o) n (Q .next))
  (hkind:scope.kind = .function) (hnames:∀ x ∈ scope.names,x.2 = .local->scope.names.lookup x.1=some .local)
  (hs:∀ x,foldedSetIterable iter env x=pure x):Ex W A env (.Assign [.Name x px] (.ListComp elt [⟨target,iter,ifs,0⟩] scope pos) spos) objs nss Q:=by
 intro hp tk X;rw [exec_Assign_Name_used _ _ _ _ hsw];refine wpAny_bind (wpAny_standAt (wpAny_bind ?_));rw [arm_evalThenUse_ListComp];refine wpAny_bind ?_;refine wpAny_comprehension_free (use:=some _) rfl hs (Jz (by rw [he.cells];exact hcl)) hkind hnames (Tv.go h X λv y h₁ t₁ o₁ n₁ hx X₁ q=>?_);refine QL G he hkind hnames hx q X₁ λC D f s' ho=>?_;refine ho.end_.casesOn λh₂ t₂ ys o n m hm q X₂ nC=>?_;obtain ⟨oC,es,ep,eC,rC⟩:=id hm;refine Tr.go (W:=Cx.Wd.into W h₂ (((D,Ob.list ys)::o).map Prod.fst++n.map Prod.fst)) (q _ (G.into' X₂) D _ rfl) X₂.into' λ_ h₃ t₃ o₃ n₃ X₃ q=>?_;have off:=X₂.off X₃ nC eC;exact ⟨m,⟨oC,es,ep,off.1,rC⟩,λh' hs'=>wpAny_pure (wpAny_pure ⟨h',t₃,_,_,(X₂.back' X₃).offPut (fp:=[C]) (by simpa using off.2) (λb o hb e=>hs'.extBut b o (by simpa using hb) e),.next,rfl,q⟩)⟩
end
section
variable {W:Wd} {A:Around} {env:Env} {objs objs':jA} {nss:jB} {names:List (Str×NameKind)} {L:Addr} {cells:List (Str×Addr)} {ll ll':jX} {K:Frag} {mg mb:Str->Option Value}
theorem All2.one {x:V}{vs:List Value}(h:All2 [x] vs):∃ a,vs=[a]/\x.Is a:=by cases h with | cons a b=>cases b;exact ⟨_,rfl,a⟩
theorem All2.two {x y:V}{vs:List Value}(h:All2 [x,y] vs):∃ a b,vs=[a,b]/\x.Is a/\y.Is b:=by cases h with | cons a b=>obtain ⟨c,rfl,d⟩:=b.one;exact ⟨_,_,rfl,a,d⟩
noncomputable def vOf:Value->Option V
 | .none=>some .none
 | .bool b=>some (.bool b)
 | .int i _=>some (.int i)
 | .str x _=>some (.str x)
 | .ref a=>some (.ref a)
 | .builtin i=>some (.bi i)
 | .type n=>some (.ty n)
 | _=>none
theorem zBz {u:Value}{v:V}(h:vOf u=some v):v.Is u:=by cases u<;>first | (obtain rfl:=Option.some.inj h;rfl) | (obtain rfl:=Option.some.inj h;exact ⟨_,rfl⟩) | contradiction
theorem zCA {x:Str}{pos:Pos}{v:V}{u:Value}{Q:V->jA->jB->Prop}(he:EnvAt env names L cells) (G:Gr W K mg mb) (hx:names.lookup x=some .globalImplicit) (e:nsIn K mainGlobals x=some (some u)) (hi:vOf u=some v) (h:Q v objs nss)
  (hd:(x==("__debug__":Str))=false):Ev W A env (.Name x pos) objs nss Q:=zEr he G hx (mg_of G.kin G.g e) (zBz hi) h hd
theorem zLV {x:Str}{pos:Pos}{v:V}{u:Value}{Q:V->jA->jB->Prop}(he:EnvAt env names L cells) (G:Gr W K mg mb) (hx:names.lookup x=some .globalImplicit) (e:nsIn K mainGlobals x=some none) (hb:bootBuiltins x=some u) (hi:vOf u=some v) (h:Q v objs nss)
  (hn:x≠"__name__") (hd:(x==("__debug__":Str))=false):Ev W A env (.Name x pos) objs nss Q:=zEA he G hx (mg_none_of G.kin G.g e) hb (zBz hi) h hn hd
theorem zLW:bootBuiltins "len"=some (.builtin "len"):=by decide +kernel
theorem zLX:bootBuiltins "abs"=some (.builtin "abs"):=by decide +kernel
theorem zLY:bootBuiltins "min"=some (.builtin "min"):=by decide +kernel
theorem zLZ:bootBuiltins "sum"=some (.builtin "sum"):=by decide +kernel
theorem zFC:bootBuiltins "range"=some (.type "range"):=by decide +kernel
theorem zL0:bootBuiltins "zip"=some (.type "zip"):=by decide +kernel
theorem zFD:bootBuiltins "enumerate"=some (.type "enumerate"):=by decide +kernel
theorem zL1:bootBuiltins "int"=some (.type "int"):=by decide +kernel
theorem zp {pos:Pos}:∀ {es:List Expr},j0 es=true->(backTo pos (starEach es env)).any (·.1)=false
 | [],_=>rfl
 | e::es,h=>by have h1:=zG (env:=env) h e (List.mem_cons_self ..) es;have h2:j0 es=true:=(jP h).2;have:=zp (pos:=pos) h2;rw [h1];show (false||(backTo pos (starEach es env)).any (·.1))=false;rw [this];rfl
theorem yl {pos:Pos}{f:Value}{es:List Expr}{Q:Args->Shared->Prop}{E:Value->Shared->Prop}{s:Shared}(hp:j0 es=true) (h:wpAny (model W.prog W.w) A (spliced (backTo pos (starEach es env))) (λvs s'=>Q ⟨vs,[]⟩ s') E s) :
  wpAny (model W.prog W.w) A (evalArgs f true (backTo pos (starEach es env)) []) Q E s:=by
 induction es using List.casesOn with
 | nil =>show wpAny _ _ (evalArgs f true [] []) _ _ _;unfold evalArgs;refine wpAny_bind ?_;refine wpAny_mono h (λvs s' h'=>?_) λ_ _ x=>x;exact wpAny_bind (wpAny_pure (wpAny_holding (wpAny_bind (wpAny_pure (wpAny_bind (wpAny_pure (wpAny_pure h')))))))
 | cons e r =>
  have h1:backTo pos (starEach (e::r) env)=(false,eval e env)::backTo pos (starEach r env):=by rw [zG hp e (List.mem_cons_self ..) r];rfl
  rw [h1] at h ⊢;exact evalArgs_plain h
theorem zCB {pos:Pos}{a:Addr}{first:List Value}{fx:List V}{es:List Expr}{Q:V->jA->jB->Prop}(G:Gr W K mg mb) (hk:keepIn K (.ref a)=true) (hf:All2 fx first)
  (h:Evs W A env es objs nss λxs o n=>Cl W A (.ref a) (fx++xs) o n Q) (hp:j0 es=true):Tv W A (callWith pos (.ref a) first (backTo pos (starEach es env)) []) objs nss Q:=by
 intro hh tk C;refine callWith_of (P:=K.In) (by rw [zp hp];rfl) (keeps_K hk) (yl hp (Lo.go (zZ es objs nss _ (zG hp) h) C λvs xs h₁ t₁ o n hxs C₁ q=>?_));exact ⟨λb ob e=>C₁.keep b ob (G.kin b ob e),q _ (hf.append hxs) h₁ t₁ C₁⟩
theorem zHw {pos:Pos}{T:String}{first:List Value}{fx:List V}{es:List Expr}{Q:V->jA->jB->Prop}(hf:All2 fx first)
  (h:Evs W A env es objs nss λxs o n=>Cl W A (.type T) (fx++xs) o n Q) (hp:j0 es=true):Tv W A (callWith pos (.type T) first (backTo pos (starEach es env)) []) objs nss Q:=by
 intro hh tk C;refine PySem.callWith_type (zp hp) (yl hp (Lo.go (zZ es objs nss _ (zG hp) h) C λvs xs h₁ t₁ o n hxs C₁ q=>?_));exact q _ (hf.append hxs) h₁ t₁ C₁
theorem zDL {pos:Pos}{id:String}{first:List Value}{fx:List V}{es:List Expr}{Q:V->jA->jB->Prop}(hf:All2 fx first)
  (h:Evs W A env es objs nss λxs o n=>Cl W A (.builtin id) (fx++xs) o n Q) (hp:j0 es=true):Tv W A (callWith pos (.builtin id) first (backTo pos (starEach es env)) []) objs nss Q:=by
 intro hh tk C;refine callWith_builtin (zp hp) (yl hp (Lo.go (zZ es objs nss _ (zG hp) h) C λvs xs h₁ t₁ o n hxs C₁ q=>?_));exact q _ (hf.append hxs) h₁ t₁ C₁
theorem Qo {x:Str}{p pos:Pos}{es:List Expr}{Q:V->jA->jB->Prop}{f:V}(h:Ev W A env (.Name x p) objs nss λy o n=>y=f/\∀ v,f.Is v->Tv W A (callWith pos v [] (backTo pos (starEach es env)) []) o n Q) :
  Ev W A env (.Call (.Name x p) es [] pos) objs nss Q:=λhp tk C=>by
 refine Call_Name rfl (Tv.go (h) C λv y h₁ t₁ o n hy C₁ qq=>?_);obtain ⟨rfl,q⟩:=qq;exact q v hy h₁ t₁ C₁
theorem JD {x:Str}{p pos:Pos}{es:List Expr}{a:Addr}{Q:V->jA->jB->Prop}(G:Gr W K mg mb) (hn:∀ Q:V->jA->jB->Prop,Q (.ref a) objs nss->Ev W A env (.Name x p) objs nss Q) (hk:keepIn K (.ref a)=true)
  (h:Evs W A env es objs nss λxs o n=>Cl W A (.ref a) xs o n Q) (hp:j0 es=true):Ev W A env (.Call (.Name x p) es [] pos) objs nss Q :=
 Qo (f:=.ref a) (hn _ ⟨rfl,by rintro _ rfl;exact zCB G hk .nil h hp⟩)
theorem JY {x:Str}{p pos:Pos}{es:List Expr}{T:String}{Q:V->jA->jB->Prop}(hn:∀ Q:V->jA->jB->Prop,Q (.ty T) objs nss->Ev W A env (.Name x p) objs nss Q)
  (h:Evs W A env es objs nss λxs o n=>Cl W A (.type T) xs o n Q) (hp:j0 es=true):Ev W A env (.Call (.Name x p) es [] pos) objs nss Q :=
 Qo (f:=.ty T) (hn _ ⟨rfl,by rintro _ rfl;exact zHw .nil h hp⟩)
theorem zA6 {x:Str}{p pos:Pos}{es:List Expr}{id:String}{Q:V->jA->jB->Prop}(hn:∀ Q:V->jA->jB->Prop,Q (.bi id) objs nss->Ev W A env (.Name x p) objs nss Q)
  (h:Evs W A env es objs nss λxs o n=>Cl W A (.builtin id) xs o n Q) (hp:j0 es=true):Ev W A env (.Call (.Name x p) es [] pos) objs nss Q :=
 Qo (f:=.bi id) (hn _ ⟨rfl,by rintro _ rfl;exact zDL .nil h hp⟩)
set_option tactic.hygienic true in
theorem EntS.look {es:List DictEntry}{kvs:List (Str×V)}(h:EntS es kvs) (name:Str) (n:Nat) :
  (kvs.lookup name=none->lookIn name (dictOf es n)=some none)/\(∀ x,kvs.lookup name=some x->∃ u,lookIn name (dictOf es n)=some (some u)/\x.Is u):=by
 have nr:∀ {es kvs},EntS es kvs->es.any (·.refKey)=false:=by
  intro es kvs h;induction h with
  | nil=>rfl
  | cons k _ _ ih=>obtain ⟨t,ht⟩:=k;rw [List.any_cons,ih];simp [DictEntry.refKey,ht]
 have fd:∀ {es kvs},EntS es kvs->(kvs.lookup name=none->es.find? (·.key.isStr name)=none)/\(∀ x,kvs.lookup name=some x->∃ e,es.find? (·.key.isStr name)=some e/\x.Is e.val):=by
  intro es kvs h;induction h with
  | nil=>exact ⟨λ_=>rfl,λx e=>by contradiction⟩
  | cons k hv _ ih =>
   rename_i e es x v kvs _;obtain ⟨t,ht⟩:=k;have hs:e.key.isStr name=(name==x):=by rw [ht];simp [Value.isStr,BEq.comm]
   simp only [List.find?_cons,hs,List.lookup_cons];induction q:(name==x) using Bool.casesOn with
   | true =>
    refine ⟨λe=>?_,λy hy=>?_⟩
    ·contradiction
    ·obtain rfl:=Option.some.inj hy;exact ⟨_,rfl,hv⟩
   | false=>exact ih
 obtain ⟨f1,f2⟩:=fd h;unfold lookIn;simp only [dictOf,List.toList_toArray];refine ⟨λe=>?_,λx e=>?_⟩
 ·rw [f1 e];simp [nr h]
 ·obtain ⟨en,e1,e2⟩:=f2 x e;rw [e1];exact ⟨_,rfl,e2⟩
theorem EntS.put {es:List DictEntry}{kvs kvs':List (Str×V)}{name:Str}{x:V}{u:Value}{hsh:Int}{tk:Tok}(h:EntS es kvs) (hx:x.Is u) (g:SetL name x kvs kvs'):EntS (putL name hsh (.str name tk) u es) kvs':=by
 induction g generalizing es with
 | nil=>cases h;exact .cons ⟨tk,rfl⟩ hx .nil
 | head =>
  cases h with
  | cons k hv hr =>obtain ⟨t,ht⟩:=k;unfold putL;rw [if_pos (by rw [ht];simp [Value.isStr])];exact .cons ⟨t,ht⟩ hx hr
 | tail hne _ ih =>
  cases h with
  | cons k hv hr =>obtain ⟨t,ht⟩:=k;unfold putL;rw [if_neg (by rw [ht];simp only [Value.isStr];rw [hne];decide)];exact .cons ⟨t,ht⟩ hv (ih hr)
noncomputable def V.plain:V->Bool
 | .bi _=>false
 | _=>true
theorem V.handed {x:V}{v:Value}(hx:x.Is v) (hp:x.plain=true):handedIn v=true:=by cases x<;>first | (subst hx;rfl) | (obtain ⟨t,rfl⟩:=hx;rfl) | (contradiction)
theorem Z8 {h:Heap}{b C d:Addr}{kvs:List (Str×V)}(X:Cx W h objs nss) (hb:Has b (.inst C d) objs) (hd:Has d (.attrs kvs) objs):∃ es n,EntS es kvs/\InstAt h b (instObj C d) C (some (dictOf es n))/\h.get? d=some (dictOf es n):=by obtain ⟨_,eb,rfl⟩:=X.get hb;obtain ⟨_,ed,es,n,rfl,hes⟩:=X.get hd;exact ⟨es,n,hes,⟨eb,rfl,rfl,ed⟩,ed⟩
theorem zL2 {b C d:Addr}{kvs:List (Str×V)}{name:Str}{x:V}{attr:Option Value}{Q:V->jA->jB->Prop}(G:Gr W K mg mb) (hb:Has b (.inst C d) objs) (hd:Has d (.attrs kvs) objs) (g:GetL name x kvs)
  (hg:plainGet K C name=true) (hh:hasDictIn K C=true) (ha:findIn K (.ref C) name=some attr) (hn:noGet K attr=true) (h:Q x objs nss) (hx:x.plain=true):GetA W A (.ref b) name objs nss Q:=by
 rintro _ rfl hp tk X;obtain ⟨es,n,hes,I,ed⟩:=Z8 X hb hd;obtain ⟨u,e1,e2⟩:=(hes.look name n).2 x g.fn;have KX:K.In hp:=λa o e=>X.keep a o (G.kin a o e);exact get_value (s:=St W.s₀ hp tk) KX I (plainGet_of hg).1 (findObj_own hh ha hn e1) (V.handed e2 hx) ⟨hp,tk + 1,_,_,X,x,e2,h⟩
theorem zCC {value:Expr}{attr:Str}{pos:Pos}{Q:V->jA->jB->Prop}(h:Ev W A env value objs nss λy o n=>GetA W A y attr o n Q)
  (hb:∀ w,attributeBase value attr env w=w) (ht:∀ o r,letTemporaryGo value o r=pure ()):Ev W A env (.Attribute value attr pos) objs nss Q:=by
 unfold Ev;rw [arm_eval_Attribute,hb];refine Tr.bind (Tv.to h λu y o n hy q=>?_);refine Tr.bind (Tr.standAt (Tr.bind (Tr.holding (Tr.mono (q u hy) λr o n ⟨x,hx,q⟩=>?_))));rw [ht];exact Tr.bind (Tr.pure (Tr.pure ⟨x,hx,q⟩))
set_option tactic.hygienic true in
theorem YH {prog:Program}{w:World}{A:Around}{s:Shared}{E:Value->Shared->Prop}{dx:Addr}{od od':Obj}{name:Str}{v:Value}{Q:Unit->Shared->Prop}(D:s.heap.get? dx=some od) (hl:(lookIn name od).isSome=true)
  (e:Obj.putName name (PyData.keyHash w.params name) (.str name s.toks) v od=od') (hf:od'.isFreed=false)
  (h:∀ h',h'.get? dx=some od'->Heap.SameBut dx s.heap h'->Q () { s with heap:=h',toks:=s.toks + 1 }):wpAny (model prog w) A (nsSet dx name v) Q E s:=by
 have D':(s.heap.update dx (Obj.putName name (PyData.keyHash w.params name) (.str name s.toks) v)).get? dx=some od':=by rw [Heap.get?_update_self _ D (by rw [e];exact hf),e]
 obtain ⟨oc,odi,oda,osl⟩:=od;have K:∃ es n,oda = .dict es n/\aRefKeyMayBeTheName name es=false:=by
  cases oda with
  | dict es n =>
   refine ⟨es,n,rfl,?_⟩;rw [aRefKeyMayBeTheName_at,Bool.and_eq_false_iff,<- Array.any_toList,<- Array.any_toList];replace hl:(match es.toList.find? (λx:DictEntry=>x.key.isStr name) with | some e=>some (some e.val) | none=>if es.toList.any (λx:DictEntry=>x.refKey) then none else some (none:Option Value)).isSome=true:=hl;cases hq:es.toList.any (λx:DictEntry=>x.key.isStr name) with
   | true=>exact .inl rfl
   | false =>
    rw [List.find?_eq_none.mpr λx hx hk=>by rw [List.any_eq_true.mpr ⟨x,hx,hk⟩] at hq;cases hq] at hl;cases hr:es.toList.any (λx:DictEntry=>x.refKey) with
    | true=>rw [hr] at hl;cases hl
    | false=>exact .inr rfl
  | _=>cases hl
 obtain ⟨es,n,rfl,c⟩:=K;unfold nsSet;refine wpAny_bind (wpAny_bind (wpAny_askSetting (wpAny_pure (wpAny_bind (wpAny_mkText (wpAny_bind (wpAny_loadPart D ?_)))))));dsimp only;rw [c];exact wpAny_updatePart D (h _ D' (Heap.SameBut.update ..))
set_option tactic.hygienic true in
theorem zFE {prog:Program}{w:World}{A:Around}{s:Shared}{R:Result->Shared->Prop}{x C dx:Addr}{od od':Obj}{name:Str}{tk:Tok}{v:Value}{es:List DictEntry}{n:Nat}(X:K.In s.heap)
  (I:InstAt s.heap x (instObj C dx) C (some od)) (hp:plainOver K C=true) (ht:takerIn K C name=some none) (hh:(clsIn K C).any (·.hasDict)=true) (hl:(lookIn name od).isSome=true)
  (e:Obj.putName name (PyData.keyHash w.params name) (.str name s.toks) v od=od') (e':od'.data = .dict es.toArray n) (hz:es.length<=1000)
  (h:∀ h',h'.get? dx=some od'->Heap.SameBut dx s.heap h'->R (.ok (.ret .none)) { s with heap:=h',toks:=s.toks + 1 }) :
  codeAny (model prog w) A (.call (.builtin "object.__setattr__") ⟨[.ref x,.str name tk,v],[]⟩) R s:=by
 refine osa_open X I hp ht λb=>?_;obtain ⟨cd,hc,hd'⟩:=any_some hh;obtain ⟨hx,hcl,hn,D⟩:=I;refine wpAny_bind (wpAny_pure (wpAny_bind (wpAny_bind (wpAny_loadPart hx (wpAny_bind ((looks_clsIn X hc).here ?_))))));rw [hd'];refine wpAny_pure (a:=some dx) (wpAny_bind (wpAny_pure (wpAny_bind ?_)));refine YH D hl e (by obtain ⟨_,_,dd,_⟩:=od';subst e';rfl) λh' e1 e2=>?_;refine wpAny_bind (wpAny_lookBehind e1 (by rw [e'];exact pastItsLine_dict (by rw [List.size_toArray,sizeLine_eq];omega)) ?_);exact wpAny_pure (h _ e1 e2)
theorem YX (name:Str) (hsh:Int) (k v:Value):∀ es:List DictEntry,(putL name hsh k v es).length<=es.length + 1
 | []=>Nat.le_refl _
 | e::r=>by
  unfold putL;split
  ·exact Nat.le_succ _
  ·exact Nat.succ_le_succ (YX name hsh k v r)
theorem EntS.len {es:List DictEntry}{kvs:List (Str×V)}(h:EntS es kvs):es.length=kvs.length:=by induction h<;>simp_all
theorem zNm {b C d:Addr}{kvs kvs':List (Str×V)}{name:Str}{y:V}{Q:jA->jB->Prop}(G:Gr W K mg mb) (hb:Has b (.inst C d) objs) (P:Put d (.attrs kvs) (.attrs kvs') objs objs') (g:SetL name y kvs kvs')
  (hs:findIn K (.ref C) "__setattr__"=some (some (.builtin "object.__setattr__"))) (hp:plainOver K C=true) (ht:takerIn K C name=some none) (hh:hasDictIn K C=true) (h:Q objs' nss) (hz:kvs.length<=900) :
  SetA W A (.ref b) name y objs nss Q:=by
 rintro _ u rfl hu hp' tk X;obtain ⟨es,n,hes,I,ed⟩:=Z8 X hb (.of_mem P.mem);have KX:K.In hp':=λa o e=>X.keep a o (G.kin a o e);refine set_plain (s:=St W.s₀ hp' tk) KX I hs ?_;refine zFE (s:=St W.s₀ hp' (tk + 1)) KX I hp ht hh ?_ (putName_dict ..) rfl (Nat.le_trans (YX ..) (by have:=hes.len;omega)) λh' e1 e2=>?_
 ·induction q:kvs.lookup name using Option.casesOn with
  | none=>rw [(hes.look name n).1 q];rfl
  | some x=>obtain ⟨u,e,_⟩:=(hes.look name n).2 x q;rw [e];rfl
 ·exact ⟨h',_,_,_,X.put P (λc o hc e=>(e2.2 c hc).trans e) e1 ⟨_,_,rfl,hes.put hu g⟩,h⟩
theorem Qp {o:Expr}{name:Str}{apos pos:Pos}{es:List Expr}{pl:Sem Bool}{Q:V->jA->jB->Prop}
  (h:Ev W A env o objs nss λy o n=>∃ f,(∀ (v:Value) (hp:Heap) (tk:Nat) (Q':Value×List Value->Shared->Prop) (E:Value->Shared->Prop),y.Is v->Cx W hp o n->Q' (f,[v]) (St W.s₀ hp tk)->wpAny (model W.prog W.w) A (getMethod v name pl) Q' E (St W.s₀ hp tk)) /\
   ∀ v,y.Is v->Tv W A (callWith pos f [v] (backTo pos (starEach es env)) []) o n Q)
  (he:eval (.Call (.Attribute o name apos) es [] pos) env=(do
   let ov <- eval o env
   standAt apos.atName
   let (f,first) <- holding [ov] (getMethod ov name pl)
   callWith pos f first (backTo pos (starEach es env)) (backToKw pos (keywordEach [] env))):=by rfl) :
  Ev W A env (.Call (.Attribute o name apos) es [] pos) objs nss Q:=λhp tk C=>by
 refine methodCall_KW (pl:=pl) (Tv.go (h) C λv y h₁ t₁ o n hy C₁ qq=>?_) he;obtain ⟨f,hm,q⟩:=qq;exact hm v h₁ t₁ _ _ hy C₁ (q v hy h₁ t₁ C₁)
theorem zF {h:Heap}{l:Addr}{xs:List V}(X:Cx W h objs nss) (hl:Has l (.list xs) objs):∃ vs n,h.get? l=some { cls:=.type "list",dict:=none,data:=.seq vs.toArray n,slots:=#[] }/\All2 xs vs:=by obtain ⟨⟨c,dd,da,sl⟩,ho,hc,vs,n,hd,hx,hdd,hsl⟩:=X.get hl;simp only at hc hd hdd hsl;subst hc hd hdd hsl;exact ⟨vs,n,ho,hx⟩
theorem zFF {o e:Expr}{apos pos:Pos}{pl:Sem Bool}{Q:V->jA->jB->Prop}
  (h:Ev W A env o objs nss λy o n=>∃ l,y = .ref l/\(∃ xs,Has l (.list xs) o)/\Ev W A env e o n λx o n=>∃ xs o',xs.length<=1000/\Put l (.list xs) (.list (xs++[x])) o o'/\Q .none o' n)
  (hp:j0 [e]=true)
  (he:eval (.Call (.Attribute o "append" apos) [e] [] pos) env=(do
   let ov <- eval o env
   standAt apos.atName
   let (f,first) <- holding [ov] (getMethod ov "append" pl)
   callWith pos f first (backTo pos (starEach [e] env)) (backToKw pos (keywordEach [] env)))) :
  Ev W A env (.Call (.Attribute o "append" apos) [e] [] pos) objs nss Q:=by
 refine Qp (Ev.mono h ?_) he;rintro _ o n ⟨l,rfl,⟨xs,hl⟩,q⟩;refine ⟨.builtin "list.append",?_,?_⟩
 ·rintro _ hp tk Q' E rfl X hq;obtain ⟨vs,n,e1,hx⟩:=zF X hl;exact getMethod_list_append (s:=St W.s₀ hp tk) e1 rfl rfl hq
 ·rintro _ rfl;refine zDL (fx:=[.ref l]) (.cons rfl .nil) (Ev.mono q ?_) hp;rintro x o n ⟨ys,o',hz,P,q⟩ vv hvv h1 t1 X;obtain ⟨_,vx,rfl,rfl,hx⟩:=hvv.two;obtain ⟨vs,k,e1,hys⟩:=zF X (.of_mem P.mem);refine wpAny_list_append_plain (s:=St W.s₀ h1 t1) (items:=vs.toArray) ⟨k,e1⟩ (λh' hl' hs'=>?_) (by rw [List.size_toArray,hys.length];exact zC hz);obtain ⟨k',e'⟩:=hl';exact ⟨h',t1,_,_,X.put P (λc ob hc e=>(hs'.2 c hc).trans e) e' ⟨rfl,vs++[_],k',by simp,hys.append (.cons hx .nil),rfl,rfl⟩,.none,rfl,q⟩
theorem All2.snoc {xs:List V}{x:V}{vs:List Value}(h:All2 (xs++[x]) vs):∃ ws v,vs=ws++[v]/\All2 xs ws/\x.Is v:=by
 induction xs generalizing vs with
 | nil=>cases h with | cons hx hr=>cases hr;exact ⟨[],_,rfl,.nil,hx⟩
 | cons y ys ih =>
  cases h with
  | cons hy hr =>obtain ⟨ws,v,rfl,a,b⟩:=ih hr;exact ⟨_::ws,v,rfl,.cons hy a,b⟩
theorem zNn {o:Expr}{apos pos:Pos}{pl:Sem Bool}{Q:V->jA->jB->Prop}
  (h:Ev W A env o objs nss λy o n=>∃ l,y = .ref l/\∃ xs x o',xs.length<=900/\Put l (.list (xs++[x])) (.list xs) o o'/\Q x o' n)
  (he:eval (.Call (.Attribute o "pop" apos) [] [] pos) env=(do
   let ov <- eval o env
   standAt apos.atName
   let (f,first) <- holding [ov] (getMethod ov "pop" pl)
   callWith pos f first (backTo pos (starEach [] env)) (backToKw pos (keywordEach [] env))) ) :
  Ev W A env (.Call (.Attribute o "pop" apos) [] [] pos) objs nss Q:=by
 refine Qp (Ev.mono h ?_) he;rintro _ o n ⟨l,rfl,xs,x,o',hz,P,q⟩;refine ⟨.builtin "list.pop",?_,?_⟩
 ·rintro _ hp tk Q' E rfl X hq;obtain ⟨vs,n,e1,hx⟩:=zF X (.of_mem P.mem);exact getMethod_builtin (s:=St W.s₀ hp tk) ⟨_,e1,rfl⟩ PySem.F.plainAttrs_list PySem.F.slot_list_pop PySem.F.type_list_pop (λa e=>by cases e;exact ⟨_,e1,rfl⟩) hq
 ·rintro _ rfl;refine zDL (fx:=[.ref l]) (.cons rfl .nil) ?_ rfl;rintro vv hvv h1 t1 X;obtain ⟨_,rfl,rfl⟩:=hvv.one;obtain ⟨vs,k,e1,hys⟩:=zF X (.of_mem P.mem);obtain ⟨ws,v,rfl,hws,hv⟩:=hys.snoc;have hl:=hws.length;have hk:(ws++[v]).toArray.size - 1=ws.length:=by simp
  have hsz:(ws++[v]).toArray.size<=sizeLine:=by rw [show (ws++[v]).toArray.size=ws.length + 1 by simp];exact zC (by omega)
  refine call_meets (s:=St W.s₀ h1 t1) PySem.F.slot_list_pop ⟨_,e1,rfl⟩ PySem.F.entry_list_pop (PySem.F.args_list_pop_1 _) (PySem.MeetsSeq.list_pop_last l _ k v (by rw [hk];simp) hsz) ⟨e1,?_⟩;have hm:∃ k',Obj.mapSeq (λxs=>xs.eraseIdxIfInBounds ((ws++[v]).toArray.size - 1)) { cls:=.type "list",dict:=none,data:=.seq (ws++[v]).toArray k,slots:=#[] }={ cls:=.type "list",dict:=none,data:=.seq ws.toArray k',slots:=#[] }:=by
   rw [hk];have er:(ws++[v]).eraseIdx ws.length=ws:=by rw [List.eraseIdx_append_of_length_le (Nat.le_refl _)];simp
   simp [Obj.mapSeq,Array.eraseIdxIfInBounds,er]
  obtain ⟨k',hm⟩:=hm;have hfin:(h1.update l (Obj.mapSeq λxs=>xs.eraseIdxIfInBounds ((ws++[v]).toArray.size - 1))).get? l=some { cls:=.type "list",dict:=none,data:=.seq ws.toArray k',slots:=#[] }:=by rw [Heap.get?_update_self _ e1 (by rw [hm];rfl),hm]
  exact ⟨_,t1,_,_,X.put P (λc ob hc e=>((Heap.SameBut.update (h:=h1) (a:=l) (f:=Obj.mapSeq λxs=>xs.eraseIdxIfInBounds ((ws++[v]).toArray.size - 1))).2 c hc).trans e) hfin ⟨rfl,ws,k',rfl,hws,rfl,rfl⟩,x,hv,q⟩
end
section
variable {W:Wd} {A:Around} {env:Env} {objs objs':jA} {nss:jB} {names:List (Str×NameKind)} {L:Addr} {cells:List (Str×Addr)} {ll ll':jX} {K:Frag} {mg mb:Str->Option Value}
theorem zNo {l:Addr}{xs:List V}{Q:V->jA->jB->Prop}(hl:Has l (.list xs) objs) (hz:xs.length<=1000) (h:Q (.int xs.length) objs nss):Cl W A (.builtin "len") [.ref l] objs nss Q:=by intro vv hvv hp tk X;obtain ⟨_,rfl,rfl⟩:=hvv.one;obtain ⟨vs,k,e1,hys⟩:=zF X hl;refine call_len_list (s:=St W.s₀ hp tk) ⟨_,e1,rfl,k,rfl⟩ (by simp [hys.length];omega) ?_;exact ⟨hp,tk + 1 + 1,_,_,X,.int xs.length,⟨tk + 1,by simp [hys.length]⟩,h⟩
theorem zNp {a:Int}{Q:V->jA->jB->Prop}(h:Q (.int (if a < 0 then -a else a)) objs nss):Cl W A (.builtin "abs") [.int a] objs nss Q:=by intro vv hvv hp tk X;obtain ⟨_,rfl,t,rfl⟩:=hvv.one;exact call_abs_int (s:=St W.s₀ hp tk) λu t'=>⟨hp,t',_,_,X,.int _,⟨u,rfl⟩,h⟩
theorem zNq {a b:Int}{Q:V->jA->jB->Prop}(hh:A.handled=none) (h:Q (.int (if b < a then b else a)) objs nss):Cl W A (.builtin "min") [.int a,.int b] objs nss Q:=by
 intro vv hvv hp tk X;obtain ⟨_,_,rfl,⟨t,rfl⟩,⟨u,rfl⟩⟩:=hvv.two;refine min_two_ints (s:=St W.s₀ hp tk) hh λh' t' k=>⟨h',t',_,_,X.grown' k,.int _,?_,h⟩;split
 ·exact ⟨_,rfl⟩
 ·exact ⟨_,rfl⟩
theorem zNr {b:Bool}{Q:V->jA->jB->Prop}(h:Q (.int (if b then 1 else 0)) objs nss):Cl W A (.type "int") [.bool b] objs nss Q:=by intro vv hvv hp tk X;obtain ⟨_,rfl,rfl⟩:=hvv.one;exact call_int_bool (s:=St W.s₀ hp tk) ⟨hp,tk + 1,_,_,X,.int _,⟨tk,rfl⟩,h⟩
theorem Qq {n:Int}{Q:V->jA->jB->Prop}(h:∀ a,Q (.ref a) ((a,zU n)::objs) nss):Cl W A (.type "range") [.int n] objs nss Q:=by intro vv hvv hp tk X;obtain ⟨_,rfl,t,rfl⟩:=hvv.one;exact call_range_1 (s:=St W.s₀ hp tk) ⟨_,tk + 1 + 1,_,_,X.push (o:=zU n) ⟨tk,t,tk + 1,rfl⟩,.ref hp.objs.size,rfl,h _⟩
noncomputable def zV:List V->Option (List Int)
 | []=>some []
 | .int i::r=>(zV r).map (i::·)
 | _=>none
set_option tactic.hygienic true in
theorem All2.ints {xs:List V}{is:List Int}{vs:List Value}(h:All2 xs vs) (e:zV xs=some is):∃ ps:List (Int×Tok),vs=ps.map (λp=>.int p.1 p.2)/\ps.map (·.1)=is:=by
 induction h generalizing is with
 | nil=>obtain rfl:=Option.some.inj e;exact ⟨[],rfl,rfl⟩
 | cons hx _ ih =>
  rename_i x v xs vs _;induction x with
  | int i =>obtain ⟨t,rfl⟩:=hx;obtain ⟨is',e',rfl⟩:=Option.map_eq_some_iff.mp e;obtain ⟨ps,rfl,rfl⟩:=ih e';exact ⟨(i,t)::ps,rfl,rfl⟩
  | _=>contradiction
theorem zNs {l:Addr}{xs:List V}{is:List Int}{Q:V->jA->jB->Prop}(hh:A.handled=none) (hl:Has l (.list xs) objs) (hi:zV xs=some is) (h:Q (.int is.sum) objs nss):Cl W A (.builtin "sum") [.ref l] objs nss Q:=by
 intro vv hvv hp tk X;obtain ⟨_,rfl,rfl⟩:=hvv.one;obtain ⟨vs,k,e1,hys⟩:=zF X hl;obtain ⟨ps,rfl,rfl⟩:=hys.ints hi;have e2:(ps.map λp=>Value.int p.1 p.2).toArray=intItems ps.toArray:=by simp [intItems]
 refine sum_intListG (s:=St W.s₀ hp tk) (xs:=ps.toArray) hh ⟨_,e1,rfl,k,by rw [e2]⟩ λh' tk' t' kk=>?_;refine ⟨h',tk',_,_,X.grown' kk,.int (ps.map (·.1)).sum,⟨t',?_⟩,h⟩;rw [preSum_eq,List.take_of_length_le (by simp)]
theorem zL3 {l:Addr}{xs:List V}{Q:V->jA->jB->Prop}(hl:Has l (.list xs) objs) (h:∀ e I,Q (.ref e) ((e,Yr I)::(I,yA l)::objs) nss):Cl W A (.type "enumerate") [.ref l] objs nss Q:=by
 intro vv hvv hp tk X;obtain ⟨_,rfl,rfl⟩:=hvv.one;obtain ⟨vs,k,e1,hys⟩:=zF X hl;refine call_enumerate_list (s:=St W.s₀ hp tk) ⟨_,e1,rfl,k,rfl⟩ λh' a1 a2 a3 a4=>?_;obtain ⟨oI,eI,cI,dI⟩:=a2;have n0:=Cx.noneAtSize hp;have n1:hp.get? (hp.objs.size + 1)=none:=Heap.get?_none_of_le (Nat.le_succ _);have X1:Cx W h' ((hp.objs.size,yA l)::objs) nss:=X.alloc (λb o _ e=>a4 b o e) n0 eI ⟨cI,dI⟩;have nn:¬ Cx.Nm W ((hp.objs.size,yA l)::objs) nss (hp.objs.size + 1):=λq=>by
  rcases q with q | q
  ·rw [List.map_cons] at q;rcases List.mem_cons.mp q with q | q
   ·exact absurd q (Nat.succ_ne_self _)
   ·exact X.nmNe n1 (.inl q) rfl
  ·exact X.nmNe n1 (.inr q) rfl
 exact ⟨h',tk,_,_,X1.add (o:=Yr hp.objs.size) nn a1 rfl,.ref (hp.objs.size + 1),rfl,h _ _⟩
theorem Cx.addB {h:Heap}{a B:Nat}{l:List Addr}{o:Ob}{x:Obj}(X:Cx W h objs nss/\∀ c,Cx.Nm W objs nss c->c < B\/c ∈ l) (ha:B<=a) (hl:a ∉ l) (hx:h.get? a=some x) (ho:o.Is W a x) :
  Cx W h ((a,o)::objs) nss/\∀ c,Cx.Nm W ((a,o)::objs) nss c->c < B\/c ∈ a::l :=
 ⟨X.1.add (λq=>(X.2 a q).elim (λh=>absurd h (Nat.not_lt.mpr ha)) hl) hx ho,λc q=>q.elim (λq=>(List.mem_cons.mp q).elim (λe=>.inr (e▸.head _)) λq=>(X.2 c (.inl q)).imp id λq=>.tail _ q) λq=>(X.2 c (.inr q)).imp id λq=>.tail _ q⟩
theorem zNt {l1 l2:Addr}{xs ys:List V}{Q:V->jA->jB->Prop}(hl1:Has l1 (.list xs) objs) (hl2:Has l2 (.list ys) objs)
  (h:∀ z TI TO i1 i2,Q (.ref z) (Zq l1 l2 z TI TO i1 i2++objs) nss):Cl W A (.type "zip") [.ref l1,.ref l2] objs nss Q:=by
 intro vv hvv hp tk X;obtain ⟨_,_,rfl,rfl,rfl⟩:=hvv.two;obtain ⟨vs,k,e1,hys⟩:=zF X hl1;obtain ⟨ws,k',e2,hzs⟩:=zF X hl2;refine call_zip_2 (s:=St W.s₀ hp tk) (xs:=vs.toArray) (ys:=ws.toArray) ⟨_,e1,rfl,k,rfl⟩ ⟨_,e2,rfl,k',rfl⟩ λh' a1 a2 a3 a4 a5 a6 a7=>?_;obtain ⟨o4,e4,t4⟩:=a4;obtain ⟨o5,e5,t5⟩:=a5;have X1:=Cx.addB (o:=yA l2) (l:=[]) (B:=hp.objs.size) ⟨X.grown' a7,λc q=>.inl (X.lt q)⟩ (Nat.le_add_right _ 1) List.not_mem_nil e5 t5;have X2:=Cx.addB (o:=yA l1) X1 (Nat.le_refl _) (by simp) e4 t4;have X3:=Cx.addB (o:=Qk .none .none) X2 (Nat.le_add_right _ 3) (by simp) a3 rfl;have X4:=Cx.addB (o:=Qk (.ref hp.objs.size) (.ref (hp.objs.size + 1))) X3 (Nat.le_add_right _ 2) (by simp) a2 rfl;have X5:=Cx.addB (o:=zJe (hp.objs.size + 2) (hp.objs.size + 3)) X4 (Nat.le_add_right _ 4) (by simp) a1 rfl;exact ⟨h',tk,_,_,X5.1,.ref (hp.objs.size + 4),rfl,h _ _ _ _ _⟩
theorem zHx {C fI:Addr}{xs:List V}{k:Nat}{Q:V->jA->jB->Prop}(G:Gr W K mg mb) (R:Ar A (k + 1)) (hm:makesIn K C=true) (hi:findIn K (.ref C) "__init__"=some (some (.ref fI))) (hf:typeIn K (.ref fI)=some (.type "function"))
  (h:∀ A' x d,Ar A' k->Cc W A' (.ref fI) (.ref x::xs) ((x,.inst C d)::(d,.attrs [])::objs) nss λr o n=>r = .none/\Q (.ref x) o n):Cc W A (.ref C) xs objs nss Q:=by
 intro vs hvs hp tk X;have KX:K.In hp:=λa o e=>X.keep a o (G.kin a o e);refine make_core (makes_of KX hm) (looks_findIn KX hi) (λself=>bind_fn KX self hf) (.inl rfl) ?_;have X1:Cx W (hp.push emptyDict) ((hp.objs.size,.attrs [])::objs) nss:=X.push (o:=.attrs []) ⟨[],0,rfl,.nil⟩;have X2:=X1.push (x:=instObj C hp.objs.size) (o:=.inst C hp.objs.size) rfl;rw [Heap.size_push] at X2;have R':Ar (A.under (.builtin "type.__call__" ⟨.ref C::vs,[]⟩)) k:=by
  have w0:(Code.builtin "type.__call__" ⟨.ref C::vs,[]⟩).weight=1:=rfl;have c0:(Code.builtin "type.__call__" ⟨.ref C::vs,[]⟩).cUnits=1:=rfl;refine ⟨R.handled,?_,?_⟩
  ·show A.depth + (Code.builtin "type.__call__" ⟨.ref C::vs,[]⟩).weight + k < _;have:=R.depth;rw [w0];omega
  ·show A.units + (Code.builtin "type.__call__" ⟨.ref C::vs,[]⟩).cUnits + 8 * k < _;have:=R.units;rw [c0];omega
 refine codeAny_mono (h _ _ _ R' (.ref (hp.objs.size + 1)::vs) (.cons rfl hvs) _ tk X2) λr s' hr=>?_;induction hr with
 | mk v h' t' o n C' x hx q =>obtain ⟨rfl,q⟩:=q;exact ⟨hx,_,h',t',o,n,C',.ref (hp.objs.size + 1),rfl,q⟩
theorem zFG {x:V}{Q:V->jA->jB->Prop}(hx:(match x with | .none | .int _ | .bool _ | .str _ | .ref _=>true | _=>false)=true) (h:Q (.bool (match x with | .none=>true | _=>false)) objs nss):Cmp W A .Is x .none objs nss Q:=by
 rintro v _ hv rfl hp tk C;induction x with
 | none=>subst hv;exact wpAny_is_plain (by decide) ⟨hp,tk,_,_,C,.bool true,rfl,h⟩
 | int i=>obtain ⟨t,rfl⟩:=hv;exact is_int_none ⟨hp,tk,_,_,C,.bool false,rfl,h⟩
 | bool b=>subst hv;exact is_bool_none ⟨hp,tk,_,_,C,.bool false,rfl,h⟩
 | str b=>obtain ⟨t,rfl⟩:=hv;exact is_str_none ⟨hp,tk,_,_,C,.bool false,rfl,h⟩
 | ref b=>subst hv;exact is_ref_none ⟨hp,tk,_,_,C,.bool false,rfl,h⟩
 | bi _=>contradiction
 | ty _=>contradiction
mutual
inductive Rd (o:jA):V->PyData->Prop
 | none:Rd o .none .none
 | bool (b):Rd o (.bool b) (.bool b)
 | int (i):Rd o (.int i) (.int i)
 | list {l xs ds}:Has l (.list xs) o->RdL o xs ds->Rd o (.ref l) (.list ds)
 | tup {l xs ds}:Has l (.tup xs) o->RdL o xs ds->Rd o (.ref l) (.tuple ds)
inductive RdL (o:jA):List V->List PyData->Prop
 | nil:RdL o [] []
 | cons {x xs d ds}:Rd o x d->RdL o xs ds->RdL o (x::xs) (d::ds)
end
theorem Rd.reads {h:Heap}(X:Cx W h objs nss) {x:V}{d:PyData}{v:Value}(r:Rd objs x d) (hv:x.Is v):∃ as,Reads h v d as :=
 Rd.rec (motive_1:=λx d _=>∀ v,V.Is x v->∃ as,Reads h v d as) (motive_2:=λxs ds _=>∀ vs,All2 xs vs->∃ as,ReadsAll h vs ds as)
  (λv hv=>by subst hv;exact ⟨_,.none⟩)
  (λb v hv=>by subst hv;exact ⟨_,.bool b⟩)
  (λi v hv=>by obtain ⟨t,rfl⟩:=hv;exact ⟨_,.int i t⟩)
  (λhl _ ih v hv=>by subst hv;obtain ⟨vs,k,e,hx⟩:=zF X hl;exact (ih vs hx).elim λas r=>⟨_,.list e rfl rfl r⟩)
  (λhl _ ih v hv=>by subst hv;obtain ⟨o,ho,hc,vs,n,hd,hx⟩:=X.get hl;exact (ih vs hx).elim λas r=>⟨_,.tuple ho hc hd r⟩)
  (λvs hx=>by cases hx;exact ⟨_,.nil⟩)
  (λ_ _ ih1 ih2 vs hx=>by
   cases hx with
   | cons a b=>exact (ih1 _ a).elim λas r=>(ih2 _ b).elim λbs q=>⟨_,.cons r q⟩)
  r v hv
theorem zFH {x y:V}{dx dy:PyData}{k:Nat}{Q:V->jA->jB->Prop}(R:Ar A k) (hx:Rd objs x dx) (hy:Rd objs y dy) (h:Q (.bool (PyData.eqv dx dy)) objs nss) (lx:dx.canLay0=true) (ly:dy.canLay0=true) (hd:dx.depth<=8) (hk:1<=k):Cmp W A .Eq x y objs nss Q:=by intro a b ha hb hp tk X;obtain ⟨as,ra⟩:=hx.reads X ha;obtain ⟨bs,rb⟩:=hy.reads X hb;exact SeqAt.compareEq_reads (s:=St W.s₀ hp tk) ra rb lx ly (by have:=R.units;have:min dx.depth dy.depth<=dx.depth:=Nat.min_le_left _ _;omega) ⟨hp,tk,_,_,X,.bool _,rfl,h⟩
theorem zNu {x y:V}{dx dy:PyData}{k:Nat}{Q:V->jA->jB->Prop}(R:Ar A k) (hx:Rd objs x dx) (hy:Rd objs y dy) (h:Q (.bool (!PyData.eqv dx dy)) objs nss) (lx:dx.canLay0=true) (ly:dy.canLay0=true) (hd:dx.depth<=8) (hk:1<=k):Cmp W A .NotEq x y objs nss Q:=by intro a b ha hb hp tk X;obtain ⟨as,ra⟩:=hx.reads X ha;obtain ⟨bs,rb⟩:=hy.reads X hb;exact SeqAt.compareNe_reads (s:=St W.s₀ hp tk) ra rb lx ly (by have:=R.units;have:min dx.depth dy.depth<=dx.depth:=Nat.min_le_left _ _;omega) ⟨hp,tk,_,_,X,.bool _,rfl,h⟩
set_option tactic.hygienic true in
theorem Kvs.has {K:Type} [DecidableEq K] {xs:List (K×V)}{vs:List (K×Value)}(h:Kvs xs vs) (k:K):(valueAt vs k).isSome=xs.any (λp=>decide (p.1=k)):=by
 induction h with
 | nil=>rfl
 | cons _ _ ih =>
  rename_i k' x v xs vs _ _;unfold valueAt at ih ⊢;rw [List.any_cons,<- ih,List.find?_cons];by_cases q:k'=k
  ·simp [q]
  ·simp [q]
theorem zNv {d:Addr}{k:Int}{kvs:List (Int×V)}{Q:V->jA->jB->Prop}(hd:Has d (.idict kvs) objs) (h:Q (.bool (kvs.any λp=>decide (p.1=k))) objs nss):Cmp W A .In (.int k) (.ref d) objs nss Q:=by rintro _ _ ⟨t,rfl⟩ rfl hp tk C;obtain ⟨o,ho,hlow,l,hl,hk⟩:=C.get hd;have hm:=(Heap.dictOf_iff.mpr ⟨o,ho,hl⟩).mapOf;refine wpAny_in_of (s:=St W.s₀ hp tk) (knd:=PySem.intKind W.prog W.w) (k:=k) (by simp [PySem.intKind,Value.isInt]) hlow hm ?_;rw [hk.has];exact ⟨hp,tk + 1,_,_,C,.bool _,rfl,h⟩
theorem zNw {l:Addr}{k:Int}{xs:List V}{is:List Int}{Q:V->jA->jB->Prop}(hl:Has l (.tup xs) objs) (hi:zV xs=some is) (h:Q (.bool (is.any (·==k))) objs nss):Cmp W A .In (.int k) (.ref l) objs nss Q:=by
 rintro _ _ ⟨t,rfl⟩ rfl hp tk C;obtain ⟨o,ho,hc,vs,n,hd,hx⟩:=C.get hl;obtain ⟨ps,rfl,rfl⟩:=hx.ints hi;have ev:∀ y ∈ (ps.map λp=>Value.int p.1 p.2).toArray,SeqAt.EqAt A.in1 (St W.s₀ hp tk) y (.int k t) (match y with | .int i _=>i==k | _=>false):=λy hy=>by obtain ⟨p,_,rfl⟩:=List.mem_map.mp (by simpa using hy:y ∈ ps.map λp=>Value.int p.1 p.2);exact SeqAt.EqAt.int_int _ _ _ _
 refine SeqAt.in_tupleAt (s:=St W.s₀ hp tk) _ ⟨o,ho,hc,n,hd⟩ ev ⟨hp,tk,_,_,C,.bool _,rfl,?_⟩;have:(ps.map λp=>Value.int p.1 p.2).toArray.any (λy=>match y with | .int i _=>i==k | _=>false)=(ps.map (·.1)).any (·==k):=by simp [List.any_map];rfl
 rw [this];exact h
noncomputable def AsL (W:Wd) (A:Around) (env:Env):List Expr->List V->jA->jB->(jA->jB->Prop)->Prop
 | [],[],o,n,Q=>Q o n
 | t::ts,x::xs,o,n,Q=>As W A env t x o n λo n=>AsL W A env ts xs o n Q
 | _,_,_,_,_=>False
theorem zFI (t:Expr):cond (noStar t) (∀ (ts:List Expr) (env:Env),assignEach (t::ts) env=(false,assign t env)::assignEach ts env) True:=by induction t using Expr.casesOn<;>first | exact λ_ _=>rfl | exact trivial
theorem Yt:∀ {ts:List Expr}{xs:List V}{vs:List Value}{objs:jA}{nss:jB}{Q:jA->jB->Prop},j0 ts=true->All2 xs vs->AsL W A env ts xs objs nss Q->Tr W A (assignInOrder ((assignEach ts env).map (·.2)) vs) objs nss λ_=>Q:=by
 intro ts;induction ts with
 | nil =>
  intro xs vs objs nss Q _ hx h;induction hx with
  | nil=>exact Tr.pure h
  | cons=>exact False.elim h
 | cons t ts ih =>
  intro xs vs objs nss Q hp hx h;induction hx with
  | nil=>exact False.elim h
  | cons hx hxs =>rw [Vr (zFI t) (jP hp).1];exact Tr.bind (Tr.holding (Tr.mono (h _ hx) λ_ o n q=>ih (jP hp).2 hxs q))
theorem JZ:∀ {ts:List Expr},j0 ts=true->(assignEach ts env).length=ts.length/\(assignEach ts env).findIdx? (·.1)=none
 | [],_=>⟨rfl,rfl⟩
 | t::ts,hp=>by obtain ⟨a,b⟩:=JZ (jP hp).2;rw [Vr (zFI t) (jP hp).1];exact ⟨congrArg Nat.succ a,by rw [List.findIdx?_cons,b];rfl⟩
theorem zHy {ts:List Expr}{k:Nat}{pos:Pos}{T:Addr}{xs:List V}{Q:jA->jB->Prop}(hh:A.handled=none) (hT:Has T (.tup xs) objs) (hl:ts.length=xs.length) (h:AsL W A env ts xs objs nss Q) (hp:j0 ts=true):As W A env (.Tuple ts k pos) (.ref T) objs nss Q:=by rintro _ rfl h₀ tk C;obtain ⟨o,ho,hc,vs,n,hd,hx⟩:=C.get hT;obtain ⟨a1,a2⟩:=JZ (env:=env) hp;refine wpAny_assign_Tuple (s:=St W.s₀ h₀ tk) (items:=vs.toArray) hh ⟨o,ho,hc,n,hd⟩ (by rw [a1,hl];simp [hx.length]) a2 λh' he=>?_;have C':Cx W h' objs nss:=C.grown' λb o e=>he b o (Nat.ne_of_lt (Heap.lt_size e)) e;exact Yt hp (by simpa using hx) h h' tk C'
noncomputable def swE (k:ScopeKind) (names:List (Str×NameKind)):Env:={ scope:={ kind:=k,names:=names,isGenerator:=false,isCoroutine:=false },locals:=0,globals:=0,cells:=[] }
noncomputable def swV (names:List (Str×NameKind)) (ts vs:List Expr):Sem (Option (List Str)):=swappedStores [.Tuple ts 0 ⟨0,0,0,0⟩] (.Tuple vs 0 ⟨0,0,0,0⟩) (swE .function names)
theorem Zt {ts vs:List Expr}{k k':Nat}{p p':Pos}(he:EnvAt env names L cells):swappedStores [.Tuple ts k p] (.Tuple vs k' p') env=swV names ts vs :=
 (show swappedStores [.Tuple ts k p] (.Tuple vs k' p') env=swappedStores [.Tuple ts 0 ⟨0,0,0,0⟩] (.Tuple vs 0 ⟨0,0,0,0⟩) (swE env.scope.kind env.scope.names) from rfl).trans (by rw [he.kind,he.names];rfl)
theorem zFJ {ts vs:List Expr}{k k':Nat}{p p' pos:Pos}{ns:List Str}{Q:Fl->jA->jB->Prop}(he:EnvAt env names L cells) (hh:A.handled=none) (hsw:swV names ts vs=pure (some ns))
  (h:Evs W A env vs objs nss λxs o n=>xs.length=ns.length/\∀ T,BindQ W A env ns.reverse xs.reverse ((T,.tup xs)::o) n (Q .next)) (hp:j0 vs=true) (hz:vs.length<=1000) :
  Ex W A env (.Assign [.Tuple ts k p] (.Tuple vs k' p') pos) objs nss Q:=by
 unfold Ex;rw [arm_exec_Assign,Zt he,hsw,show swapsWithSole [.Tuple ts k p] (.Tuple vs k' p') pos.line env=pure false from rfl];refine Tr.bind (Tr.standAt (Tr.bind (Tr.pure ?_)));simp only [Bool.false_eq_true,if_false];have hv:Ev W A env (.Tuple vs k' p') objs nss λx o n=>∃ T xs,x = .ref T/\Has T (.tup xs) o/\xs.length=ns.length/\BindQ W A env ns.reverse xs.reverse o n (Q .next) :=
  zDF (Evs.mono h λxs o n q T=>⟨T,xs,rfl,.head,q.1,q.2 T⟩) hp hz
 refine Tr.bind (Tr.mono hv λv o n ⟨x,hx,T,xs,e,hT,hl,q⟩=>?_);subst e;subst hx;refine Tr.bind (Tr.pure ?_);unfold assignStores;refine Tr.bind (Tr.rule ?_);intro h₁ t₁ C;obtain ⟨ob,ho,hc,us,m,hd,hus⟩:=C.get hT;have hlen:ns.length=us.toArray.size:=by rw [<- hl];simp [hus.length]
 rw [hlen];refine wpAny_bind (wpAny_unpackItems_tuple (s:=St W.s₀ h₁ t₁) hh ⟨ob,ho,hc,m,hd⟩ λh' hx'=>?_);have C':Cx W h' o n:=C.grown' λb o e=>hx' b o (Nat.ne_of_lt (Heap.lt_size e)) e;have key:∀ (ns:List Str) (xs:List V) (us:List Value) (o:jA) (n:jB) (Q:jA->jB->Prop),All2 xs us->BindQ W A env ns xs o n Q->Tr W A (assignInOrder (ns.map λn=>bindName env n) us) o n λ_=>Q:=by
  intro ns;induction ns with
  | nil=>intro xs us o n Q _ hq;cases us<;>exact Tr.pure hq
  | cons y r ih =>
   intro xs us o n Q hxs hq;induction hxs with
   | nil=>exact hq.elim
   | cons hx hxs =>refine Tr.bind (Tr.holding (Tr.mono (Q:=λ_ o n=>BindQ W A env r _ o n Q) (λhp tk C=>wpAny_bindName (hq _ hx hp tk C)) λ_ o n q=>ih _ _ _ _ _ hxs q))
 have rv:All2 xs.reverse us.reverse:=by
  have:∀ {xs:List V} {us:List Value},All2 xs us->All2 xs.reverse us.reverse:=by
   intro xs us h;induction h with
   | nil=>exact .nil
   | cons a _ ih=>rw [List.reverse_cons,List.reverse_cons];exact ih.append (.cons a .nil)
  exact this hus
 refine wpAny_bind (Tr.go (key _ _ _ _ _ _ (by simpa using rv) q) C' λ_ h₂ t₂ o₂ n₂ C₂ q=>?_);exact wpAny_pure ⟨h₂,t₂,o₂,n₂,C₂,.next,rfl,q⟩
theorem zL4 {ts vs:List Expr}{k k':Nat}{p p' pos:Pos}{Q:Fl->jA->jB->Prop}(he:EnvAt env names L cells) (hsw:swV names ts vs=pure none)
  (h:Ev W A env (.Tuple vs k' p') objs nss λx o n=>As W A env (.Tuple ts k p) x o n (Q .next)):Ex W A env (.Assign [.Tuple ts k p] (.Tuple vs k' p') pos) objs nss Q :=
 zY h rfl ((Zt he).trans hsw) rfl
theorem zCD {e:Expr}{pos:Pos}{Q:Fl->jA->jB->Prop}(he:EnvAt env names L cells) (h:Ev W A env e objs nss λ_ o n=>Q .next o n) (hs:swapsWith e none pos.line env=pure false):Ex W A env (.Expr e pos) objs nss Q:=λhp tk C=>by refine wpAny_Expr_any (Tv.go (h) C λv x h₁ t₁ o n hx C₁ q=>?_) (by unfold interactive;rw [he.kind];rfl) hs;exact ⟨h₁,t₁,o,n,C₁,.next,rfl,q⟩
end
theorem Zu {a b:Int}(h:a.natAbs < 2 ^ 64):IntMulOk a b:=IntMulOk.of_left (by
 unfold Builtin.Int.intBits;split
 ·exact Nat.zero_le _
 ·rename_i q;have:a.natAbs≠0:=by simpa using q
  exact Nat.succ_le_of_lt ((Nat.log2_lt this).mpr h))
theorem J0 {a b:Int}(h:b.natAbs < 2 ^ 64):IntMulOk a b:=IntMulOk.of_right (by
 unfold Builtin.Int.intBits;split
 ·exact Nat.zero_le _
 ·rename_i q;have:b.natAbs≠0:=by simpa using q
  exact Nat.succ_le_of_lt ((Nat.log2_lt this).mpr h))
theorem Sel.weak {p:Addr×Ob}{r l:jA}(S:Sel r l):Sel r (p::l):=by
 induction S generalizing p with
 | nil=>exact .nil
 | cons B _ ih=>exact .cons (.tail B) (ih)
theorem Sel.refl:∀ l:jA,Sel l l
 | []=>.nil
 | (_,_)::r=>.cons .head (Sel.refl r)
section
variable {W:Wd} {A:Around} {env:Env} {objs objs':jA} {nss:jB} {K:Frag} {mg mb:Str->Option Value}
theorem PopNs.all {P:jA->jB->Prop}{C:Addr}{ll:jX}(h:P objs nss):PopNs C P objs ((C,ll)::nss):=⟨ll,nss,objs,Sel.refl _,h⟩
theorem PopNs.some {P:jA->jB->Prop}{C:Addr}{ll:jX}(s:Sel objs' objs) (h:P objs' nss):PopNs C P objs ((C,ll)::nss):=⟨ll,nss,objs',s,h⟩
theorem Qr {Q:Bool->jA->jB->Prop}(h:Q true objs nss):Ift W A env [] objs nss Q:=h
theorem LayQ.none {names:List (Str×NameKind)}{cs:List (Str×Addr)}{Q:List (Str×Addr)->jA->Prop}(hn:names.all (λx=>!(x.2==.cell))=true) (h:Q cs objs):LayQ names cs objs Q:=by
 induction names generalizing cs objs with
 | nil=>exact h
 | cons x r ih =>obtain ⟨n,k⟩:=x;rw [List.all_cons,Bool.and_eq_true] at hn;unfold LayQ;rw [if_neg (by intro q;rw [q] at hn;exact absurd hn.1 (by decide))];exact ih hn.2 h
noncomputable def yx (K:Frag) (mg mb:Str->Option Value) (A:Around) (cn:List (Str×NameKind)) (cs:List (Str×Addr)) (elt target:Expr) (ifs:List Expr) (need:jA->Prop) (Q:List V->jA->jB->Prop):List V->List V->jA->jB->Prop
 | [],ys,o,n=>need o/\Q ys.reverse o n
 | x::r,ys,o,n=>need o/\∀ W',Gr W' K mg mb->∀ cenv C,EnvAt cenv cn C cs->As W' A cenv target x o ((C,[])::n) λo n=>Ift W' A cenv ifs o n λb o n =>
   Br b (Ev W' A cenv elt o n λy=>PopNs C (yx K mg mb A cn cs elt target ifs need Q r (y::ys))) (PopNs C (yx K mg mb A cn cs elt target ifs need Q r ys) o n)
section
variable {cn names:List (Str×NameKind)} {cl cs:List (Str×Addr)} {elt target:Expr} {ifs:List Expr} {Q:List V->jA->jB->Prop}
theorem zFK {need:jA->Prop}{acc ys:List V}(hn:need objs) (e:acc.reverse=ys) (h:Q ys objs nss):yx K mg mb A cn cs elt target ifs need Q [] acc objs nss:=⟨hn,by rw [e];exact h⟩
theorem CompQ.list {l:Addr}{xs:List V}(hh:A.handled=none) (hl:Has l (.list xs) objs) (hz:xs.length<=1000) (hn:cn.all (λx=>!(x.2==.cell))=true)
  (h:yx K mg mb A (y4 cn names) cl elt target ifs (λo=>Has l (.list xs) o) Q xs [] objs nss):CompQ W K mg mb A cn names cl elt target ifs (.ref l) objs nss Q:=by
 refine ⟨_,_,_,_,ItOf.list hh hl,hz,LayQ.none hn ⟨λi ys o n=>yx K mg mb A (y4 cn names) cl elt target ifs (λo=>Has l (.list xs) o) Q (xs.drop i) ys.reverse o n,by simpa using h,?_,?_⟩⟩
 ·intro W' i ys o n G hi hI;rw [List.drop_eq_getElem_cons hi] at hI;refine ⟨hI.1,?_⟩;rintro o' x ⟨rfl,hx⟩ cenv C he;rw [List.getElem?_eq_getElem hi] at hx;obtain rfl:=Option.some.inj hx;simpa using hI.2 W' G cenv C he
 ·intro ys o n hI;rw [List.drop_length] at hI;exact ⟨hI.1,by simpa using hI.2⟩
theorem CompQ.listC {l:Addr}{xs:List V}(hh:A.handled=none) (hl:Has l (.list xs) objs) (hz:xs.length<=1000)
  (h:LayQ cn cl objs λcs o=>yx K mg mb A (y4 cn names) cs elt target ifs (λo=>Has l (.list xs) o) Q xs [] o nss):CompQ W K mg mb A cn names cl elt target ifs (.ref l) objs nss Q:=by
 refine ⟨_,_,_,_,ItOf.list hh hl,hz,LayQ.mono (λcs o h=>⟨λi ys o n=>yx K mg mb A (y4 cn names) cs elt target ifs (λo=>Has l (.list xs) o) Q (xs.drop i) ys.reverse o n,by simpa using h,?_,?_⟩) h⟩
 ·intro W' i ys o n G hi hI;rw [List.drop_eq_getElem_cons hi] at hI;refine ⟨hI.1,?_⟩;rintro o' x ⟨rfl,hx⟩ cenv C he;rw [List.getElem?_eq_getElem hi] at hx;obtain rfl:=Option.some.inj hx;simpa using hI.2 W' G cenv C he
 ·intro ys o n hI;rw [List.drop_length] at hI;exact ⟨hI.1,by simpa using hI.2⟩
theorem CompQ.enum {e I l:Addr}{xs:List V}{elts:List Expr}{x1:Nat}{pos:Pos}{o1 o2:jA}(Inv:Nat->List V->jA->jB->Prop) (hh:A.handled=none) (b1:Bring e (Yr I) objs o1) (b2:Bring I (yA l) o1 o2) (hz:xs.length<=1000)
  (hn:cn.all (λx=>!(x.2==.cell))=true) (h0:Inv 0 [] o2 nss)
  (turn:∀ W' i ys o n T y,Gr W' K mg mb->xs[i]?=some y->Inv i ys o n->Has l (.list xs) o/\∀ cenv C,EnvAt cenv (y4 cn names) C cl->As W' A cenv (.Tuple elts x1 pos) (.ref T) ((T,.tup [.int i,y])::o) ((C,[])::n) λo n=>Ift W' A cenv ifs o n λb o n =>
   Br b (Ev W' A cenv elt o n λy=>PopNs C (Inv (i + 1) (ys++[y]))) (PopNs C (Inv (i + 1) ys) o n))
  (last:∀ ys o n,Inv xs.length ys o n->Has l (.list xs) o/\Q ys o n):CompQ W K mg mb A cn names cl elt (.Tuple elts x1 pos) ifs (.ref e) objs nss Q:=by
 refine ⟨_,_,_,_,ItOf.enum hh b1 b2,hz,LayQ.none hn ⟨Inv,h0,?_,last⟩⟩;intro W' i ys o n G hi hI;refine ⟨(turn W' i ys o n 0 xs[i] G (by simp [hi]) hI).1,?_⟩;rintro o' x ⟨T,y,rfl,rfl,hy⟩ cenv C he;exact (turn W' i ys o n T y G hy hI).2 cenv C he
end
end
section
variable {W:Wd} {A:Around} {env:Env} {objs objs':jA} {nss:jB} {K:Frag} {mg mb:Str->Option Value}
theorem Tr.drop {α:Type}{t:Sem α}{Q:α->jA->jB->Prop}(s:Sel objs' objs) (h:Tr W A t objs' nss Q):Tr W A t objs nss Q:=λhp tk C=>h hp tk (C.sel s)
theorem Es.drop {sts:List Stmt}{Q:Fl->jA->jB->Prop}(s:Sel objs' objs) (h:Es W A env sts objs' nss Q):Es W A env sts objs nss Q:=Tr.drop s h
theorem Cx.locs {h:Heap}{L:Addr}{ll ll':jX}(s:∀ y x,ll'.lookup y=some x->ll.lookup y=some x) (C:Cx W h objs ((L,ll)::nss)):Cx W h objs ((L,ll')::nss) where
 keep:=C.keep
 obj:=C.obj
 ns:=λp hp=>by
  rcases List.mem_cons.mp hp with rfl | hp
  ·obtain ⟨⟨m,e,i⟩,n⟩:=C.ns _ (List.mem_cons_self ..);exact ⟨⟨m,e,λy x q=>i y x (s y x q)⟩,n⟩
  ·exact C.ns p (List.mem_cons_of_mem _ hp)
 nd:=C.nd
theorem As.locs {t:Expr}{v:V}{L:Addr}{ll ll':jX}{Q:jA->jB->Prop}(s:∀ y x,ll'.lookup y=some x->ll.lookup y=some x) (h:As W A env t v objs ((L,ll')::nss) Q):As W A env t v objs ((L,ll)::nss) Q:=λu hu hp tk C=>h u hu hp tk (C.locs s)
theorem Es.locs {sts:List Stmt}{L:Addr}{ll ll':jX}{Q:Fl->jA->jB->Prop}(s:∀ y x,ll'.lookup y=some x->ll.lookup y=some x) (h:Es W A env sts objs ((L,ll')::nss) Q):Es W A env sts objs ((L,ll)::nss) Q:=λhp tk C=>h hp tk (C.locs s)
end
noncomputable def CTurnsE (K:Frag) (mg mb:Str->Option Value) (A:Around) (cn:List (Str×NameKind)) (cs:List (Str×Addr)) (elt target:Expr) (ifs:List Expr) (need:jA->Prop) (Q:List V->jA->jB->Prop):List (Nat×V)->List V->jA->jB->Prop
 | [],ys,o,n=>need o/\Q ys.reverse o n
 | x::r,ys,o,n=>need o/\∀ W',Gr W' K mg mb->∀ T cenv C,EnvAt cenv cn C cs->As W' A cenv target (.ref T) ((T,.tup [.int x.1,x.2])::o) ((C,[])::n) λo n=>Ift W' A cenv ifs o n λb o n =>
   Br b (Ev W' A cenv elt o n λy=>PopNs C (CTurnsE K mg mb A cn cs elt target ifs need Q r (y::ys))) (PopNs C (CTurnsE K mg mb A cn cs elt target ifs need Q r ys) o n)
section
variable {W:Wd} {A:Around} {env:Env} {objs objs':jA} {nss:jB} {K:Frag} {mg mb:Str->Option Value}
variable {cn names:List (Str×NameKind)} {cl cs:List (Str×Addr)} {elt target:Expr} {ifs:List Expr} {Q:List V->jA->jB->Prop}
theorem CompQ.enumL {e I l:Addr}{xs:List V}{elts:List Expr}{x1:Nat}{pos:Pos}{o1 o2:jA}{zs:List (Nat×V)}(hh:A.handled=none) (b1:Bring e (Yr I) objs o1) (b2:Bring I (yA l) o1 o2) (hz:xs.length<=1000) (hlen:zs.length=xs.length)
  (hzs:∀ (i:Nat) (y:V),xs[i]?=some y->zs[i]?=some (i,y)) (hn:cn.all (λx=>!(x.2==.cell))=true)
  (h:CTurnsE K mg mb A (y4 cn names) cl elt (.Tuple elts x1 pos) ifs (λo=>Has l (.list xs) o) Q zs [] o2 nss):CompQ W K mg mb A cn names cl elt (.Tuple elts x1 pos) ifs (.ref e) objs nss Q:=by
 refine CompQ.enum (l:=l) (xs:=xs) (λi ys o n=>CTurnsE K mg mb A (y4 cn names) cl elt (.Tuple elts x1 pos) ifs (λo=>Has l (.list xs) o) Q (zs.drop i) ys.reverse o n) hh b1 b2 hz hn (by simpa using h) ?_ ?_
 ·intro W' i ys o n T y G hy hI;have hi:i < zs.length:=by have:=(List.getElem?_eq_some_iff.mp hy).1;omega
  have hq:=hzs i y hy;rw [List.getElem?_eq_getElem hi] at hq;induction hq':zs[i] with
  | mk p q =>
  rw [hq'] at hq;cases hq
  rw [List.drop_eq_getElem_cons hi,hq'] at hI;refine ⟨hI.1,?_⟩;intro cenv C he;have:=hI.2 W' G T cenv C he;simpa using this
 ·intro ys o n hI;rw [List.drop_eq_nil_of_le (by omega)] at hI;exact ⟨hI.1,by simpa using hI.2⟩
end
noncomputable def XO (C:Addr) (dd:Option Addr) (tb:Value):Ob:=.raw λo=>o.cls = .ref C/\o.dict=dd/\∃ vs:Array Value,o.data = .fields vs/\vs.size=6/\vs[1]?=some tb
noncomputable def ZN (fl:Value):Ob:=.raw λo=>∃ ts:Array Value,o.data = .fields ts/\3 < ts.size/\ts[3]?=some fl
noncomputable def Frs (l:List Env) (nss:jB):Prop:=∀ env ∈ l,env.scope.kind≠.module/\∃ L,env.frame=some L/\L ∈ nss.map Prod.fst
theorem Frs.fun {W:Wd}{h:Heap}{objs:jA}{nss:jB}{l:List Env}(F:Frs l nss) (C:Cx W h objs nss):h.FunFrames W.base l:=by
 induction l with
 | nil=>trivial
 | cons env r ih =>obtain ⟨hk,L,hf,hL⟩:=F env (List.mem_cons_self ..);refine ⟨hk,?_,ih λe he=>F e (List.mem_cons_of_mem _ he)⟩;obtain ⟨p,hp,rfl⟩:=List.mem_map.mp hL;obtain ⟨⟨m,⟨o,es,ep,e,hd,_⟩,_⟩,hn⟩:=C.ns p hp;exact ⟨p.1,o,hf,hn,e,λvs q=>by rw [hd] at q;contradiction⟩
theorem Frs.mem {l:List Env}{nss:jB}(F:Frs l nss) {b:Addr}(hb:b ∈ l.filterMap (·.frame)):b ∈ nss.map Prod.fst:=by obtain ⟨env,he,hf⟩:=List.mem_filterMap.mp hb;obtain ⟨_,L,hf',hL⟩:=F env he;rw [hf'] at hf;obtain rfl:=Option.some.inj hf;exact hL
theorem Cx.slots {W:Wd}{h h':Heap}{objs:jA}{nss:jB}{fs:List Addr}(C:Cx W h objs nss) (S:Heap.SlotsOnly fs h h') (hfs:∀ b ∈ fs,b ∈ nss.map Prod.fst):Cx W h' objs nss where
 keep:=λb o e=>by
  have hb:b ∉ fs:=λhm=>by obtain ⟨p,hp,q⟩:=List.mem_map.mp (hfs b hm);have:=(C.ns p hp).2;rw [q,e] at this;contradiction
  rw [S.2.1 b hb];exact C.keep b o e
 obj:=λp hp=>by
  obtain ⟨⟨o,e,i⟩,n⟩:=C.obj p hp;have hb:p.1 ∉ fs:=λhm=>by have nd:=C.nd;rw [List.nodup_append] at nd;exact nd.2.2 p.1 (List.mem_map_of_mem hp) p.1 (hfs _ hm) rfl
  exact ⟨⟨o,by rw [S.2.1 _ hb];exact e,i⟩,n⟩
 ns:=λp hp=>by obtain ⟨⟨m,⟨o,es,ep,e,hd,r⟩,i⟩,n⟩:=C.ns p hp;obtain ⟨sl,e'⟩:=S.2.2 _ o e;exact ⟨⟨m,⟨_,es,ep,e',hd,r⟩,i⟩,n⟩
 nd:=C.nd
section
variable {W:Wd} {A:Around} {o:jA} {nss:jB} {C:Addr} {dd:Option Addr} {e L:Addr} {env:Env} {outer:List Env}
set_option tactic.hygienic true in
theorem zDM {head:Value}{hadNext:Bool}{tb:Value}{Q:Unit->jA->jB->Prop}(hfr:A.frames=some (env::outer)) (F:Frs (env::outer) nss) (hf:env.frame=some L)
  (h:∀ T,Q () ((e,XO C dd (.ref T))::(T,ZN (rawInt L))::o) nss) :
  Tr W A (do setField (.ref e) 1 (<- EntryCells.newEntry head (<- frameOf env) .none (rawInt L) .none (<- entryPlaceOf L hadNext))) ((e,XO C dd tb)::o) nss Q:=by
 intro hp tk X;refine wpAny_bind (wpAny_frameOf_fun (s:=St W.s₀ hp tk) (base:=W.base) hfr (F.fun X) hf λh₁ hs₁=>?_);have X₁:=X.slots hs₁ λb hb=>F.mem hb;refine wpAny_bind (wpAny_entryPlaceOf λpl hpl=>?_);unfold EntryCells.newEntry newFields;refine wpAny_bind (wpAny_newObj_type ?_ (hpl.sizeOk5 _ _ _ _ _));have X₂:=X₁.push (x:={ cls:=.type "traceback",dict:=none,data:=.fields ([head,.ref L,.none,rawInt L,.none]++(if pl.isEmpty then List.replicate 6 Value.none else pl)).toArray }) (o:=ZN (rawInt L))
  ⟨_,rfl,by simp,by simp⟩
 obtain ⟨oe,he,hc,hd,vs,hv,hsz,hv1⟩:=X₂.get (a:=e) (o:=XO C dd tb) (.tail .head);refine wpAny_setField he hv (by omega) ?_;have hd₃:=Obj.data_mapFields hv (·.setIfInBounds 1 (Value.ref h₁.objs.size));have he₃:=Heap.get?_update_self (Obj.mapFields (·.setIfInBounds 1 (Value.ref h₁.objs.size))) he (Obj.isFreed_of_fields hd₃);have X₃:=X₂.put (a:=e) (o':=XO C dd (.ref h₁.objs.size)) (.tail .head) (λb ob hb eb=>(Heap.get?_update_other _ _ (Ne.symm hb)).trans eb) he₃
  ⟨(Obj.cls_mapFields _ _).trans hc,by rw [<- hd];cases oe;rename_i a b c d;cases c<;>rfl,_,hd₃,by simp [hsz],by simp [hsz]⟩
 exact ⟨_,tk,_,_,X₃.perm (List.Perm.swap ..),h _⟩
theorem zCE {Q:Unit->jA->jB->Prop}(hfr:A.frames=some (env::outer)) (F:Frs (env::outer) nss) (hf:env.frame=some L) (h:∀ T,Q () ((e,XO C dd (.ref T))::(T,ZN (rawInt L))::o) nss) :
  Tr W A (noteFrame (.ref e) env) ((e,XO C dd .none)::o) nss Q:=by
 intro hp tk X;obtain ⟨oe,he,hc,hd,vs,hv,hsz,hv1⟩:=X.get (a:=e) (o:=XO C dd .none) .head;unfold noteFrame;simp only [hf];refine wpAny_bind (wpAny_field (s:=St W.s₀ hp tk) he hv hv1 ?_);rw [if_neg (by decide)];exact zDM hfr F hf h hp tk X
theorem QM {T:Addr}{Q:Unit->jA->jB->Prop}(hfr:A.frames=some (env::outer)) (F:Frs (env::outer) nss) (hf:env.frame=some L) (h:∀ T,Q () ((e,XO C dd (.ref T))::(T,ZN (rawInt L))::o) nss) :
  Tr W A (noteFrame (.ref e) env) ((e,XO C dd (.ref T))::(T,ZN .none)::o) nss Q:=by
 intro hp tk X;obtain ⟨oe,he,hc,hd,vs,hv,hsz,hv1⟩:=X.get (a:=e) (o:=XO C dd (.ref T)) .head;obtain ⟨ot,ht,ts,htd,hts,ht3⟩:=X.get (a:=T) (o:=ZN .none) (.tail .head);unfold noteFrame;simp only [hf];refine wpAny_bind (wpAny_field (s:=St W.s₀ hp tk) he hv hv1 ?_);rw [if_pos (show (Value.ref T != Value.none)=true from by simp)];refine wpAny_bind (wpAny_field (s:=St W.s₀ hp tk) ht htd ht3 ?_);rw [if_neg (show ¬ ((Value.none==rawInt L)=true) from by simp [rawInt])];refine wpAny_bind (wpAny_setField (s:=St W.s₀ hp tk) ht htd hts ?_);have hd₃:=Obj.data_mapFields htd (·.setIfInBounds 3 Value.none);have X₁:=X.put (a:=T) (o:=ZN .none) (o':=ZN .none) (.tail .head) (λb ob hb eb=>(Heap.get?_update_other _ _ (Ne.symm hb)).trans eb) (Heap.get?_update_self (Obj.mapFields (·.setIfInBounds 3 Value.none)) ht (Obj.isFreed_of_fields hd₃))
  ⟨_,hd₃,by simpa using hts,by simp [hts]⟩
 exact zDM hfr F hf h _ tk (X₁.sub (.cons_cons _ (.cons _ (.refl _))))
theorem ym {T:Addr}{fl:Value}{Q:Unit->jA->jB->Prop}(h:Q () ((e,XO C dd (.ref T))::(T,ZN .none)::o) nss):Tr W A (setFlight (.ref e) none) ((e,XO C dd (.ref T))::(T,ZN fl)::o) nss Q:=by
 intro hp tk X;obtain ⟨oe,he,hc,hd,vs,hv,hsz,hv1⟩:=X.get (a:=e) (o:=XO C dd (.ref T)) .head;obtain ⟨ot,ht,ts,htd,hts,ht3⟩:=X.get (a:=T) (o:=ZN fl) (.tail .head);unfold setFlight;refine wpAny_bind (wpAny_field (s:=St W.s₀ hp tk) he hv hv1 ?_);rw [if_pos (show (Value.ref T != Value.none)=true from by simp)];refine wpAny_setField (s:=St W.s₀ hp tk) ht htd hts ?_;have hd₃:=Obj.data_mapFields htd (·.setIfInBounds 3 Value.none);have X₁:=X.put (a:=T) (o:=ZN fl) (o':=ZN .none) (.tail .head) (λb ob hb eb=>(Heap.get?_update_other _ _ (Ne.symm hb)).trans eb) (Heap.get?_update_self (Obj.mapFields (·.setIfInBounds 3 Value.none)) ht (Obj.isFreed_of_fields hd₃))
  ⟨_,hd₃,by simpa using hts,by simp [hts]⟩
 exact ⟨_,tk,_,_,X₁,h⟩
theorem zA7 {Q:Unit->jA->jB->Prop}(hfr:A.frames=some (env::outer)) (F:Frs (env::outer) nss) (hf:env.frame=some L) (h:∀ T,Q () ((e,XO C dd (.ref T))::(T,ZN .none)::o) nss) :
  Tr W A (leaving env (.ref e)) ((e,XO C dd .none)::o) nss Q:=by
 unfold leaving;exact Tr.bind (zCE hfr F hf λT=>ym (h T))
theorem zCF {T:Addr}{Q:Unit->jA->jB->Prop}(hfr:A.frames=some (env::outer)) (F:Frs (env::outer) nss) (hf:env.frame=some L) (h:∀ T,Q () ((e,XO C dd (.ref T))::(T,ZN .none)::o) nss) :
  Tr W A (leaving env (.ref e)) ((e,XO C dd (.ref T))::(T,ZN .none)::o) nss Q:=by
 unfold leaving;exact Tr.bind (QM hfr F hf λT=>ym (h T))
inductive zL5 (W:Wd) (X:Addr->jA->jB->Prop):Value->Shared->Prop
 | mk (e:Addr) (h':Heap) (tk':Nat) (o:jA) (n:jB) (C:Cx W h' o n) (q:X e o n):zL5 W X (.ref e) (St W.s₀ h' tk')
noncomputable def TrX {α:Type}(W:Wd) (A:Around) (t:Sem α) (objs:jA) (nss:jB) (X:Addr->jA->jB->Prop):Prop :=
 ∀ hp tk,Cx W hp objs nss->wpAny (model W.prog W.w) A t (λ_ _=>False) (zL5 W X) (St W.s₀ hp tk)
noncomputable def EvX (W:Wd) (A:Around) (env:Env) (e:Expr) (objs:jA) (nss:jB) (X:Addr->jA->jB->Prop):Prop:=TrX W A (eval e env) objs nss X
noncomputable def ExX (W:Wd) (A:Around) (env:Env) (st:Stmt) (objs:jA) (nss:jB) (X:Addr->jA->jB->Prop):Prop:=TrX W A (exec st env) objs nss X
noncomputable def EsX (W:Wd) (A:Around) (env:Env) (sts:List Stmt) (objs:jA) (nss:jB) (X:Addr->jA->jB->Prop):Prop:=TrX W A (execs sts env) objs nss X
variable {objs:jA} {X:Addr->jA->jB->Prop}
theorem TrX.go {α:Type}{t:Sem α}{u:α->Shared->Prop}{R:Value->Shared->Prop}{h:Heap}{tk:Nat}(H:TrX W A t objs nss X) (C:Cx W h objs nss) (k:∀ e h' tk' o n,Cx W h' o n->X e o n->R (.ref e) (St W.s₀ h' tk')):wpAny (model W.prog W.w) A t u R (St W.s₀ h tk) :=
 wpAny_mono (H h tk C) (λ_ _ x=>x.elim) λ_ _ x=>x.casesOn k
theorem YY {st:Stmt}{r:List Stmt}(h:ExX W A env st objs nss X):EsX W A env (st::r) objs nss X:=λhp tk C =>
 wpAny_execs_cons (wpAny_mono (h hp tk C) (λ_ _ x=>x.elim) λ_ _ x=>x)
theorem Yu {st:Stmt}{r:List Stmt}(h:Ex W A env st objs nss λf o n=>f = .next/\EsX W A env r o n X):EsX W A env (st::r) objs nss X:=λhp tk C =>
 wpAny_execs_cons (Fo.go h C λv x h' tk' o n hx C' q=>by cases q.1;subst hx;exact q.2 h' tk' C')
theorem zFL {t:Expr}{b e:List Stmt}{pos:Pos}(h:Bo W A env t objs nss λc o n=>c=true/\EsX W A env b o n X):ExX W A env (.If t b e pos) objs nss X:=λhp tk C =>
 wpAny_If (Tr.go h C λc h' tk' o n C' q=>by cases q.1;exact q.2 h' tk' C')
end
section
variable {W:Wd} {A:Around} {env:Env} {objs:jA} {nss:jB} {names:List (Str×NameKind)} {L:Addr} {cells:List (Str×Addr)} {K:Frag} {mg mb:Str->Option Value} {X:Addr->jA->jB->Prop}
theorem TrX.mono {α:Type}{t:Sem α}{Y:Addr->jA->jB->Prop}(h:TrX W A t objs nss X) (k:∀ e o n,X e o n->Y e o n):TrX W A t objs nss Y:=λ_ _ C =>
 h.go C λe h' tk' o n C' q=>⟨e,h',tk',o,n,C',k _ _ _ q⟩
noncomputable def ClX (W:Wd) (A:Around) (f:Value) (xs:List V) (objs:jA) (nss:jB) (X:Addr->jA->jB->Prop):Prop:=∀ vs,All2 xs vs->TrX W A (call f vs) objs nss X
theorem zFM {e:Expr}{pos:Pos}(he:EnvAt env names L cells) (h:EvX W A env e objs nss X) (hs:swapsWith e none pos.line env=pure false):ExX W A env (.Expr e pos) objs nss X:=λhp tk C =>
 wpAny_Expr_any (wpAny_mono (h hp tk C) (λ_ _ x=>x.elim) λ_ _ x=>x) (by unfold interactive;rw [he.kind];rfl) hs
theorem zCG {e:Expr}{pos:Pos}(h:EvX W A env e objs nss X):ExX W A env (.Return (some e) pos) objs nss X:=λhp tk C =>
 wpAny_Return_some (wpAny_mono (h hp tk C) (λ_ _ x=>x.elim) λ_ _ x=>x)
theorem zEC {e:Expr}{pos:Pos}(h:EvX W A env e objs nss X) (hs:∀ r,starEach (e::r) env=(false,eval e env)::starEach r env):EvX W A env (.List [e] pos) objs nss X:=by
 unfold EvX;rw [arm_eval_List];intro hp tk C;refine wpAny_bind (wpAny_standAt (wpAny_bind ?_));have hb:backTo pos (starEach [e] env)=(false,eval e env)::backTo pos (starEach [] env):=by rw [hs []];rfl
 rw [hb];exact spliced_cons (wpAny_mono (h hp tk C) (λ_ _ x=>x.elim) λ_ _ x=>x)
theorem zHz {pos:Pos}{a:Addr}{first:List Value}{fx:List V}{es:List Expr}(G:Gr W K mg mb) (hk:keepIn K (.ref a)=true) (hf:All2 fx first)
  (h:Evs W A env es objs nss λxs o n=>ClX W A (.ref a) (fx++xs) o n X) (hp:j0 es=true):TrX W A (callWith pos (.ref a) first (backTo pos (starEach es env)) []) objs nss X:=λhh tk C =>
 callWith_of (P:=K.In) (by rw [zp hp];rfl) (keeps_K hk) (yl hp (Tr.go (zZ es objs nss _ (zG hp) h) C λvs h₁ t₁ o n C₁ z=>by obtain ⟨xs,hxs,q⟩:=z;exact ⟨λb ob e=>C₁.keep b ob (G.kin b ob e),q _ (hf.append hxs) h₁ t₁ C₁⟩))
theorem zA8 {o:Expr}{name:Str}{apos pos:Pos}{es:List Expr}{pl:Sem Bool}{b C d f:Addr}{kvs:List (Str×V)}(G:Gr W K mg mb)
  (h:Ev W A env o objs nss λy o n=>y = .ref b/\Has b (.inst C d) o/\Has d (.attrs kvs) o/\Evs W A env es o n λxs o n=>ClX W A (.ref f) (.ref b::xs) o n X)
  (hg:plainGet K C name=true) (hf:findIn K (.ref C) name=some (some (.ref f))) (ht:isFn K (.ref f)=true) (hk:keepIn K (.ref f)=true) (hl:kvs.lookup name=none) (hp:j0 es=true)
  (he:eval (.Call (.Attribute o name apos) es [] pos) env=(do
   let ov <- eval o env
   standAt apos.atName
   let (f,first) <- holding [ov] (getMethod ov name pl)
   callWith pos f first (backTo pos (starEach es env)) (backToKw pos (keywordEach [] env))):=by rfl) :
  EvX W A env (.Call (.Attribute o name apos) es [] pos) objs nss X:=λhp0 tk C0 =>
 methodCall_KW (pl:=pl) (Tv.go h C0 λv y h₁ t₁ o n hy X₁ q=>by obtain ⟨rfl,hb,hd,q⟩:=q;subst hy;obtain ⟨es',n',hes,I,ed⟩:=Z8 X₁ hb hd;have KX:K.In h₁:=λa o e=>X₁.keep a o (G.kin a o e);exact method_fn (s:=St W.s₀ h₁ t₁) KX I (plainGet_of hg).1 (plainGet_of hg).2 hf (beq_iff_eq.mp ht) (by unfold shadowIn;dsimp only;rw [(hes.look name n').1 hl];rfl) (zHz (fx:=[.ref b]) G hk (.cons rfl .nil) q hp h₁ t₁ X₁)) he
noncomputable def Fly (C:Addr) (dd:Option Addr) (e:Addr) (o o':jA):Prop:=o=(e,XO C dd .none)::o'\/∃ T,o=(e,XO C dd (.ref T))::(T,ZN .none)::o'
theorem zED {env:Env}{outer:List Env}{L e C:Addr}{dd:Option Addr}{o o':jA}{Q:Unit->jA->jB->Prop}(f:Fly C dd e o o') (hfr:A.frames=some (env::outer)) (F:Frs (env::outer) nss) (hf:env.frame=some L)
  (h:∀ T,Q () ((e,XO C dd (.ref T))::(T,ZN .none)::o') nss):Tr W A (leaving env (.ref e)) o nss Q:=by
 rcases f with rfl | ⟨T,rfl⟩
 ·exact zA7 hfr F hf h
 ·exact zCF hfr F hf h
theorem Frs.up {l:List Env}{nss nss':jB}(F:Frs l nss) (h:∀ b ∈ nss.map Prod.fst,b ∈ nss'.map Prod.fst):Frs l nss':=λenv he=>by obtain ⟨a,L,b,c⟩:=F env he;exact ⟨a,L,b,h L c⟩
theorem InF.frs {k:Nat}{cs:List (Str×Addr)}{env:Env}{A':Around}{l:List Env}{ll:jX}(I:InF A k names L cs env A') (F:Frs l nss):Frs (env::l) ((L,ll)::nss):=λe he=>(List.mem_cons.mp he).elim (λq=>q▸⟨by rw [I.he.kind];decide,L,I.hf,List.mem_cons_self ..⟩) λhe =>
 F.up (nss':=(L,ll)::nss) (λb hb=>List.mem_cons_of_mem _ hb) e he
theorem InF.fr' {k:Nat}{cs:List (Str×Addr)}{env:Env}{A':Around}{l:List Env}(I:InF A k names L cs env A') (hfr:A.frames=some l):A'.frames=some (env::l):=I.fr.trans (hfr▸rfl)
inductive zEE (C L:Addr) (nss:jB) (X:Addr->Option Addr->jA->Prop) (e:Addr) (o:jA) (n:jB):Prop
 | mk (dd:Option Addr) (o':jA) (ll:jX) (f:Fly C dd e o o') (hn:n=(L,ll)::nss) (q:X e dd o')
inductive LeftX (C:Addr) (nss:jB) (X:Addr->Option Addr->jA->Prop) (e:Addr):jA->jB->Prop
 | mk (dd:Option Addr) (o':jA) (T:Addr) (q:X e dd o'):LeftX C nss X e ((e,XO C dd (.ref T))::(T,ZN .none)::o') nss
theorem LeftX.fly {C L:Addr}{ll:jX}{X Y:Addr->Option Addr->jA->Prop}{e:Addr}{o:jA}{n:jB}(h:LeftX C ((L,ll)::nss) X e o n) (k:∀ dd o,X e dd o->Y e dd o):zEE C L nss Y e o n:=by
 induction h with
 | mk dd o' T q=>exact ⟨dd,o',ll,.inr ⟨T,rfl⟩,rfl,k _ _ q⟩
theorem zFN {f C:Addr}{ys:List Str}{body:List Stmt}{xs xs':List V}{k:Nat}{l:List Env}{X:Addr->Option Addr->jA->Prop}(e:JX K mg mb f names ys body xs xs')
  (G:Gr W K mg mb) (R:Ar A (k + 1)) (hfr:A.frames=some l) (F:Frs l nss)
  (h:∀ L,LayQ names [] objs λcs o=>∀ env A',InF A k names L cs env A'->BindQ W A.in1 env ys xs' o ((L,[])::nss) λo n=>EsX W A' env body o n (zEE C L nss X)):ClX W A (.ref f) xs objs nss (LeftX C nss X):=λvs hvs hp tk Ch =>
 wpAny_call (codeAny_mono (e W A k (λr s'=>match r with | .error v=>zL5 W (LeftX C nss X) v s' | .ok _=>False) _ _ G R (λL=>LayQ.mono (λcs o hb env A' I=>BindQ.mono (λo n q h₁ t₁ C₁=>TrX.go q C₁ λe h₂ t₂ o₂ n₂ C₂ z=>by
  obtain ⟨dd,o',ll,fl,rfl,q⟩:=z;exact Tr.go (zED (Q:=λ_=>LeftX C ((L,ll)::nss) X e) fl (I.fr' hfr) (I.frs F) I.hf λT=>⟨dd,o',T,q⟩) C₂ λ_ h₃ t₃ o₃ n₃ C₃ z=>by
   induction z with
   | mk dd o' T q=>exact ⟨e,h₃,t₃,_,nss,C₃.pop,.mk dd o' T q⟩) (hb env A' I)) (h L)) vs hvs hp tk Ch) λr s' q=>by
  induction r with
  | ok x=>exact q.elim
  | error v=>exact q)
end
section
variable {W:Wd} {A:Around} {env:Env} {objs:jA} {nss:jB} {names:List (Str×NameKind)} {L:Addr} {cells:List (Str×Addr)} {K:Frag} {mg mb:Str->Option Value}
inductive zFO (K:Frag) (C:Addr):Prop
 | mk (nm q:Str) (N:Addr) (bs bm:List Value) (hdct:Bool) (sn:List Str) (sub:List Value) (ab:Bool) (col:Option Bool) (dd:Option Addr) (k0 k1 k2 k3 k5:Option Value) (newId:String) (h:K.lookup C=some (excClassObj nm q C N bs bm hdct sn sub ab col dd k0 k1 k2 k3 k5 newId)) (b:bm.contains (.type "BaseException")=true)
inductive zNx (C L:Addr) (nss:jB) (P:Addr->Option Addr->jA->Prop) (e:Addr) (o:jA) (n:jB):Prop
 | mk (ll:jX) (h:LeftX C ((L,ll)::nss) P e o n)
inductive zCH (C e:Addr) (dd:Option Addr) (fl:Value) (o':jA) (nss:jB):jA->jB->Prop
 | mk (T:Addr):zCH C e dd fl o' nss ((e,XO C dd (.ref T))::(T,ZN fl)::o') nss
inductive zL6 (L:Addr) (nss:jB) (Q:Fl->jA->jB->Prop) (f:Fl) (o:jA) (n:jB):Prop
 | mk (ll:jX) (hn:n=(L,ll)::nss) (q:Q f o ((L,[])::nss))
section
variable {e T C:Addr} {dd:Option Addr} {o':jA} {ll:jX} {nm:Str} {b₀:Stmt} {suite:List Stmt} {pos:Pos} {Q:Fl->jA->jB->Prop} {h:Heap} {tk:Nat} {E:Value->Shared->Prop}
theorem zIA {R:Unit->Shared->Prop}{o:jA}(he:EnvAt env names L cells) (hx:names.lookup nm=some .local) (C₁:Cx W h o ((L,ll)::nss)) (k:∀ h' t',Cx W h' o ((L,[])::nss)->R () (St W.s₀ h' t')) :
  wpAny (model W.prog W.w) A (do bindName env nm .none;unbindBehindTheSuite env nm pos) R E (St W.s₀ h tk) :=
 wpAny_bind (wpAny_bindName (Tr.go (zh (Q:=λo' n=>o'=o/\n=(L,[(nm,V.none)])::nss) he hx .nil ⟨rfl,rfl⟩ .none rfl) (C₁.locs nofun) λ_ h₂ t₂ o₂ n₂ C₂ q=>by obtain ⟨rfl,rfl⟩:=q;refine wpAny_onRaise ?_;obtain ⟨⟨m,hn,hl⟩,_⟩:=C₂.ns (L,[(nm,.none)]) (List.mem_cons_self ..);obtain ⟨u,hu,_⟩:=hl.get (GetL.head:GetL nm V.none [(nm,.none)]);refine wpAny_unbindName_local (s:=St W.s₀ h₂ t₂) (by unfold Env.kindOf;rw [he.names];exact hx) (by rw [he.locals];exact hn) hu (by rw [he.kind];rfl) λh₃ u' hn' hs'=>?_;rw [he.locals] at hn' hs';exact k h₃ t₂ (C₂.setNs (λb o hb e=>(hs'.2 b hb).trans e) hn' (LocsAre.nil _))))
theorem zL7 {R:Result->Shared->Prop}(he:EnvAt env names L cells) (hx:names.lookup nm=some .local)
  (hsu:∀ T,Es W A env (b₀::suite) ((e,XO C dd (.ref T))::(T,ZN .none)::o') ((L,[(nm,.ref e)])::nss) Q) (C₁:Cx W h ((e,XO C dd (.ref T))::(T,ZN .none)::o') ((L,ll)::nss))
  (k:∀ f x h' t' o n,Fl.Is x f->Cx W h' o n->Q x o n->R (.ok f) (St W.s₀ h' t')):codeAny (model W.prog W.w) A (.handlers (.ref e) [.ExceptHandler none (some nm) (b₀::suite) pos] env) R (St W.s₀ h tk) :=
 codeAny_handlers_suite_as (Tr.go (ym (Q:=λ_=>zCH C e dd .none o' ((L,ll)::nss)) ⟨T⟩) C₁ λ_ h₂ t₂ o₂ n₂ C₂ z=>by obtain ⟨T⟩:=z;refine Tr.go (zh (Q:=λo n=>o=(e,XO C dd (.ref T))::(T,ZN .none)::o'/\n=(L,[(nm,.ref e)])::nss) he hx .nil ⟨rfl,rfl⟩ (.ref e) rfl) (C₂.locs nofun) λ_ h₃ t₃ o₃ n₃ C₃ z=>?_;obtain ⟨rfl,rfl⟩:=z;exact Fo.go (hsu T) C₃ λf x h₄ t₄ o₄ n₄ hx C₄ q=>k f x h₄ t₄ o₄ n₄ hx C₄ q)
end
theorem zL8 {ll₀:jX}{C:Addr}{body:List Stmt}{cx nm:Str}{px pos tpos:Pos}{b₀:Stmt}{suite:List Stmt}{hs:List ExceptHandler}{l:List Env}{P:Addr->Option Addr->jA->Prop}{Q:Fl->jA->jB->Prop}
  (G:Gr W K mg mb) (he:EnvAt env names L cells) (hfr:A.frames=some (env::l)) (hf:env.frame=some L) (F:∀ ll,Frs (env::l) ((L,ll)::nss)) (hC:zFO K C) (hx:names.lookup nm=some .local)
  (hb:EsX W A env body objs ((L,ll₀)::nss) (zNx C L nss P))
  (ht:∀ A' o n,Ev W A' env (.Name cx px) o n λx o' n'=>x = .ref C/\o'=o/\n'=n)
  (hsu:∀ A' e dd o' T,P e dd o'->Es W A' env (b₀::suite) ((e,XO C dd (.ref T))::(T,ZN .none)::o') ((L,[(nm,.ref e)])::nss) (zL6 L nss Q)) :
  Ex W A env (.Try body (.ExceptHandler (some (.Name cx px)) (some nm) (b₀::suite) pos::hs) [] [] tpos) objs ((L,ll₀)::nss) Q:=λhp tk Ch =>
 wpAny_Try_except (hb.go Ch λe h₁ t₁ _ _ C₁ z=>by
  obtain ⟨ll,dd,o',T,q⟩:=z;refine Tr.go (QM (Q:=λ_=>zCH C e dd (rawInt L) o' ((L,ll)::nss)) hfr (F ll) hf λT=>⟨T⟩) C₁ λ_ h₂ t₂ _ _ C₂ z=>?_;obtain ⟨T⟩:=z;refine Tr.go (ym (Q:=λ_ o n=>o=(e,XO C dd (.ref T))::(T,ZN .none)::o'/\n=(L,ll)::nss) ⟨rfl,rfl⟩) C₂ λ_ h₃ t₃ _ _ C₃ z=>?_;obtain ⟨rfl,rfl⟩:=z;refine wpAny_handleBy_cons (codeAny_handlers_test (Tv.go (ht _ _ _) C₃ λc x h₄ t₄ _ _ hx' C₄ z=>?_)) nofun
  obtain ⟨rfl,rfl,rfl⟩:=z;subst hx';obtain ⟨cn,cq,N,bs,bm,hdct,sn,sub,ab,col,cdd,k0,k1,k2,k3,k5,newId,hK,hbase⟩:=hC;obtain ⟨oe,hoe,hcl,_⟩:=C₄.get (a:=e) (o:=XO C dd (.ref T)) .head;exact wpAny_excMatches_sub_self (C₄.keep _ _ (G.kin _ _ hK)) hoe hcl hbase (zL7 he hx (hsu _ e dd o' · q) C₄ λf x h₅ t₅ o₅ n₅ hx₅ C₅ z=>by obtain ⟨ll₅,rfl,q⟩:=z;exact zIA he hx C₅ λh₆ t₆ C₆=>⟨h₆,t₆,o₅,_,C₆,x,hx₅,q⟩))
end
structure Z9 (bm:List Value) (B:String):Prop where
 hasB:bm.contains (.type B)=true
 hasBase:bm.contains (.type "BaseException")=true
 noAttr:bm.contains (.type "AttributeError")=false
 noName:bm.contains (.type "NameError")=false
section
variable {prog:Program} {w:World} {A:Around} {E:Value->Shared->Prop} {R:Result->Shared->Prop} {h:Heap} {g:Array GenState} {d:Drawn} {t:Nat} {os:OsState}
variable {nm q:Str} {C N:Addr} {bs bm bmB:List Value} {hdct:Bool} {sn:List Str} {sub:List Value} {ab:Bool} {col:Option Bool} {dd:Option Addr} {k0 k1 k2 k3 k5:Option Value} {B newId initId:String}
theorem zIB (F:ExcBaseFacts B newId initId bmB) (T:Z9 bm B) {rest:List Value}(hC:h.get? C=some (excClassObj nm q C N bs bm hdct sn sub ab col dd k0 k1 k2 k3 k5 newId))
  (hq:R (.ok (.ret (.ref (h.objs.size + 1)))) ⟨(h.push { cls:=.type "tuple",data:=.seq rest.toArray }).push
   { cls:=.ref C,data:=.fields #[.ref h.objs.size,.none,.none,.none,.bool false,.none] },g,d,t,os⟩) (hrest:rest.length<=sizeLine) :
  codeAny (model prog w) A (.builtin newId ⟨.ref C::rest,[]⟩) R ⟨h,g,d,t,os⟩:=by
 have hends:=F.ends;have hcB:(Value.ref C::bm).contains (.type B)=true:=by rw [List.contains_cons,T.hasB,Bool.or_true]
 have hcA:(Value.ref C::bm).contains (.type "AttributeError")=false:=by rw [List.contains_cons,T.noAttr];rfl
 have hcN:(Value.ref C::bm).contains (.type "NameError")=false:=by rw [List.contains_cons,T.noName];rfl
 refine codeAny_builtinAt F.entry ?_;unfold Builtin.«BaseException.__new__»;refine PySem.wpAt_bind ?_;show PySem.wpAt _ _ _ (stack >>= _) _ _ _;refine PySem.wpAt_bind (PySem.wpAt_stack λp below=>PySem.wpAt_of_wpAny ?_)
 wp_walk
 refine PySem.wpAt_of_wpAny ?_;rw [F.owner];repeat (first | with_reducible refine wpAny_madeHere_exc F.canon hC ?_ | with_reducible refine wpAny_loadPart_at hC ?_ | (with_reducible refine wpAny_isSubtype_exc hC ?_;first | rw [hcB] | rw [hcA] | rw [hcN]) | wp_step)
 show R _ _;rw [Heap.size_push];exact hq
theorem Vu {K:Frag}(F:ExcBaseFacts B newId initId bmB) (T:Z9 bm B) {rest:List Value}{fI:Addr}{Q:Fin->Shared->Prop}
  (X:K.In h) (hC:h.get? C=some (excClassObj nm q C N bs bm hdct sn sub ab col dd k0 k1 k2 k3 k5 newId)) (hi:findIn K (.ref C) "__init__"=some (some (.ref fI)))
  (hf:typeIn K (.ref fI)=some (.type "function"))
  (hq:wpAny (model prog w) A (call (.ref fI) (.ref (h.objs.size + 1)::rest)) (λr s'=>r = .none/\Q (.done (.ret (.ref (h.objs.size + 1)))) s') E
   ⟨(h.push { cls:=.type "tuple",data:=.seq rest.toArray }).push { cls:=.ref C,data:=.fields #[.ref h.objs.size,.none,.none,.none,.bool false,.none] },g,d,t,os⟩) (hrest:rest.length<=sizeLine) :
  wpAny (model prog w) A (Builtin.«type.__call__» ⟨.ref C::rest,[]⟩) Q E ⟨h,g,d,t,os⟩:=by
 repeat (first | with_reducible refine wpAny_loadPart_at hC ?_ | with_reducible refine wpAny_madeBy_exc hC ?_ | wp_step)
 refine codeAny_call_builtin_code (Code.quiet_builtin _ F.quiet) (wpAny_check_new_subU F T.hasB .base hC ?_);refine zIB F T hC ?_ hrest;show wpAny _ _ _ _ _ _;have hC₁:=Heap.get?_push_of_some { cls:=.ref C,data:=.fields #[.ref h.objs.size,.none,.none,.none,.bool false,.none] }
  (Heap.get?_push_of_some { cls:=.type "tuple",data:=.seq rest.toArray } hC)
 have X₁:K.In ((h.push { cls:=.type "tuple",data:=.seq rest.toArray }).push { cls:=.ref C,data:=.fields #[.ref h.objs.size,.none,.none,.none,.bool false,.none] }):=λb o e=>Heap.get?_push_of_some _ (Heap.get?_push_of_some _ (X b o e));have hget:((h.push { cls:=.type "tuple",data:=.seq rest.toArray }).push
   { cls:=.ref C,data:=.fields #[.ref h.objs.size,.none,.none,.none,.bool false,.none] }).get? (h.objs.size + 1)=some
   { cls:=.ref C,data:=.fields #[.ref h.objs.size,.none,.none,.none,.bool false,.none] }:=by heap_get
 have hcC:(Value.ref C::bm).contains (.ref C)=true:=by simp
 unfold isInstance;repeat (first | with_reducible refine wpAny_loadPart_at hget ?_ | (with_reducible refine wpAny_isSubtype_exc hC₁ ?_;rw [hcC]) | wp_step)
 show wpAny _ _ (typeLookup (.ref C) _) _ _ _;refine (looks_findIn X₁ hi).here ?_;refine wpAny_holding (wpAny_bind ((bind_fn X₁ _ hf).here (wpAny_bind (wpAny_mono hq (λr s' hr=>?_) λ_ _ x=>x))));obtain ⟨rfl,hQ⟩:=hr
 wp_walk
 exact hQ
theorem zFP {K:Frag}(F:ExcBaseFacts B newId initId bmB) (T:Z9 bm B) {rest:List Value}{fI:Addr}{Q:Value->Shared->Prop}
  (X:K.In h) (hC:h.get? C=some (excClassObj nm q C N bs bm hdct sn sub ab col dd k0 k1 k2 k3 k5 newId)) (hi:findIn K (.ref C) "__init__"=some (some (.ref fI)))
  (hf:typeIn K (.ref fI)=some (.type "function"))
  (hq:wpAny (model prog w) (A.under (.builtin "type.__call__" ⟨.ref C::rest,[]⟩)) (call (.ref fI) (.ref (h.objs.size + 1)::rest)) (λr s'=>r = .none/\Q (.ref (h.objs.size + 1)) s') E
   ⟨(h.push { cls:=.type "tuple",data:=.seq rest.toArray }).push { cls:=.ref C,data:=.fields #[.ref h.objs.size,.none,.none,.none,.bool false,.none] },g,d,t,os⟩) (hrest:rest.length<=sizeLine) :
  wpAny (model prog w) A (call (.ref C) rest) Q E ⟨h,g,d,t,os⟩:=by
 have f1:=tc_lookup;have f2:=tc_bind (.ref C);have hT:(⟨h,g,d,t,os⟩ : Shared).TypeIs (.ref C) "type":=⟨_,hC,rfl⟩;refine wpAny_call (codeAny_of_tree ?_);show wpAny _ _ (callAny (.ref C) _) _ _ _;repeat (any_goals (first | assumption | with_reducible refine wpAny_loadPart_at hC ?_ | wp_step))
 refine ⟨rfl,?_⟩;exact codeAny_call_builtin_at (Code.quiet_builtin _ (by decide +kernel)) entry_typeCall (wpAny_check_type_call_sub hC (Vu F T X hC hi hf hq hrest))
end
theorem zA9 (t u:Tok):Gives (Builtin.«int.__format__» ⟨[.int 0 t,.str "x" u],[]⟩) (.str "0"):=.of_eq (by kernel_rfl)
section
variable {W:Wd} {A:Around} {env:Env} {objs objs':jA} {nss:jB} {K:Frag} {mg mb:Str->Option Value}
theorem zL9 {value:Expr}{pos p1 p2:Pos}{k:Nat}{Q:V->jA->jB->Prop}(h:Ev W A env value objs nss λy o n=>y = .int 0/\Q (.str "0") o n):Ev W A env (.FormattedValue value (-1) (some (.JoinedStr [.Constant (.str "x") k p1] p2)) pos) objs nss Q:=λhp tk C =>
 wpAny_FormattedValue_spec (Tv.go h C λv y h₁ t₁ o n hy C₁ q=>by obtain ⟨rfl,q⟩:=q;obtain ⟨t,rfl⟩:=hy;exact JoinedStr_one (Constant_str ⟨_,_,rfl,wpAny_formatField_spec (by decide) (λs'=>typeIs_int s' 0 t) F.slot_int_format F.entry_int_format F.args_int_format_2 (λu=>zA9 t u) ⟨h₁,_,o,n,C₁,.str "0",⟨_,rfl⟩,q⟩⟩))
theorem zNy {value:Expr}{pos:Pos}{Q:V->jA->jB->Prop}(h:Ev W A env value objs nss λy o n=>y = .int 2/\Q (.str (toString (2:Int))) o n):Ev W A env (.FormattedValue value (-1) none pos) objs nss Q:=λhp tk C =>
 FormattedValue_plain (Tv.go h C λv y h₁ t₁ o n hy C₁ q=>by obtain ⟨rfl,q⟩:=q;obtain ⟨t,rfl⟩:=hy;exact formatField_int_small (by decide +kernel) ⟨h₁,_,o,n,C₁,.str (toString (2:Int)),⟨_,rfl⟩,q⟩)
noncomputable def JnQ (W:Wd) (A:Around) (env:Env):List Expr->Str->jA->jB->(V->jA->jB->Prop)->Prop
 | [],acc,o,n,Q=>acc.length<=sizeLine/\Q (.str acc) o n
 | e::r,acc,o,n,Q=>Ev W A env e o n λy o n=>∃ x,y = .str x/\(acc++x).length<=sizeLine/\JnQ W A env r (acc++x) o n Q
theorem JnQ.tr {Q:V->jA->jB->Prop}:∀ {es:List Expr}{acc:Str}{objs:jA}{nss:jB},JnQ W A env es acc objs nss Q->Tv W A (joinParts acc (evalEach es env)) objs nss Q
 | [],acc,objs,nss,h=>λhp tk C=>wpAny_joinPartsRec _ _ _ _ ⟨h.1,hp,_,_,_,C,.str acc,⟨_,rfl⟩,h.2⟩
 | e::r,acc,objs,nss,h=>λhp tk C=>joinParts_cons (Tv.go h C λv y h₁ t₁ o n hy C₁ q=>by obtain ⟨x,rfl,hz,q⟩:=q;obtain ⟨t,rfl⟩:=hy;exact ⟨hz,JnQ.tr q h₁ t₁ C₁⟩)
theorem zFQ {e₁ e₂:Expr}{r:List Expr}{pos:Pos}{Q:V->jA->jB->Prop}(h:JnQ W A env (e₁::e₂::r) Str.empty objs nss Q):Ev W A env (.JoinedStr (e₁::e₂::r) pos) objs nss Q:=λhp tk C =>
 JoinedStr_many (h.tr hp tk C)
end
section
open PySem.Builtin PySem.Builtin.ObjectAttr
noncomputable def veBases:List Value:=[.type "ValueError",.type "Exception",.type "BaseException",.type "object"]
inductive ExcK (K:Frag) (C B N:Addr):Prop
 | mk (nm q:Str) (bs:List Value) (sn:List Str) (sub:List Value) (ab:Bool) (col:Option Bool) (dd:Option Addr) (k0 k1 k2 k3 k5:Option Value) (h:K.lookup C=some (excClassObj nm q C N bs (.ref B::veBases) true sn sub ab col dd k0 k1 k2 k3 k5 "ValueError.__new__"))
inductive zPr (K:Frag) (C B:Addr):Prop
 | mk (cd:ClassData) (h1:clsIn K C=some cd) (h2:cd.mro = .ref C::.ref B::veBases) (h3:cd.hasDict=true)
theorem ExcK.cls {K:Frag}{C B N:Addr}(h:ExcK K C B N):zPr K C B:=by obtain ⟨nm,q,bs,sn,sub,ab,col,dd,k0,k1,k2,k3,k5,h⟩:=h;exact ⟨_,by unfold clsIn;rw [h],rfl,rfl⟩
theorem ExcK.exc {K:Frag}{C B N:Addr}(h:ExcK K C B N):zFO K C:=by obtain ⟨nm,q,bs,sn,sub,ab,col,dd,k0,k1,k2,k3,k5,h⟩:=h;exact ⟨nm,q,_,bs,_,_,sn,sub,ab,col,dd,k0,k1,k2,k3,k5,_,h,by rw [List.contains_cons];rfl⟩
section
variable {prog:Program} {w:World} {A:Around} {K:Frag} {C B N x:Addr} {s:Shared} {R:Result->Shared->Prop}
theorem zJh {ox:Obj}{M:Model}(X:K.In s.heap) (hC:ExcK K C B N) (hx:s.heap.get? x=some ox) (hc:ox.cls = .ref C) {t:String}(ht:veBases.contains (.type t)=true):Looks M s.heap (isInstance (.ref x) (.type t)) true:=by obtain ⟨cd,h1,h2,h3⟩:=hC.cls;have L0:Looks M s.heap (typeOf (.ref x)) (.ref C):=hc▸(Looks.ld hx).andThen .now;refine L0.andThen (looks_mroIn X ?_);unfold mroIn;rw [h1,Option.bind_some,h2];rw [if_neg (by simp),List.contains_cons,List.contains_cons,ht,Bool.or_true,Bool.or_true]
theorem QN {ox:Obj}{name:Str}{tk:Tok}{v:Value}(X:K.In s.heap) (hC:ExcK K C B N) (hx:s.heap.get? x=some ox) (hc:ox.cls = .ref C) (ht:takerIn K C name=some none)
  (h:∀ b,wpAny (model prog w) A.in1 (storeInOwnDict (.ref x) (.ref C) (.str name tk) name v b)
   (λfin s'=>match fin with | .done f=>R (.ok f) s' | .again c'=>c'.quiet=true/\codeAny (model prog w) A c' R s') (λe s'=>R (.error e) s') s) :
  codeAny (model prog w) A (.call (.builtin "object.__setattr__") ⟨[.ref x,.str name tk,v],[]⟩) R s:=by
 have SF:=PySem.F.store_object;obtain ⟨cd,h1,h2,h3⟩:=hC.cls;have L0:Looks (model prog w) s.heap (typeOf (.ref x)) (.ref C):=hc▸(Looks.ld hx).andThen .now;refine codeAny_call_builtin SF.slot.plain SF.entry (@check_slot (model prog w) _ _ s "object.__setattr__" "object" "__setattr__" (.ref x) [.str name tk,v] [] _ SF.kind SF.split (zJh X hC hx hc (by decide)) (SF.args (.ref x) (.str name tk) v) ?_);obtain ⟨attr,ha,hr⟩:=Option.bind_eq_some_iff.mp ht;have hm:Looks (model prog w) s.heap (mroOf (.ref C)) cd.mro:=(looks_clsIn X h1).andThen .now;have L3:Looks (model prog w) s.heap (storeTaker? attr) none:=by
  induction attr using Option.casesOn with
  | none=>exact .now
  | some a =>
   obtain ⟨b,hb,hb2⟩:=Option.map_eq_some_iff.mp hr;refine (looks_takesIn X hb).andThen ?_;cases b
   ·exact .now
   ·contradiction
 rw [osa_eq,refuse_eq];refine wpAny_bind (wpAny_bind (L0.here (wpAny_bind (hm.here ?_))));rw [h2,refuseLoop_ref,refuseLoop_ref,show refuseLoop (.ref x) "__setattr__" veBases=pure () from PySem.F.store_ValueError.passes _];refine wpAny_pure (wpAny_bind (L0.here (wpAny_bind ((looks_findIn X ha).here (wpAny_bind (L3.here ?_))))));exact h _
theorem Zv {E:Value->Shared->Prop}{ox:Obj}{name:Str}{v:Value}{Q:Unit->Shared->Prop}(X:K.In s.heap) (hx:s.heap.get? x=some ox) (hc:ox.cls = .ref C)
  (hs:findIn K (.ref C) "__setattr__"=some (some (.builtin "object.__setattr__")))
  (h:codeAny (model prog w) A (.call (.builtin "object.__setattr__") ⟨[.ref x,.str name s.toks,v],[]⟩) (λr s'=>match r with | .ok (.ret _)=>Q () s' | .ok _=>False | .error e=>E e s') { s with toks:=s.toks + 1 }) :
  wpAny (model prog w) A (setAttr (.ref x) name v) Q E s:=by
 have L0:Looks (model prog w) s.heap (typeOf (.ref x)) (.ref C):=hc▸(Looks.ld hx).andThen .now;refine wpAny_bind (wpAny_mkText (wpAny_bind (wpAny_bind (wpAny_bind (L0 _ _ _ _ (λ_ _ e=>e) (looks_findIn X hs _ _ _ _ (λ_ _ e=>e) (wpAny_holding ?_)))))));rw [PySem.F.store_object.slot.bind];refine wpAny_bind (wpAny_pure (wpAny_bind (wpAny_call (codeAny_mono h λr s' z=>?_))));rcases r with e | (v | _ | _ | _)<;>first | exact z | exact wpAny_pure (wpAny_pure z)
end
section
variable {W:Wd} {A:Around} {env:Env} {objs objs':jA} {nss:jB} {K:Frag} {mg mb:Str->Option Value} {C B N e:Addr}
theorem zDN {d:Addr}{tb:Value}{kvs kvs':List (Str×V)}{name:Str}{y:V}{Q:jA->jB->Prop}(G:Gr W K mg mb) (hC:ExcK K C B N) (hb:Has e (XO C (some d) tb) objs) (P:Put d (.attrs kvs) (.attrs kvs') objs objs') (g:SetL name y kvs kvs')
  (hs:findIn K (.ref C) "__setattr__"=some (some (.builtin "object.__setattr__"))) (ht:takerIn K C name=some none) (h:Q objs' nss) (hz:kvs.length<=900) :
  SetA W A (.ref e) name y objs nss Q:=by
 rintro _ u rfl hu hp' tk X;obtain ⟨oe,he,hc,hdd,-⟩:=X.get hb;obtain ⟨_,ed,es,n,rfl,hes⟩:=X.get (.of_mem P.mem);have KX:K.In hp':=λa o e=>X.keep a o (G.kin a o e);obtain ⟨cd,h1,h2,h3⟩:=hC.cls;refine Zv (s:=St W.s₀ hp' tk) KX he hc hs ?_;refine QN (s:=St W.s₀ hp' (tk + 1)) KX hC he hc ht λb=>?_;refine wpAny_bind (wpAny_pure (wpAny_bind (wpAny_bind (wpAny_loadPart he ?_))));rw [hc];refine wpAny_bind ((looks_clsIn KX h1).here ?_);rw [h3,hdd];refine wpAny_pure (a:=some d) (wpAny_bind (wpAny_pure (wpAny_bind ?_)));refine YH (s:=St W.s₀ hp' (tk + 1)) ed ?_ (putName_dict ..) rfl λh' e1 e2=>?_
 ·induction q:kvs.lookup name using Option.casesOn with
  | none=>rw [(hes.look name n).1 q];rfl
  | some x=>obtain ⟨u,e,_⟩:=(hes.look name n).2 x q;rw [e];rfl
 ·refine wpAny_bind (wpAny_lookBehind e1 (pastItsLine_dict (by have:=hes.len;rw [List.size_toArray,sizeLine_eq];exact Nat.le_trans (YX ..) (by omega))) (wpAny_pure ?_));exact ⟨h',_,_,_,X.put P (λc o hc e=>(e2.2 c hc).trans e) e1 ⟨_,_,rfl,hes.put hu g⟩,h⟩
theorem zIC {tb:Value}{name:Str}{y:V}{Q:jA->jB->Prop}(G:Gr W K mg mb) (hC:ExcK K C B N)
  (hs:findIn K (.ref C) "__setattr__"=some (some (.builtin "object.__setattr__"))) (ht:takerIn K C name=some none) (h:∀ d,Q ((d,.attrs [(name,y)])::(e,XO C (some d) tb)::objs) nss) :
  SetA W A (.ref e) name y ((e,XO C none tb)::objs) nss Q:=by
 rintro _ u rfl hu hp' tk X;obtain ⟨oe,he,hc,hdd,vs,hv,hsz,hv1⟩:=X.get (a:=e) (o:=XO C none tb) .head;have KX:K.In hp':=λa o e=>X.keep a o (G.kin a o e);obtain ⟨cd,h1,h2,h3⟩:=hC.cls;refine Zv (s:=St W.s₀ hp' tk) KX he hc hs ?_;refine QN (s:=St W.s₀ hp' (tk + 1)) KX hC he hc ht λb=>?_;refine wpAny_bind (wpAny_pure (wpAny_bind (wpAny_bind (wpAny_loadPart he ?_))));rw [hc];refine wpAny_bind ((looks_clsIn KX h1).here ?_);rw [h3,hdd];obtain ⟨oc,od,odt,osl⟩:=oe;dsimp only at hc hdd hv;subst hc hdd hv;rw [if_neg (by simp)];dsimp only;have hx₁:(hp'.push emptyDict).get? e=some ⟨.ref C,none,.fields vs,osl⟩:=Heap.get?_push_of_some _ he;refine wpAny_bind (wpAny_alloc' ?_);refine wpAny_bind (wpAny_update' hx₁ ?_);refine wpAny_pure ?_;have X₁:=X.push (x:=emptyDict) (o:=.attrs []) ⟨[],0,rfl,.nil⟩;have he₂:((hp'.push emptyDict).update e λo=>{ cls:=o.cls,dict:=some hp'.objs.size,data:=o.data,slots:=o.slots }).get? e=some ⟨.ref C,some hp'.objs.size,.fields vs,osl⟩:=Heap.get?_update_self _ hx₁ rfl;have X₂:=X₁.put (a:=e) (o:=XO C none tb) (o':=XO C (some hp'.objs.size) tb) (.tail .head) (λb ob hb eb=>(Heap.get?_update_other _ _ (Ne.symm hb)).trans eb) he₂ ⟨rfl,rfl,vs,rfl,hsz,hv1⟩;obtain ⟨_,ed,es,n,rfl,hes⟩:=X₂.get (a:=hp'.objs.size) (o:=.attrs []) .head;cases hes
 show wpAny _ _ (storeInDict hp'.objs.size (.str name tk) name u) _ _ _;unfold storeInDict newKeyGuard;refine wpAny_bind (wpAny_pure (wpAny_bind ?_));refine YH (s:=St W.s₀ _ (tk + 1)) ed rfl (putName_dict ..) rfl λh' e1 e2=>?_;refine wpAny_bind (wpAny_lookBehind e1 (pastItsLine_dict (by rw [List.size_toArray,sizeLine_eq];exact Nat.le_trans (YX ..) (by simp))) (wpAny_pure ?_));exact ⟨h',_,_,_,X₂.put (a:=hp'.objs.size) (o:=.attrs []) (o':=.attrs [(name,y)]) .head (λc o hc e=>(e2.2 c hc).trans e) e1 ⟨_,_,rfl,EntS.put (g:=.nil) .nil hu⟩,h _⟩
end
end
section
open PySem.Builtin PySem.Builtin.ObjectAttr
section
variable {W:Wd} {A:Around} {env:Env} {objs objs':jA} {nss:jB} {K:Frag} {mg mb:Str->Option Value} {C B N e:Addr}
theorem zNz {d:Addr}{tb:Value}{kvs:List (Str×V)}{name:Str}{x:V}{attr:Option Value}{Q:V->jA->jB->Prop}(G:Gr W K mg mb) (hC:ExcK K C B N) (hb:Has e (XO C (some d) tb) objs) (hd:Has d (.attrs kvs) objs) (g:GetL name x kvs)
  (hg:findIn K (.ref C) "__getattribute__"=some (some (.builtin "BaseException.__getattribute__"))) (hk:findIn K (.ref C) "__getattr__"=some none)
  (ha:findIn K (.ref C) name=some attr) (hn:noGet K attr=true) (h:Q x objs nss) (hx:x.plain=true):GetA W A (.ref e) name objs nss Q:=by
 rintro _ rfl hp tk X;obtain ⟨oe,he,hc,hdd,vs,hv,hsz,hv1⟩:=X.get hb;obtain ⟨_,ed,es,n,rfl,hes⟩:=X.get hd;obtain ⟨u,e1,e2⟩:=(hes.look name n).2 x g.fn;have KX:K.In hp:=λa o e=>X.keep a o (G.kin a o e);obtain ⟨cd,h1,h2,h3⟩:=hC.cls;have I:InstAt hp e oe C (some (dictOf es n)):=⟨he,hc,by unfold notCls;rw [hv],by rw [hdd];exact ed⟩;have L0:Looks (model W.prog W.w) hp (typeOf (.ref e)) (.ref C):=I.type;have hh:hasDictIn K C=true:=by unfold hasDictIn;rw [h1];exact h3
 have L1:=looks_find (M:=model W.prog W.w) KX I (findObj_own hh ha hn e1);unfold getAttr getAttrBy;refine wpAny_bind (wpAny_mkText (wpAny_holding (wpAny_bind (L0 _ _ _ _ (λ_ _ e=>e) (wpAny_bind (looks_findIn KX hg _ _ _ _ (λ_ _ e=>e) ?_))))));dsimp only;rw [show (onTheHeap (Value.ref C)&&Value.builtin "BaseException.__getattribute__"==Value.builtin "object.__getattribute__")=false from by rw [show (Value.builtin "BaseException.__getattribute__"==Value.builtin "object.__getattribute__")=false from by decide +kernel,Bool.and_false],if_neg (by decide)];refine wpAny_bind (looks_hook KX (mc:=.ref C) (r:=none) (by rw [if_pos (by rfl)];exact hk) _ _ _ _ (λ_ _ e=>e) (wpAny_bind (wpAny_attempt (wpAny_holding ?_))));unfold callGetattribute;rw [show (true&&onTheHeap (Value.builtin "BaseException.__getattribute__"))=false from rfl,if_neg (by decide)];unfold boundAndCalled;rw [F.attr_ValueError.ga.bind];refine wpAny_bind (wpAny_pure ?_);show wpAny _ _ (call (.builtin "BaseException.__getattribute__") [.ref e,.str name tk]) _ _ _;refine wpAny_call ?_;refine codeAny_call_builtin F.attr_ValueError.ga.plain F.entry_bexc_ga ?_;refine @check_slot (model W.prog W.w) _ _ (St W.s₀ hp (tk + 1)) "BaseException.__getattribute__" "BaseException" "__getattribute__" (.ref e) [.str name tk] [] _ (by decide +kernel) (by decide +kernel) (zJh (s:=St W.s₀ hp (tk + 1)) KX hC he hc (by decide)) (F.args_bexc_ga (.ref e) (.str name tk)) ?_;unfold Builtin.«object.__getattribute__»;refine wpAny_bind (wpAny_pure (wpAny_bind (wpAny_pure (wpAny_bind (L0.here (wpAny_bind (L1.here ?_)))))));refine wpAny_pure ?_;show wpAny _ _ (handedOut u) _ _ _;rw [handedOut_of (V.handed e2 hx)];exact wpAny_pure ⟨hp,tk + 1,_,_,X,x,e2,h⟩
theorem zOA {c:Addr}{name:Str}{x:V}{u:Value}{Q:V->jA->jB->Prop}(G:Gr W K mg mb) (hr:readsIn K c (.type "type")=true) (hf:findCls K (.ref c) (.type "type") name=some (.val u)) (hx:vOf u=some x) (hh:handedIn u=true) (h:Q x objs nss):GetA W A (.ref c) name objs nss Q:=by rintro _ rfl hp tk X;have KX:K.In hp:=λa o e=>X.keep a o (G.kin a o e);exact cls_value (s:=St W.s₀ hp tk) KX hr hf hh ⟨hp,tk + 1,_,_,X,x,zBz hx,h⟩
theorem zAa {o:Expr}{name:Str}{apos pos:Pos}{es:List Expr}{pl:Sem Bool}{Q:V->jA->jB->Prop}
  (h:Ev W A env o objs nss λy o n=>∃ f,(∀ (v:Value) (hp:Heap) (tk:Nat) (Q':Value×List Value->Shared->Prop) (E:Value->Shared->Prop),y.Is v->Cx W hp o n->(∀ tk',Q' (f,[]) (St W.s₀ hp tk'))->wpAny (model W.prog W.w) A (getMethod v name pl) Q' E (St W.s₀ hp tk)) /\
   Tv W A (callWith pos f [] (backTo pos (starEach es env)) []) o n Q)
  (he:eval (.Call (.Attribute o name apos) es [] pos) env=(do
   let ov <- eval o env
   standAt apos.atName
   let (f,first) <- holding [ov] (getMethod ov name pl)
   callWith pos f first (backTo pos (starEach es env)) (backToKw pos (keywordEach [] env))):=by rfl) :
  Ev W A env (.Call (.Attribute o name apos) es [] pos) objs nss Q:=λhp tk C =>
 methodCall_KW (pl:=pl) (Tv.go h C λv y h₁ t₁ o n hy C₁ q=>q.casesOn λf q=>q.casesOn λhm q=>hm v h₁ t₁ _ _ hy C₁ λtk'=>q h₁ tk' C₁) he
theorem zEF {o:Expr}{name:Str}{apos pos:Pos}{es:List Expr}{pl:Sem Bool}{c f:Addr}{Q:V->jA->jB->Prop}(G:Gr W K mg mb)
  (h:Ev W A env o objs nss λy o n=>y = .ref c/\Evs W A env es o n λxs o n=>Cl W A (.ref f) xs o n Q)
  (hs:specialIn K (.ref c) "__getattribute__"=some (some (.builtin "type.__getattribute__"))) (hr:readsIn K c (.type "type")=true) (hf:findCls K (.ref c) (.type "type") name=some (.val (.ref f))) (hk:keepIn K (.ref f)=true) (hp:j0 es=true)
  (he:eval (.Call (.Attribute o name apos) es [] pos) env=(do
   let ov <- eval o env
   standAt apos.atName
   let (f,first) <- holding [ov] (getMethod ov name pl)
   callWith pos f first (backTo pos (starEach es env)) (backToKw pos (keywordEach [] env))):=by rfl) :
  Ev W A env (.Call (.Attribute o name apos) es [] pos) objs nss Q:=by
 refine zAa (Ev.mono h ?_) he;rintro _ o n ⟨rfl,q⟩;refine ⟨.ref f,?_,zCB (fx:=[]) G hk .nil q hp⟩;rintro _ hp tk Q' E rfl X hq;have KX:K.In hp:=λa o e=>X.keep a o (G.kin a o e);exact method_cls (s:=St W.s₀ hp tk) KX hs (cls_value (s:=St W.s₀ hp tk) KX hr hf (by rfl) (hq _))
theorem zFR {o:Expr}{apos pos:Pos}{es:List Expr}{pl:Sem Bool}{Q:V->jA->jB->Prop}(G:Gr W K mg mb)
  (h:Ev W A env o objs nss λy o n=>y = .ty "ValueError"/\Evs W A env es o n λxs o n=>Cl W A (.builtin "ValueError.__init__") xs o n Q)
  (hf:findCls K (.type "ValueError") (.type "type") "__init__"=some (.val (.builtin "ValueError.__init__"))) (hp:j0 es=true)
  (he:eval (.Call (.Attribute o "__init__" apos) es [] pos) env=(do
   let ov <- eval o env
   standAt apos.atName
   let (f,first) <- holding [ov] (getMethod ov "__init__" pl)
   callWith pos f first (backTo pos (starEach es env)) (backToKw pos (keywordEach [] env))):=by rfl) :
  Ev W A env (.Call (.Attribute o "__init__" apos) es [] pos) objs nss Q:=by
 refine zAa (Ev.mono h ?_) he;rintro _ o n ⟨rfl,q⟩;refine ⟨.builtin "ValueError.__init__",?_,zDL (fx:=[]) .nil q hp⟩;rintro _ hp tk Q' E rfl X hq;have KX:K.In hp:=λa o e=>X.keep a o (G.kin a o e);have ht:typeOf (.type "ValueError")=pure (.type "type"):=by first | rfl | kernel_rfl
 have hstub:opaqueClassAbove (.type "ValueError")=pure none:=by unfold opaqueClassAbove;dsimp only;rw [show Manifest.isStub "ValueError"=false from by decide +kernel];rfl
 have L0:Looks (model W.prog W.w) hp (typeOf (.type "ValueError")) (.type "type"):=Looks.of_pure ht;have hg:findIn K (.type "type") "__getattribute__"=some (some (.builtin "type.__getattribute__")):=type_tga;unfold getMethod specialOf;refine wpAny_bind (wpAny_bind (L0.here ((looks_findIn KX hg).here ?_)));dsimp only;rw [if_pos canon_tga];refine wpAny_bind (wpAny_mono (Q:=λv=>Q' (v,[])) (E:=E) ?_ (λ_ _ z=>wpAny_pure z) λ_ _ z=>z);have LO:Looks (model W.prog W.w) hp (opaqueClassAbove (.type "ValueError")) none:=Looks.of_pure hstub;exact cls_open (s:=St W.s₀ hp tk) KX LO L0 hg (looks_hook KX (r:=none) (by rfl)) (by show subIn K _ _=_;rfl) hf
  (wpAny_pure (by show wpAny _ _ (handedOut _) _ _ _;rw [handedOut_of (by rfl)];exact wpAny_pure (hq _)))
theorem zID {M:Model}{A:Around}{K:Frag}{C B N e:Addr}{s:Shared}{oe:Obj}{rest:List Value}{Q:Unit->Shared->Prop}{E:Value->Shared->Prop}(X:K.In s.heap) (hK:ExcK K C B N) (he:s.heap.get? e=some oe) (hcls:oe.cls = .ref C) (hq:Q () s) :
  wpAny M A (checkBuiltinCall "ValueError.__init__" ⟨.ref e::rest,[]⟩) Q E s:=by
 have F:=PySem.F.excBase_ValueError;obtain ⟨nm,q,bs,sn,sub,ab,col,dd,k0,k1,k2,k3,k5,hC⟩:=hK;obtain ⟨h,g,d,t,os⟩:=s;have hC:=X _ _ hC;have hcB:(Value.ref C::Value.ref B::veBases).contains (.type "ValueError")=true:=by rw [List.contains_cons,List.contains_cons,show veBases.contains (.type "ValueError")=true from by decide,Bool.or_true,Bool.or_true]
 have hshort:=F.noStar;simp only [checkBuiltinCall,F.initKind,F.initSplit,F.initRow];repeat (first | (with_reducible refine wpAny_loadPart_at he ?_;rw [hcls]) | with_reducible refine wpAny_loadPart_at hC ?_ | (with_reducible refine wpAny_isSubtype_exc hC ?_;rw [hcB]) | wp_step)
 refine wpAny_onRaise ?_;rw [show ∀ (a b:String) (n:Nat),Bind.check ⟨.positional,"*","ValueError",.self,[⟨"args",.varPos,false⟩]⟩ a b n (List.map (λx=>x.fst) ({ pos:=Value.ref e::rest }:Args).kw)=pure () from
  λa b n=>check_star_args _ _ _ _ _ _]
 exact wpAny_pure hq
set_option tactic.hygienic true in
theorem zFS {dd:Option Addr}{tb:Value}{x:V}{Q:V->jA->jB->Prop}(G:Gr W K mg mb) (hC:ExcK K C B N) (h:Q .none ((e,XO C dd tb)::objs) nss):Cl W A (.builtin "ValueError.__init__") [.ref e,x] ((e,XO C dd tb)::objs) nss Q:=by
 intro vs hvs hp tk X;obtain ⟨_,u,rfl,rfl,hu⟩:=hvs.two;obtain ⟨oe,he,hc,hdd,fs,hv,hsz,hv1⟩:=X.get (a:=e) (o:=XO C dd tb) .head;have KX:K.In hp:=λa o e=>X.keep a o (G.kin a o e);have F:=PySem.F.excBase_ValueError;refine wpAny_call (codeAny_call_builtin F.init.plain F.initEntry ?_);refine zID (s:=St W.s₀ hp tk) KX hC he hc ?_;unfold Builtin.«BaseException.__init__»;refine wpAny_bind (wpAny_newTuple ?_);have he₁:(hp.push { cls:=.type "tuple",data:=.seq [u].toArray }).get? e=some oe:=Heap.get?_push_of_some _ he;refine wpAny_bind ?_;unfold Builtin.BaseException.bexcPut;refine wpAny_bind (wpAny_field (s:=St W.s₀ _ tk) (x:=fs[0]) he₁ hv (by rw [Array.getElem?_eq_getElem (by omega)]) ?_);refine wpAny_bind (wpAny_setField (s:=St W.s₀ _ tk) he₁ hv (by omega) ?_);have hd₃:=Obj.data_mapFields hv (·.setIfInBounds 0 (Value.ref hp.objs.size));have he₃:=Heap.get?_update_self (Obj.mapFields (·.setIfInBounds 0 (Value.ref hp.objs.size))) he₁ (Obj.isFreed_of_fields hd₃);have X₁:=X.push (x:={ cls:=.type "tuple",data:=.seq [u].toArray }) (o:=.raw λ_=>True) trivial;have X₃:=X₁.put (a:=e) (o:=XO C dd tb) (o':=XO C dd tb) (.tail .head) (λb ob hb eb=>(Heap.get?_update_other _ _ (Ne.symm hb)).trans eb) he₃
  ⟨(Obj.cls_mapFields _ _).trans hc,by rw [<- hdd];cases oe;rename_i a b c d;cases c<;>rfl,_,hd₃,by simp [hsz],by simp [hv1]⟩
 have fin:∀ P:Fin->Shared->Prop,P (.done (.ret .none)) (St W.s₀ ((hp.push { cls:=.type "tuple",data:=.seq [u].toArray }).update e (Obj.mapFields (·.setIfInBounds 0 (Value.ref hp.objs.size)))) tk)->wpAny (model W.prog W.w) A.in1 (ret .none) P (λ_ _=>False) (St W.s₀ ((hp.push { cls:=.type "tuple",data:=.seq [u].toArray }).update e (Obj.mapFields (·.setIfInBounds 0 (Value.ref hp.objs.size)))) tk):=λP h=>wpAny_pure h;split
 ·exact wpAny_letGo (wpAny_pure ⟨_,tk,_,_,X₃.tailO,.none,rfl,h⟩)
 ·exact wpAny_pure (wpAny_pure ⟨_,tk,_,_,X₃.tailO,.none,rfl,h⟩)
end
end
theorem Ar.typeCall {A:Around}{k:Nat}{C:Addr}(R:Ar A (k + 1)) (vs:List Value):Ar (A.under (.builtin "type.__call__" ⟨.ref C::vs,[]⟩)) k:=by
 have w0:(Code.builtin "type.__call__" ⟨.ref C::vs,[]⟩).weight=1:=rfl;have c0:(Code.builtin "type.__call__" ⟨.ref C::vs,[]⟩).cUnits=1:=rfl;refine ⟨R.handled,?_,?_⟩
 ·show A.depth + (Code.builtin "type.__call__" ⟨.ref C::vs,[]⟩).weight + k < _;have:=R.depth;rw [w0];omega
 ·show A.units + (Code.builtin "type.__call__" ⟨.ref C::vs,[]⟩).cUnits + 8 * k < _;have:=R.units;rw [c0];omega
theorem zOB (B:Addr):Z9 (.ref B::veBases) "ValueError":=by refine ⟨?_,?_,?_,?_⟩<;>rw [List.contains_cons]<;>rfl
section
variable {W:Wd} {A:Around} {env:Env} {objs objs':jA} {nss:jB} {K:Frag} {mg mb:Str->Option Value} {C B N e:Addr}
theorem zIE {k:Nat}{fI:Addr}{xs:List V}{P:Addr->V->jA->Prop}{Q:V->jA->jB->Prop}(G:Gr W K mg mb) (R:Ar A (k + 1)) (hK:ExcK K C B N) (hi:findIn K (.ref C) "__init__"=some (some (.ref fI))) (hf:typeIn K (.ref fI)=some (.type "function"))
  (c:∀ e,Ct K mg mb k (.ref fI) (.ref e::xs) [(e,XO C none .none)] (P e)) (h:∀ e x o,P e x o->x = .none/\Q (.ref e) (o++objs) nss) (hz:xs.length<=10):Cl W A (.ref C) xs objs nss Q:=by
 intro vs hvs hp tk X;have KX:K.In hp:=λa o e=>X.keep a o (G.kin a o e);obtain ⟨nm,q,bs,sn,sub,ab,col,dd,k0,k1,k2,k3,k5,hC⟩:=hK;have X2:=(X.push (x:={ cls:=.type "tuple",data:=.seq vs.toArray }) (o:=.raw λ_=>True) trivial).push (x:={ cls:=.ref C,data:=.fields #[.ref hp.objs.size,.none,.none,.none,.bool false,.none] }) (o:=XO C none .none) ⟨rfl,rfl,_,rfl,rfl,rfl⟩;rw [Heap.size_push] at X2;exact zFP (bm:=.ref B::veBases) (K:=K) PySem.F.excBase_ValueError (zOB B) KX (KX _ _ hC) hi hf (Tv.go (Cl.use (objs:=(hp.objs.size + 1,XO C none .none)::objs) (o₂:=objs) (Q':=λx o n=>x = .none/\Q (.ref (hp.objs.size + 1)) o n) (c (hp.objs.size + 1)) G (R.typeCall (C:=C) vs) (Nat.le_refl _) (.refl _) (h _) (.ref (hp.objs.size + 1)::vs) (.cons rfl hvs)) (X2.sub (.cons_cons _ (.cons _ (.refl _)))) λr x h' t' o n hx C' q=>by obtain ⟨rfl,q⟩:=q;exact ⟨hx,h',t',o,n,C',.ref (hp.objs.size + 1),rfl,q⟩) (by rw [hvs.length,sizeLine_eq];omega)
theorem zEG {hp:Heap}{g:Array GenState}{d:Drawn}{tk:Nat}{os:OsState}{prog:Program}{w:World}{E:Value->Shared->Prop}{ox:Obj}{vs:Array Value}{Q:Flow->Shared->Prop}(hK:ExcK K C B N) (hh:A.handled=none) (KX:K.In hp) (he:hp.get? e=some ox) (hc:ox.cls = .ref C) (hv:ox.data = .fields vs) (hv1:vs[1]?=some .none) (hq:E (.ref e) ⟨hp,g,d,tk,os⟩) :
  wpAny (model prog w) A (raiseStmt env (some (pure (.ref e))) none) Q E ⟨hp,g,d,tk,os⟩:=by
 obtain ⟨nm,q,bs,sn,sub,ab,col,dd,k0,k1,k2,k3,k5,hC⟩:=hK;have hC:=KX _ _ hC;have hcB:(Value.ref C::Value.ref B::veBases).contains (.type "BaseException")=true:=rfl;unfold raiseStmt;repeat (first | (with_reducible refine wpAny_loadPart_at he ?_;rw [hc]) | with_reducible refine wpAny_loadPart_at hC ?_ | with_reducible refine wpAny_field he hv hv1 ?_ | (with_reducible refine wpAny_isSubtype_exc hC ?_;rw [hcB]) | wp_step)
 exact wpAny_raiseNew_none hh hq
inductive zOC (C:Addr) (X:Addr->jA->jB->Prop) (y:V) (o:jA) (n:jB):Prop
 | mk (e:Addr) (dd:Option Addr) (hy:y = .ref e) (hb:Has e (XO C dd .none) o) (q:X e o n)
theorem zEH {x:Expr}{pos:Pos}{X:Addr->jA->jB->Prop}(G:Gr W K mg mb) (hK:ExcK K C B N) (hh:A.handled=none) (h:Ev W A env x objs nss (zOC C X)):ExX W A env (.Raise (some x) none pos) objs nss X:=λhp tk C0=>by rw [arm_exec_Raise];refine wpAny_bind (wpAny_standAt ?_);show wpAny _ _ ((eval x env >>= λv=>standAt pos >>= λ_=>pure v) >>= λv=>raiseStmt env (some (pure v)) none) _ _ _;refine wpAny_bind (wpAny_bind (Tv.go h C0 λv y h₁ t₁ o n hy C₁ q=>wpAny_bind (wpAny_standAt (wpAny_pure ?_))));obtain ⟨e,dd,rfl,hb,q⟩:=q;subst hy;obtain ⟨oe,he,hc,hdd,vs,hv,hsz,hv1⟩:=C₁.get hb;exact zEG hK hh (λb o e=>C₁.keep b o (G.kin b o e)) he hc hv hv1 ⟨e,h₁,t₁,o,n,C₁,q⟩
end
section
variable {W:Wd} {A:Around} {env:Env} {objs:jA} {nss:jB} {names:List (Str×NameKind)} {L:Addr} {cells:List (Str×Addr)} {K:Frag} {mg mb:Str->Option Value}
inductive zLa (L:Addr) (nss:jB) (Q:V->jA->Prop) (f:Fl) (o:jA) (n:jB):Prop
 | mk (ll:jX) (hn:n=(L,ll)::nss) (q:match f with | .next=>Q .none o | .ret x=>Q x o)
inductive zLb (nss:jB) (Q:V->jA->Prop) (x:V) (o:jA) (n:jB):Prop
 | mk (o':jA) (hn:n=nss) (s:Sel o' o) (q:Q x o')
theorem zFT {f:Addr}{ys:List Str}{body:List Stmt}{xs xs':List V}{k:Nat}{Q:V->jA->Prop}(e:JX K mg mb f names ys body xs xs') (G:Gr W K mg mb) (R:Ar A (k + 1))
  (h:∀ L,LayQ names [] objs λcs o=>∀ env A',InF A k names L cs env A'->BindQ W A.in1 env ys xs' o ((L,[])::nss) (λo n=>Es W A' env body o n (zLa L nss λx o=>∃ o',Sel o' o/\Q x o'))):Cc W A (.ref f) xs objs nss (zLb nss Q) :=
 e W A k _ _ _ G R λL=>LayQ.mono (λcs o hb env A' I=>BindQ.mono (λo n q h₁ t₁ C₁=>Fo.go q C₁ λfl x h₂ t₂ o₂ n₂ hx C₂ q=>by
  obtain ⟨ll,rfl,q⟩:=q;induction x with
  | next=>subst hx;obtain ⟨o',s,q⟩:=q;exact ⟨_,h₂,t₂,o₂,nss,C₂.pop,.none,rfl,o',rfl,s,q⟩
  | ret x=>obtain ⟨v,rfl,hv⟩:=hx;obtain ⟨o',s,q⟩:=q;exact ⟨_,h₂,t₂,o₂,nss,C₂.pop,x,hv,o',rfl,s,q⟩) (hb env A' I)) (h L)
noncomputable def CtF (K:Frag) (mg mb:Str->Option Value) (A:Around) (nss:jB) (f:Value) (xs:List V) (o:jA) (Q:V->jA->Prop):Prop :=
 ∀ W,Gr W K mg mb->Cl W A f xs o nss (zLb nss Q)
theorem Tr.fn {α:Type}{t:Sem α}{o p:jA}{n m:jB}{Q:α->jA->jB->Prop}(G:Gr W K mg mb) (h:∀ W',Gr W' K mg mb->Tr W' A t o n λx o' n'=>Q x (o'++p) (n'++m)):Tr W A t (o++p) (n++m) Q:=λhp tk C =>
 Tr.go (W:=Cx.Wd.into W hp (o.map Prod.fst++n.map Prod.fst)) (h _ (G.into C)) C.into λv h₁ t₁ o₁ n₁ C₁ q=>⟨h₁,t₁,o₁++p,n₁++m,C.back C₁,q⟩
theorem CtF.use {f:Value}{xs:List V}{o o₂:jA}{Q:V->jA->Prop}{Q':V->jA->jB->Prop}(c:CtF K mg mb A nss f xs o Q) (G:Gr W K mg mb) (p:objs.Perm (o++o₂))
  (h:∀ x o',Q x o'->Q' x (o'++o₂) nss):Cl W A f xs objs nss Q':=λvs hvs=>Tr.perm p (by
 have key:Tr W A (call f vs) (o++o₂) (nss++[]) (VO Q'):=Tr.fn G λW' G'=>λhp tk C=>Tv.go (c W' G' vs hvs) C λv x h₁ t₁ o₁ n₁ hx C₁ q=>by obtain ⟨o',rfl,hsel,q⟩:=q;exact ⟨h₁,t₁,o',n₁,C₁.sel hsel,x,hx,by rw [List.append_nil];exact h x o' q⟩
 rwa [List.append_nil] at key)
end
noncomputable abbrev la:=Builtin.bitAnd
noncomputable abbrev jd:=Builtin.bitOr
noncomputable abbrev lx:=Builtin.bitXor
noncomputable def yy (old v:Int):Int:=if la (la v 924074) 6144==4096 then jd (la (la v 924074) (lx 4294967295 6144)) (la old 6144) else la v 924074
noncomputable def zEI (st x y z:Int):Int:=jd (la st (lx 4294967295 786722)) (la (la (jd (la (jd (la (jd (la (la st 786722) 4294967293) (x * 2)) 4294967263) (y * 32)) 4294967039) (z * 256)) 4294967295) 786722)
noncomputable def zEJ (st x y z:Int):Int:=yy st (la (jd (la (jd (la (jd (la st 4294967287) (x * 8)) 4294967167) (y * 128)) 4294961151) (z * 2048)) 4294967295)
noncomputable def zw (sl sa sm ml ma mm r:Int):Int:=sl * 2 + sa * 32 + sm * 256 + ml * 8 + ma * 128 + mm * 2048 + r * 131072
noncomputable def b2:List Int:=[0,1]
noncomputable def b3:List Int:=[0,1,3]
noncomputable def b8:List Int:=[0,1,2,3,4,5,6,7]
noncomputable def chk (f:Int->Int->Int->Int->Int->Int->Int->Bool):Bool :=
 b2.all λa=>b2.all λb=>b2.all λc=>b2.all λd=>b2.all λe=>b3.all λg=>b8.all λr=>f a b c d e g r
theorem yO {f:Int->Int->Int->Int->Int->Int->Int->Bool}(h:chk f=true) {a b c d e g r:Int}(ha:a ∈ b2) (hb:b ∈ b2) (hc:c ∈ b2) (hd:d ∈ b2) (he:e ∈ b2) (hg:g ∈ b3) (hr:r ∈ b8):f a b c d e g r=true:=by unfold chk at h;simp only [List.all_eq_true] at h;exact h a ha b hb c hc d hd e he g hg r hr
section
variable {a b c d e g r x y z:Int} (ha:a ∈ b2) (hb:b ∈ b2) (hc:c ∈ b2) (hd:d ∈ b2) (he:e ∈ b2) (hg:g ∈ b3) (hr:r ∈ b8)
include ha hb hc hd he hg hr
theorem zIF:la (zw a b c d e g r) 917504=r * 131072:=by have:=yO (f:=λa b c d e g r=>la (zw a b c d e g r) 917504==r * 131072) (by decide +kernel) ha hb hc hd he hg hr;simpa using this
theorem zPs:la (la (zw a b c d e g r) 786722 / 2) 1=a/\la (la (zw a b c d e g r) 786722 / 32) 1=b/\la (la (zw a b c d e g r) 786722 / 256) 1=c:=by have:=yO (f:=λa b c d e g r=>la (la (zw a b c d e g r) 786722 / 2) 1==a&&(la (la (zw a b c d e g r) 786722 / 32) 1==b&&la (la (zw a b c d e g r) 786722 / 256) 1==c)) (by decide +kernel) ha hb hc hd he hg hr;simpa using this
theorem zPt:la (zw a b c d e g r / 8) 1=d/\la (zw a b c d e g r / 128) 1=e/\la (zw a b c d e g r / 2048) 3=g:=by have:=yO (f:=λa b c d e g r=>la (zw a b c d e g r / 8) 1==d&&(la (zw a b c d e g r / 128) 1==e&&la (zw a b c d e g r / 2048) 3==g)) (by decide +kernel) ha hb hc hd he hg hr;simpa using this
theorem zIG:(la (zw a b c d e g r) 2 != 0)=(a==1)/\(la (zw a b c d e g r) 8 != 0)=(d==1):=by have:=yO (f:=λa b c d e g r=>(la (zw a b c d e g r) 2 != 0)==(a==1)&&((la (zw a b c d e g r) 8 != 0)==(d==1))) (by decide +kernel) ha hb hc hd he hg hr;simpa using this
theorem zDO (hx:x ∈ b2) (hy:y ∈ b2) (hz:z ∈ b2):zEI (zw a b c d e g r) x y z=zw x y z d e g r:=by have:=yO (f:=λa b c d e g r=>b2.all λx=>b2.all λy=>b2.all λz=>zEI (zw a b c d e g r) x y z==zw x y z d e g r) (by decide +kernel) ha hb hc hd he hg hr;simp only [List.all_eq_true] at this;simpa using this x hx y hy z hz
theorem zDP (hx:x ∈ b2) (hy:y ∈ b2) (hz:z ∈ b3):zEJ (zw a b c d e g r) x y z=zw a b c x y z r:=by have:=yO (f:=λa b c d e g r=>b2.all λx=>b2.all λy=>b3.all λz=>zEJ (zw a b c d e g r) x y z==zw a b c x y z r) (by decide +kernel) ha hb hc hd he hg hr;simp only [List.all_eq_true] at this;simpa using this x hx y hy z hz
theorem zEK (hx:x ∈ b2):jd (jd (la (zw a b c d e g r) (lx 4294967295 (jd (jd 32 2) 256))) (if la (zw a b c d e g r) 2 != 0 then 32 else 0)) (256 * if x==1 then 1 else 0)=zw 0 a x d e g r:=by have:=yO (f:=λa b c d e g r=>b2.all λx=>jd (jd (la (zw a b c d e g r) (lx 4294967295 (jd (jd 32 2) 256))) (if la (zw a b c d e g r) 2 != 0 then 32 else 0)) (256 * if x==1 then 1 else 0)==zw 0 a x d e g r) (by decide +kernel) ha hb hc hd he hg hr;simp only [List.all_eq_true] at this;simpa using this x hx
theorem zEL (hx:x ∈ b3):jd (jd (la (zw a b c d e g r) (lx 4294967295 (jd (jd 128 8) 6144))) (if la (zw a b c d e g r) 8 != 0 then 128 else 0)) (x * 2 ^ 11)=zw a b c 0 d x r:=by have:=yO (f:=λa b c d e g r=>b3.all λx=>jd (jd (la (zw a b c d e g r) (lx 4294967295 (jd (jd 128 8) 6144))) (if la (zw a b c d e g r) 8 != 0 then 128 else 0)) (x * 2 ^ 11)==zw a b c 0 d x r) (by decide +kernel) ha hb hc hd he hg hr;simp only [List.all_eq_true] at this;simpa using this x hx
noncomputable def lvM (st:Int):Int :=
 let s:=jd (jd (la st (lx 4294967295 (jd 8 6144))) (if la st 128 != 0 then 8 else 0)) 128
 if la st 6144 / 2048 != 3 then la s (lx 4294967295 131072) else s
theorem zEM:la (zw a b c d e g r) 6144 / 2048=g/\lvM (zw a b c d e g r)=zw a b c e 1 0 (if g != 3 then r / 2 * 2 else r):=by have:=yO (f:=λa b c d e g r=>la (zw a b c d e g r) 6144 / 2048==g&&lvM (zw a b c d e g r)==zw a b c e 1 0 (if g != 3 then r / 2 * 2 else r)) (by decide +kernel) ha hb hc hd he hg hr;simpa using this
theorem zEN:(if la (zw a b c d e g r) 256 != 0 then 1 else 0)=c/\jd (jd (la (zw a b c d e g r) (lx 4294967295 (jd (jd 2 256) 131072))) (if la (zw a b c d e g r) 32 != 0 then 2 else 0)) 32=zw b 1 0 d e g (r / 2 * 2):=by have:=yO (f:=λa b c d e g r=>(if la (zw a b c d e g r) 256 != 0 then 1 else 0)==c&&jd (jd (la (zw a b c d e g r) (lx 4294967295 (jd (jd 2 256) 131072))) (if la (zw a b c d e g r) 32 != 0 then 2 else 0)) 32==zw b 1 0 d e g (r / 2 * 2)) (by decide +kernel) ha hb hc hd he hg hr;simpa using this
end
theorem Za {r:Int}(h:r ∈ b8):r / 2 * 2 ∈ b8/\la (r * 131072) 786432=r / 2 * 2 * 131072:=by
 have:(b8.all λr=>b8.contains (r / 2 * 2)&&la (r * 131072) 786432==r / 2 * 2 * 131072)=true:=by decide +kernel
 simp only [List.all_eq_true] at this;simpa using this r h
theorem zIH {r:Int}(h:r ∈ b8):yy 0 (la (r * 131072) 4294967295)=zw 0 0 0 0 0 0 r:=by
 have:(b8.all λr=>yy 0 (la (r * 131072) 4294967295)==zw 0 0 0 0 0 0 r)=true:=by decide +kernel
 simp only [List.all_eq_true] at this;simpa using this r h
section
variable {W:Wd} {A:Around} {env:Env} {objs objs':jA} {nss:jB} {names:List (Str×NameKind)} {L:Addr} {cells:List (Str×Addr)} {ll ll':jX} {K:Frag} {mg mb:Str->Option Value}
theorem Zb {Q:List V->jA->jB->Prop}(h:Q [] objs nss):Evs W A env [] objs nss Q:=h
theorem J1 {e:Expr}{r:List Expr}{Q:List V->jA->jB->Prop}(h:Ev W A env e objs nss λx o n=>Evs W A env r o n λxs=>Q (x::xs)):Evs W A env (e::r) objs nss Q:=h
theorem zAb {K:Frag}{fd:FuncData}{ys:List Str}{xs:List V}(h:∀ vs,All2 xs vs->bindArgs fd ⟨vs,[]⟩=pure (ys.zip vs)):∀ (s:Shared) vs,K.In s.heap->All2 xs vs->∃ vs':List Value,All2 xs vs'/\BindsTo s fd ⟨vs,[]⟩ (ys.zip vs') :=
 λs vs _ hv=>⟨vs,hv,BindsTo.of_eq (h vs hv)⟩
end
section
variable {W:Wd} {A:Around} {env:Env} {objs objs':jA} {nss:jB} {K:Frag} {mg mb:Str->Option Value}
noncomputable def MethAt (W:Wd) (A:Around) (env:Env) (C:Addr) (name:Str) (f:Addr) (es:List Expr) (Q:V->jA->jB->Prop) (y:V) (o:jA) (n:jB):Prop :=
 ∃ b d kvs,y = .ref b/\Has b (.inst C d) o/\Has d (.attrs kvs) o/\kvs.lookup name=none/\Evs W A env es o n λxs o n=>Cl W A (.ref f) (.ref b::xs) o n Q
theorem MethAt.mk {C:Addr}{name:Str}{f:Addr}{es:List Expr}{Q:V->jA->jB->Prop}{b d:Addr}{kvs:List (Str×V)}(h1:Has b (.inst C d) objs) (h2:Has d (.attrs kvs) objs) (h3:kvs.lookup name=none) (h:Evs W A env es objs nss λxs o n=>Cl W A (.ref f) (.ref b::xs) o n Q) :
  MethAt W A env C name f es Q (.ref b) objs nss:=⟨b,d,kvs,rfl,h1,h2,h3,h⟩
theorem zII {o:Expr}{name:Str}{apos pos:Pos}{es:List Expr}{pl:Sem Bool}{C f:Addr}{Q:V->jA->jB->Prop}(G:Gr W K mg mb) (hg:plainGet K C name=true) (hf:findIn K (.ref C) name=some (some (.ref f))) (ht:isFn K (.ref f)=true) (hk:keepIn K (.ref f)=true)
  (h:Ev W A env o objs nss (MethAt W A env C name f es Q))
  (hp:j0 es=true)
  (he:eval (.Call (.Attribute o name apos) es [] pos) env=(do
   let ov <- eval o env
   standAt apos.atName
   let (f,first) <- holding [ov] (getMethod ov name pl)
   callWith pos f first (backTo pos (starEach es env)) (backToKw pos (keywordEach [] env))):=by rfl) :
  Ev W A env (.Call (.Attribute o name apos) es [] pos) objs nss Q:=by
 refine Qp (Ev.mono h ?_) he;rintro _ o n ⟨b,d,kvs,rfl,hb,hd,hl,q⟩;refine ⟨.ref f,?_,?_⟩
 ·rintro _ hp tk Q' E rfl X hq;obtain ⟨es,n,hes,I,ed⟩:=Z8 X hb hd;have KX:K.In hp:=λa o e=>X.keep a o (G.kin a o e);exact method_fn (s:=St W.s₀ hp tk) KX I (plainGet_of hg).1 (plainGet_of hg).2 hf (beq_iff_eq.mp ht) (by unfold shadowIn;dsimp only;rw [(hes.look name n).1 hl];rfl) hq
 ·rintro _ rfl;exact zCB (fx:=[.ref b]) G hk (.cons rfl .nil) q hp
noncomputable def SlToAt (b:Int) (Q:V->jA->jB->Prop) (x:V) (o:jA) (n:jB):Prop:=∃ l xs ys,x = .ref l/\Has l (.list xs) o/\xs.length<=1000/\xs.take b.toNat=ys/\∀ a,Q (.ref a) ((a,.list ys)::o) n
theorem SlToAt.mk {b:Int}{l:Addr}{xs ys:List V}{Q:V->jA->jB->Prop}(h1:Has l (.list xs) objs) (h2:xs.length<=1000) (h3:xs.take b.toNat=ys) (h:∀ a,Q (.ref a) ((a,.list ys)::objs) nss):SlToAt b Q (.ref l) objs nss:=⟨l,xs,ys,rfl,h1,h2,h3,h⟩
noncomputable def SlAtAt (a b:Int) (Q:V->jA->jB->Prop) (x:V) (o:jA) (n:jB):Prop:=∃ l xs ys,x = .ref l/\Has l (.list xs) o/\xs.length<=1000/\b<=xs.length/\(xs.drop a.toNat).take (b.toNat - a.toNat)=ys/\∀ a,Q (.ref a) ((a,.list ys)::o) n
theorem SlAtAt.mk {a b:Int}{l:Addr}{xs ys:List V}{Q:V->jA->jB->Prop}(h1:Has l (.list xs) objs) (h2:xs.length<=1000) (h4:b<=xs.length) (h3:(xs.drop a.toNat).take (b.toNat - a.toNat)=ys) (h:∀ a,Q (.ref a) ((a,.list ys)::objs) nss):SlAtAt a b Q (.ref l) objs nss:=⟨l,xs,ys,rfl,h1,h2,h4,h3,h⟩
theorem zIJ {value:Expr}{a b:Int}{k1 k2:Nat}{p1 p2 p pos:Pos}{Q:V->jA->jB->Prop}(h:Ev W A env value objs nss (SlAtAt a b Q)) (ha:0<=a) (hb:a<=b)
  (ht:∀ o r,letTemporaryGo value o r=pure ()):Ev W A env (.Subscript value (.Slice (some (.Constant (.int a) k1 p1)) (some (.Constant (.int b) k2 p2)) none p) pos) objs nss Q:=by
 intro hp tk C;refine wpAny_Subscript_list_slice (Tv.go (h) C λv x h₁ t₁ o n hx C₁ qq=>?_) ht;obtain ⟨l,xs,ys,rfl,hl,hz,hbl,rfl,q⟩:=qq;subst hx;obtain ⟨vs,kk,e1,hys⟩:=zF C₁ hl;show wpAny _ _ (eval (.Constant (.int a) k1 p1) env) _ _ _;refine wpAny_Constant_int ?_;show wpAny _ _ (eval (.Constant (.int b) k2 p2) env) _ _ _;refine wpAny_Constant_int ⟨l,vs.toArray,some a,some b,rfl,⟨_,e1,rfl,kk,rfl⟩,by rw [List.size_toArray,hys.length];exact zC hz,.int _ _,.int _ _,?_⟩;obtain ⟨m,rfl⟩:=Int.eq_ofNat_of_zero_le ha;obtain ⟨m',rfl⟩:=Int.eq_ofNat_of_zero_le (Int.le_trans ha hb);rw [show slicePick vs.toArray (some ((m:Nat):Int)) (some ((m':Nat):Int)) none=((vs.drop m).take (m' - m)).toArray from slicePick_run _ _ _ (by simp [hys.length];omega) (by omega)];have C₂:Cx W (h₁.push { cls:=.type "slice",data:=.fields #[.int m t₁,.int m' (t₁ + 1),.none] }) o n:=C₁.grown' λb o e=>Heap.get?_push_of_some _ e;have C₃:=C₂.push (x:={ cls:=.type "list",data:=.seq ((vs.drop m).take (m' - m)).toArray }) (o:=.list ((xs.drop m).take (m' - m))) ⟨rfl,(vs.drop m).take (m' - m),0,rfl,((hys.takeDrop m).2.takeDrop (m' - m)).1,rfl,rfl⟩;rw [Heap.size_push] at C₃;exact ⟨_,t₁ + 2,_,_,C₃,.ref _,rfl,q _⟩
end
section
variable {W:Wd} {A:Around} {env:Env} {objs objs':jA} {nss:jB} {K:Frag} {mg mb:Str->Option Value}
noncomputable def zFU (es:List DictEntry):List Int:=es.filterMap λe=>match e.key with | .int k _=>some k | _=>none
noncomputable def zFV (es:List DictEntry):Bool:=es.all λe=>match e.key with | .int k _=>e.hash==PySem.hashInt k | _=>false
set_option tactic.hygienic true in
theorem zLc {d:Addr}{es:Array DictEntry}{ep:Nat}{k:Int}{Q:V->jA->jB->Prop}(G:Gr W K mg mb) (ho:K.lookup d=some ⟨.type "dict",none,.dict es ep,#[]⟩) (hk:zFV es.toList=true) (hlow:(d==sysModules)=false)
  (hin:(zFU es.toList).contains k=true) (h:Q (.bool false) objs nss):Cmp W A .NotIn (.int k) (.ref d) objs nss Q:=by
 rintro _ _ ⟨t,rfl⟩ rfl hp tk C;have he:=C.keep _ _ (G.kin _ _ ho);have hm:hp.MapOf (PySem.intKind W.prog W.w) d (λk=>findBy (PySem.intKind W.prog W.w).is es k):=by
  refine ⟨_,es,ep,he,⟨rfl,rfl,rfl⟩,rfl,λe hm=>?_,λ_=>rfl⟩;have:=List.all_eq_true.mp hk e (by simpa using hm);split at this
  ·rename_i k t q;exact ⟨k,by rw [q];simp [PySem.intKind,Value.isInt],by simpa [PySem.intKind] using this⟩
  ·contradiction
 refine wpAny_notIn_of (s:=St W.s₀ hp tk) (k:=k) (by simp [PySem.intKind,Value.isInt]) hlow hm ?_;have:(findBy (PySem.intKind W.prog W.w).is es k).isSome=true:=by
  unfold findBy;rw [Option.isSome_map,<- Array.find?_toList,List.find?_isSome];unfold zFU at hin;rw [List.contains_iff_mem] at hin;obtain ⟨e,h1,h2⟩:=List.mem_filterMap.mp hin;refine ⟨e,h1,?_⟩;split at h2
  ·rename_i q;obtain rfl:=Option.some.inj h2;rw [q];simp [PySem.intKind,Value.isInt]
  ·contradiction
 rw [this];exact ⟨hp,tk + 1,_,_,C,.bool false,rfl,h⟩
end
theorem zFW (a:Int):0<=la a 1/\la a 1<=1:=by rw [show la a 1=a % 2 from kbt_mask a 1];exact ⟨Int.emod_nonneg _ (by decide),Int.le_of_lt_add_one (Int.emod_lt_of_pos _ (by decide))⟩
theorem z7 (a:Int):(la a 1).natAbs < 2 ^ 64:=by have:=zFW a;omega
section
variable {W:Wd} {A:Around} {env:Env} {objs:jA} {nss:jB} {K:Frag} {mg mb:Str->Option Value}
theorem zFX {t:Expr}{keys:List (Option Expr)}{values:List Expr}{p pos:Pos}{Q:Fl->jA->jB->Prop}(h:∀ e,e=Expr.Dict keys values p->Ev W A env e objs nss λx o n=>As W A env t x o n (Q .next))
  (ht:assignEach [t] env=[(false,assign t env)]):Ex W A env (.Assign [t] (.Dict keys values p) pos) objs nss Q :=
 zY (h _ rfl) rfl (by unfold swappedStores;cases t<;>rfl) ht
theorem zDQ {xs:List V}{zs:List (Nat×V)}(e:xs.mapIdx (λi y=>(i,y))=zs):zs.length=xs.length/\∀ (i:Nat) (y:V),xs[i]?=some y->zs[i]?=some (i,y):=by subst e;refine ⟨by simp,λi y h=>?_⟩;rw [List.getElem?_mapIdx,h];rfl
end
section
variable {W:Wd} {A:Around} {env:Env} {objs:jA} {nss:jB} {K:Frag} {mg mb:Str->Option Value}
end
section
variable {W:Wd} {A:Around} {env:Env} {objs:jA} {nss:jB}
theorem zEO {prog:Program}{w:World}{E:Value->Shared->Prop}{s:Shared}{value:Expr}{lower upper:Option Expr}{p pos:Pos}{Q:Value->Shared->Prop}
  (h:wpAny (model prog w) A (eval value env) (λo s₁=>wpAny (model prog w) A (eval (.Slice lower upper none p) env) (λi s₂=>s₂.TypeIs o "list"/\wpAny (model prog w) A (getItem o i) Q E s₂) E s₁) E s) :
  wpAny (model prog w) A (eval (.Subscript value (.Slice lower upper none p) pos) env) Q E s:=by
 rw [eval_Subscript];refine wpAny_bind (wpAny_mono h (λo s₁ h₁=>wpAny_bind (wpAny_holding (wpAny_mono h₁ (λi s₂ h₂=>wpAny_bind (wpAny_standAt ?_)) λ_ _ x=>x))) λ_ _ x=>x);have fin:wpAny (model prog w) A (operate [i,o] (getItem o i)) (λr s₃=>wpAny (model prog w) A (letTemporaryGo value o r >>= λ_=>pure r) Q E s₃) E s₂ :=
  wpAny_operating (wpAny_mono h₂.2 (λr s₃ h₃=>wpAny_bind (wpAny_letTemporaryGo (wpAny_pure h₃))) λ_ _ x=>x)
 refine wpAny_bind ?_;rw [getitemInPython_of_ne h₂.1.not_modules];refine wpAny_bind (wpAny_specialOf h₂.1 list_getitem_lookup ?_);exact wpAny_pure (wpAny_bind fin)
theorem Zw {prog:Program}{w:World}{E:Value->Shared->Prop}{s:Shared}{value:Expr}{lower upper:Option Expr}{p pos:Pos}{Q:Value->Shared->Prop}
  (h:wpAny (model prog w) A (eval value env) (λo s₁=>wpAny (model prog w) A (evalPart lower env) (λvl s₂=>wpAny (model prog w) A (evalPart upper env) (λvu s₃ =>
   ∃ l items lo hi,o = .ref l/\s₃.heap.IsList l items/\items.size<=sizeLine/\IsPart vl lo/\IsPart vu hi /\
    Q (.ref (s₃.heap.objs.size + 1)) { s₃ with heap:=(s₃.heap.push { cls:=.type "slice",data:=.fields #[vl,vu,.none] }).push { cls:=.type "list",data:=.seq (slicePick items lo hi none) } }) E s₂) E s₁) E s) :
  wpAny (model prog w) A (eval (.Subscript value (.Slice lower upper none p) pos) env) Q E s:=by
 refine zEO (wpAny_mono h (λo s₁ h₁=>wpAny_Slice (wpAny_mono h₁ (λvl s₂ h₂=>wpAny_mono h₂ (λvu s₃ h₃=>?_) λ_ _ e=>e) λ_ _ e=>e)) λ_ _ e=>e);obtain ⟨l,items,lo,hi,rfl,hl,hsz,pl,pu,hQ⟩:=h₃;rw [evalPart_none];refine wpAny_pure ⟨(hl.push _).typeIs,wpAny_getItem_list_slice (hl.push _) (Heap.IsSliceOf.new ..) pl pu .none (by simp) ?_ hsz⟩;rw [Heap.size_push];exact hQ
theorem zFY {value:Expr}{b:Int}{k:Nat}{pc p pos:Pos}{Q:V->jA->jB->Prop}(h:Ev W A env value objs nss (SlToAt b Q)) (hb:0<=b):Ev W A env (.Subscript value (.Slice none (some (.Constant (.int b) k pc)) none p) pos) objs nss Q:=by intro hp tk C;refine Zw (Tv.go (h) C λv x h₁ t₁ o n hx C₁ qq=>?_);obtain ⟨l,xs,ys,rfl,hl,hz,rfl,q⟩:=qq;subst hx;obtain ⟨vs,kk,e1,hys⟩:=zF C₁ hl;refine wpAny_pure ?_;show wpAny _ _ (eval (.Constant (.int b) k pc) env) _ _ _;refine wpAny_Constant_int ⟨l,vs.toArray,none,some b,rfl,⟨_,e1,rfl,kk,rfl⟩,by rw [List.size_toArray,hys.length];exact zC hz,.none,.int _ _,?_⟩;obtain ⟨m,rfl⟩:=Int.eq_ofNat_of_zero_le hb;rw [show slicePick vs.toArray none (some ((m:Nat):Int)) none=(vs.take m).toArray from slicePick_upto' _ _];have C₂:Cx W (h₁.push { cls:=.type "slice",data:=.fields #[.none,.int m t₁,.none] }) o n:=C₁.grown' λb o e=>Heap.get?_push_of_some _ e;have C₃:=C₂.push (x:={ cls:=.type "list",data:=.seq (vs.take m).toArray }) (o:=.list (xs.take m)) ⟨rfl,vs.take m,0,rfl,(hys.takeDrop m).1,rfl,rfl⟩;rw [Heap.size_push] at C₃;exact ⟨_,t₁ + 1,_,_,C₃,.ref _,rfl,q _⟩
end
theorem Has.take {a:Addr}{o:Ob}{N:jA}(h:Has a o N):∃ N',N.Perm ((a,o)::N'):=by
 induction h with
 | head=>exact ⟨_,List.Perm.refl _⟩
 | tail _ ih=>obtain ⟨N',p⟩:=ih;exact ⟨_,(p.cons _).trans (List.Perm.swap ..)⟩
theorem Has.perm {a:Addr}{o:Ob}{N N':jA}(h:Has a o N) (p:N.Perm N'):Has a o N':=.of_mem (p.mem_iff.mp h.mem)
noncomputable abbrev z5 (vs:List Value):Ob:=.raw (λo=>o={ cls:=.type "list",data:=.seq vs.toArray })
section
variable {W:Wd} {A:Around} {env:Env} {objs:jA} {nss:jB}
theorem zIK {value:Expr}{b:Int}{k:Nat}{pc p pos:Pos}{l:Addr}{xs ys:List V}{vs:List Value}{Q:V->jA->jB->Prop}(hys:All2 xs vs) (hz:xs.length<=1000) (he:xs.take b.toNat=ys)
  (h:Ev W A env value objs nss λx o n=>x = .ref l/\Has l (z5 vs) o/\∀ a,Q (.ref a) ((a,.list ys)::o) n) (hb:0<=b):Ev W A env (.Subscript value (.Slice none (some (.Constant (.int b) k pc)) none p) pos) objs nss Q:=by
 subst he;intro hp tk C;refine Zw (Tv.go (h) C λv x h₁ t₁ o n hx C₁ qq=>?_);obtain ⟨rfl,hl,q⟩:=qq;subst hx;obtain ⟨ob,e1,rfl⟩:=C₁.get hl;refine wpAny_pure ?_;show wpAny _ _ (eval (.Constant (.int b) k pc) env) _ _ _;refine wpAny_Constant_int ⟨l,vs.toArray,none,some b,rfl,⟨_,e1,rfl,0,rfl⟩,by rw [List.size_toArray,hys.length];exact zC hz,.none,.int _ _,?_⟩;obtain ⟨m,rfl⟩:=Int.eq_ofNat_of_zero_le hb;rw [show slicePick vs.toArray none (some ((m:Nat):Int)) none=(vs.take m).toArray from slicePick_upto' _ _];have C₂:Cx W (h₁.push { cls:=.type "slice",data:=.fields #[.none,.int m t₁,.none] }) o n:=C₁.grown' λb o e=>Heap.get?_push_of_some _ e;have C₃:=C₂.push (x:={ cls:=.type "list",data:=.seq (vs.take m).toArray }) (o:=.list (xs.take m)) ⟨rfl,vs.take m,0,rfl,(hys.takeDrop m).1,rfl,rfl⟩;rw [Heap.size_push] at C₃;exact ⟨_,t₁ + 1,_,_,C₃,.ref _,rfl,q _⟩
theorem zLd {l:Addr}{xs:List V}{vs:List Value}{Q:V->jA->jB->Prop}(hys:All2 xs vs) (hl:Has l (z5 vs) objs) (hz:xs.length<=1000) (h:Q (.int xs.length) objs nss):Cl W A (.builtin "len") [.ref l] objs nss Q:=by intro vv hvv hp tk X;obtain ⟨_,rfl,rfl⟩:=hvv.one;obtain ⟨ob,e1,rfl⟩:=X.get hl;refine call_len_list (s:=St W.s₀ hp tk) ⟨_,e1,rfl,0,rfl⟩ (by simp [hys.length];omega) ?_;exact ⟨hp,tk + 1 + 1,_,_,X,.int xs.length,⟨tk + 1,by simp [hys.length]⟩,h⟩
end
noncomputable def zx:Nat:=100000
noncomputable abbrev nm (k:Nat):Nat:=zx + 2 * k
noncomputable def hi (a:Nat):Nat:=zx + (2 * a + 1)
noncomputable def jL (r:List Addr) (a:Nat):Addr:=cond (Nat.ble zx a) (cond (Nat.beq ((a - zx) % 2) 0) (r.getD ((a - zx) / 2) 0) ((a - zx) / 2)) a
noncomputable def V.ren (r:List Addr):V->V
 | .ref a=>.ref (jL r a)
 | x=>x
noncomputable def Ob.ren (r:List Addr):Ob->Ob
 | .list xs=>.list (xs.map (V.ren r))
 | .tup xs=>.tup (xs.map (V.ren r))
 | .sdict kvs=>.sdict (kvs.map λp=>(p.1,p.2.ren r))
 | .idict kvs=>.idict (kvs.map λp=>(p.1,p.2.ren r))
 | .inst C d=>.inst C (jL r d)
 | .attrs kvs=>.attrs (kvs.map λp=>(p.1,p.2.ren r))
 | .cell x=>.cell (x.map (V.ren r))
 | .raw P=>.raw P
noncomputable def onO (r:List Addr):Addr×Ob->Addr×Ob
 | (a,ob)=>(jL r a,ob.ren r)
noncomputable def jC (r:List Addr) (o:jA):jA:=o.map (onO r)
noncomputable def yX (r:List Addr) (l:jX):jX:=l.map λp=>(p.1,p.2.ren r)
noncomputable def jK (r:List Addr) (n:jB):jB:=n.map λp=>(jL r p.1,yX r p.2)
structure wfA (n:Nat) (a:Nat):Prop where
 h:(∃ k,a=hi k)\/a < zx + 2 * n
noncomputable def V.wf (n:Nat):V->Prop
 | .ref a=>wfA n a
 | _=>True
noncomputable def Ob.wf (n:Nat):Ob->Prop
 | .list xs=>∀ x ∈ xs,x.wf n
 | .tup xs=>∀ x ∈ xs,x.wf n
 | .sdict kvs=>∀ p ∈ kvs,p.2.wf n
 | .idict kvs=>∀ p ∈ kvs,p.2.wf n
 | .inst _ d=>wfA n d
 | .attrs kvs=>∀ p ∈ kvs,p.2.wf n
 | .cell x=>∀ y,x=some y->y.wf n
 | .raw _=>True
noncomputable def owf (n:Nat) (o:jA):Prop:=∀ p ∈ o,wfA n p.1/\p.2.wf n
noncomputable def lwf (n:Nat) (l:jX):Prop:=∀ p ∈ l,p.2.wf n
noncomputable def nwf (n:Nat) (ns:jB):Prop:=∀ p ∈ ns,wfA n p.1/\lwf n p.2
section
variable {r t:List Addr} {n m:Nat}
theorem wfA.mono {a:Addr}(h:wfA n a) (k:n<=m):wfA m a:=⟨h.h.elim .inl λh=>.inr (Nat.lt_of_lt_of_le h (Nat.add_le_add_left (Nat.mul_le_mul_left _ k) _))⟩
theorem yE:wfA (n + 1) (nm n):=⟨.inr (by unfold nm;omega)⟩
theorem Qs {a:Nat}(h:a < zx):wfA n a:=⟨.inr (by omega)⟩
theorem zOD {a:Nat}:wfA n (hi a):=⟨.inl ⟨_,rfl⟩⟩
theorem V.wf.mono {x:V}(h:x.wf n) (k:n<=m):x.wf m:=by cases x<;>first | exact wfA.mono h k | trivial
theorem Ob.wf.mono {x:Ob}(h:x.wf n) (k:n<=m):x.wf m:=by
 cases x<;>first
  | exact λx hx=>(h x hx).mono k
  | exact wfA.mono h k
  | trivial
  | exact λy hy=>(h y hy).mono k
theorem owf.mono {o:jA}(h:owf n o) (k:n<=m):owf m o:=λp hp=>⟨(h p hp).1.mono k,(h p hp).2.mono k⟩
theorem lwf.mono {o:jX}(h:lwf n o) (k:n<=m):lwf m o:=λp hp=>(h p hp).mono k
theorem nwf.mono {o:jB}(h:nwf n o) (k:n<=m):nwf m o:=λp hp=>⟨(h p hp).1.mono k,(h p hp).2.mono k⟩
theorem Zx (k:Nat):zx + k - zx=k:=Nat.add_sub_cancel_left ..
theorem zAc (k:Nat):Nat.ble zx (zx + k)=true:=Nat.ble_eq_true_of_le (Nat.le_add_right ..)
theorem zK {a:Nat}(h:wfA r.length a):jL (r++t) a=jL r a:=by
 unfold jL;induction e:Nat.ble zx a using Bool.casesOn with
 | false=>simp only [cond_false]
 | true =>
  have h1:zx<=a:=Nat.le_of_ble_eq_true e;simp only [cond_true];induction e2:Nat.beq ((a - zx) % 2) 0 using Bool.casesOn with
  | false=>simp only [cond_false]
  | true =>
   have h3:=Nat.eq_of_beq_eq_true e2;have h2:(a - zx) / 2 < r.length:=by
    rcases h with ⟨⟨k,rfl⟩ | h⟩
    ·unfold hi at h3;rw [Zx,Nat.mul_add_mod] at h3;exact absurd h3 (by decide)
    ·exact Nat.div_lt_of_lt_mul (Nat.sub_lt_left_of_lt_add h1 h)
   simp only [cond_true,List.getD_eq_getElem?_getD];rw [List.getElem?_append_left h2]
theorem zFZ (k:Nat):jL r (zx + 2 * k)=r.getD k 0:=by unfold jL;rw [zAc,Zx,Nat.mul_mod_right,Nat.mul_div_cancel_left k (by decide)];rfl
theorem Qt {l:Addr}:jL (r++[l]) (nm r.length)=l :=
 (zFZ _).trans (by rw [List.getD_eq_getElem?_getD,List.getElem?_concat_length];rfl)
theorem zLe {a:Nat}:jL r (hi a)=a:=by unfold jL hi;rw [zAc,Zx,Nat.mul_add_mod,Nat.mul_add_div (by decide)];rfl
theorem zDR {a:Addr}(h:a < zx):jL r a=a:=by unfold jL;rw [show Nat.ble zx a=false from by cases e:Nat.ble zx a;rfl;exact absurd (Nat.le_of_ble_eq_true e) (Nat.not_le.mpr h)];rfl
theorem V.ren_app {x:V}(h:x.wf r.length):x.ren (r++t)=x.ren r:=by cases x<;>first | (exact congrArg V.ref (zK h)) | rfl
theorem jf {xs:List V}(h:∀ x ∈ xs,x.wf r.length):xs.map (V.ren (r++t))=xs.map (V.ren r):=List.map_congr_left λx hx=>V.ren_app (h x hx)
theorem JI {α:Type}{xs:List (α×V)}(h:∀ p ∈ xs,p.2.wf r.length):(xs.map λp=>(p.1,p.2.ren (r++t)))=xs.map λp=>(p.1,p.2.ren r):=List.map_congr_left λp hp=>by rw [V.ren_app (h p hp)]
theorem Ob.ren_app {x:Ob}(h:x.wf r.length):x.ren (r++t)=x.ren r:=by
 induction x with
 | list xs=>exact congrArg Ob.list (jf (show ∀ x ∈ xs,x.wf r.length from h))
 | tup xs=>exact congrArg Ob.tup (jf h)
 | sdict kvs=>exact congrArg Ob.sdict (JI h)
 | idict kvs=>exact congrArg Ob.idict (JI h)
 | inst C d=>exact congrArg (Ob.inst C) (zK (a:=d) h)
 | attrs kvs=>exact congrArg Ob.attrs (JI h)
 | cell x=>induction x using Option.casesOn with
  | none=>exact Eq.refl (Ob.cell none)
  | some y=>exact congrArg (λz=>Ob.cell (some z)) (V.ren_app (x:=y) (show y.wf r.length from h y rfl))
 | raw P=>rfl
theorem yB {o:jA}(h:owf r.length o):jC (r++t) o=jC r o:=List.map_congr_left λp hp=>by show (jL _ p.1,p.2.ren _)=(jL _ p.1,p.2.ren _);rw [zK (h p hp).1,Ob.ren_app (h p hp).2]
theorem zF0 {l:jX}(h:lwf r.length l):yX (r++t) l=yX r l:=JI h
theorem zF1 {o:jB}(h:nwf r.length o):jK (r++t) o=jK r o:=List.map_congr_left λp hp=>by rw [zK (h p hp).1,zF0 (h p hp).2]
end
structure SS where
 o:jA
 ns:jB
 n:Nat
structure SS.ok (r:List Addr) (s:SS):Prop where
 len:r.length=s.n
 o:owf s.n s.o
 ns:nwf s.n s.ns
structure Rn (α:Type) where
 ren:List Addr->α->α
 wf:Nat->α->Prop
 app:∀ {r t x},wf r.length x->ren (r++t) x=ren r x
 mono:∀ {n m x},wf n x->n<=m->wf m x
noncomputable def RV:Rn V:=⟨V.ren,V.wf,V.ren_app,V.wf.mono⟩
noncomputable def RB:Rn Bool:=⟨λ_ b=>b,λ_ _=>True,λ_=>rfl,λ_ _=>trivial⟩
noncomputable def RU:Rn Unit:=⟨λ_ b=>b,λ_ _=>True,λ_=>rfl,λ_ _=>trivial⟩
noncomputable def RVs:Rn (List V):=⟨λr=>List.map (V.ren r),λn xs=>∀ x ∈ xs,x.wf n,jf,λh k x hx=>(h x hx).mono k⟩
noncomputable def Fl.ren (r:List Addr):Fl->Fl
 | .next=>.next
 | .ret x=>.ret (x.ren r)
noncomputable def Fl.wf (n:Nat):Fl->Prop
 | .next=>True
 | .ret x=>x.wf n
noncomputable def RF:Rn Fl:=⟨Fl.ren,Fl.wf,λ{r t x} h=>by induction x;rfl;exact congrArg Fl.ret (V.ren_app h),λ{n m x} h k=>by induction x;trivial;exact V.wf.mono h k⟩
noncomputable def brS (c:Bool) (X Y:Prop):Prop:=match c with
 | true=>X
 | false=>Y
theorem brS.br {c:Bool}{X Y X' Y':Prop}(h:brS c X Y) (a:X->X') (b:Y->Y'):Br c X' Y':=by induction c using Bool.casesOn;exact ⟨nofun,λ_=>b h⟩;exact ⟨λ_=>a h,nofun⟩
structure SideP (P Q:Prop):Prop where
 p:P
 q:Q
inductive Tree where
 | fail
 | prop (P:Prop)
 | side (P:Prop) (t:Tree)
noncomputable def Tree.holds:Tree->Prop
 | .fail=>False
 | .prop P=>P
 | .side P t=>SideP P t.holds
noncomputable def Tree.br (c:Bool) (t u:Tree):Tree:=match c with
 | true=>t
 | false=>u
instance:CoeSort Tree Prop:=⟨Tree.holds⟩
theorem zc {c:Bool}{t u:Tree}(h:(Tree.br c t u).holds):brS c t.holds u.holds:=by cases c<;>exact h
theorem jY {c:Bool}{t u:Tree}(h:c=true->t.holds) (k:c=false->u.holds):(Tree.br c t u).holds:=by induction c using Bool.casesOn;exact k rfl;exact h rfl
inductive Lift {α:Type}(R:Rn α) (r:List Addr) (K:α->SS->Tree):α->jA->jB->Prop
 | of (t:List Addr) (x:α) (s:SS) (ok:SS.ok (r++t) s) (wf:R.wf s.n x) (h:(K x s).holds):Lift R r K (R.ren (r++t) x) (jC (r++t) s.o) (jK (r++t) s.ns)
section
variable {α:Type} {R:Rn α} {r t:List Addr} {K K':α->SS->Tree} {x:α} {o:jA} {ns:jB}
theorem Lift.elim {P:α->jA->jB->Prop}(h:Lift R r K x o ns) (k:∀ t x s,SS.ok (r++t) s->R.wf s.n x->(K x s).holds->P (R.ren (r++t) x) (jC (r++t) s.o) (jK (r++t) s.ns)):P x o ns :=
 Lift.casesOn (motive:=λx o n _=>P x o n) h k
theorem Lift.of' {y:α}{s:SS}(t:List Addr) (ok:SS.ok (r++t) s) (wf:R.wf s.n y) (ex:x=R.ren (r++t) y) (eo:o=jC (r++t) s.o) (en:ns=jK (r++t) s.ns) (h:(K y s).holds):Lift R r K x o ns:=by rw [ex,eo,en];exact .of t y s ok wf h
theorem Lift.up (h:Lift R (r++t) K x o ns):Lift R r K x o ns:=h.elim λt' x s ok wf h=>by rw [List.append_assoc] at ok ⊢;exact .of _ x s ok wf h
theorem Lift.mk {x:α}{s:SS}(ok:s.ok r) (hx:R.wf s.n x) (h:K x s):Lift R r K (R.ren r x) (jC r s.o) (jK r s.ns):=by have:=Lift.of (r:=r) [] x s (by rwa [List.append_nil]) hx h;rwa [List.append_nil] at this
theorem Lift.mono (h:Lift R r K x o ns) (k:∀ x s,K x s->K' x s):Lift R r K' x o ns:=h.elim λ_ _ _ ok wf h=>.of _ _ _ ok wf (k _ _ h)
end
noncomputable def SS.new (s:SS) (ob:Ob):SS:=⟨(nm s.n,ob)::s.o,s.ns,s.n + 1⟩
noncomputable def zF2 {α:Type}:List α->Option (List α)
 | []=>some []
 | x::r=>(zF2 r).elim none λl=>some (x::l)
theorem zAd {α:Type}:∀ xs:List α,zF2 xs=some xs
 | []=>rfl
 | x::r=>congrArg (λo=>Option.elim o none λl=>some (x::l)) (zAd r)
noncomputable def j3 {α:Type}(xs:List α) (K:List α->Tree):Tree:=match zF2 xs with
 | some l=>K l
 | none=>.fail
theorem zEP {α:Type}{xs:List α}{K:List α->Tree}:j3 xs K=K xs:=by unfold j3;rw [zAd]
noncomputable def SS.up (s:SS) (o:jA) (K:SS->Tree):Tree:=match s with
 | ⟨_,ns,n⟩=>K ⟨o,ns,n⟩
noncomputable def SS.upN (s:SS) (ns:jB) (K:SS->Tree):Tree:=match s with
 | ⟨o,_,n⟩=>K ⟨o,ns,n⟩
noncomputable def SS.newK (s:SS) (ob:Ob) (K:Addr->SS->Tree):Tree:=match s with
 | ⟨o,ns,n⟩=>K (nm n) ⟨(nm n,ob)::o,ns,n + 1⟩
noncomputable def SS.mkK (s:SS) (ob:Ob) (K:V->SS->Tree):Tree:=s.newK ob λa s=>K (.ref a) s
noncomputable def SS.frameK (s:SS) (K:Addr->SS->Tree):Tree:=match s with
 | ⟨o,_,n⟩=>K (nm n) ⟨o,[(nm n,[])],n + 1⟩
theorem SS.ok.app {r t:List Addr}{s:SS}(h:s.ok r):jC (r++t) s.o=jC r s.o/\jK (r++t) s.ns=jK r s.ns:=⟨yB (h.len▸h.o),zF1 (h.len▸h.ns)⟩
theorem SS.ok.new {r:List Addr}{s:SS}{ob:Ob}{l:Addr}(h:s.ok r) (hb:ob.wf s.n):(s.new ob).ok (r++[l])/\jC (r++[l]) (s.new ob).o=(l,ob.ren r)::jC r s.o/\jK (r++[l]) (s.new ob).ns=jK r s.ns/\jL (r++[l]) (nm s.n)=l:=by
 have e:jL (r++[l]) (nm s.n)=l:=by rw [<- h.len];exact Qt
 refine ⟨⟨by simp [SS.new,h.len],?_,h.ns.mono (Nat.le_succ _)⟩,?_,h.app.2,e⟩
 ·intro p hp;rcases List.mem_cons.mp hp with rfl | hp
  ·exact ⟨yE,hb.mono (Nat.le_succ _)⟩
  ·exact ⟨(h.o p hp).1.mono (Nat.le_succ _),(h.o p hp).2.mono (Nat.le_succ _)⟩
 ·show (jL (r++[l]) (nm s.n),ob.ren (r++[l]))::jC (r++[l]) s.o=_;rw [e,Ob.ren_app (h.len▸hb),h.app.1]
noncomputable def gd (b:Bool) (t:Tree):Tree:=cond b t .fail
theorem Vv {b:Bool}{t:Tree}(h:(gd b t).holds):b=true/\t.holds:=by induction b using Bool.casesOn;exact False.elim h;exact ⟨rfl,h⟩
noncomputable def jS {α:Type}(x:Option α) (K:α->Tree):Tree:=x.elim .fail K
theorem Zy {α:Type}{x:Option α}{K:α->Tree}(h:(jS x K).holds):∃ a,x=some a/\(K a).holds:=by induction x using Option.casesOn;exact False.elim h;exact ⟨_,rfl,h⟩
theorem jE {α:Type}{x:Option α}{K:α->Tree}{P:Prop}(h:(jS x K).holds) (k:∀ a,x=some a->(K a).holds->P):P:=by induction x using Option.casesOn;exact False.elim h;exact k _ rfl h
theorem yn {α:Type}{x:Option α}{a:α}{K:α->Tree}(e:x=some a) (h:(K a).holds):(jS x K).holds:=by rw [e];exact h
theorem zLf {b:Bool}{t:Tree}(e:b=true) (h:t.holds):(gd b t).holds:=by rw [e];exact h
theorem j1 {b:Bool}{t:Tree}{P:Prop}(h:(gd b t).holds) (k:b=true->t.holds->P):P:=by induction b using Bool.casesOn;exact False.elim h;exact k rfl h
theorem yY {Q:Prop}{t:Tree}{P:Prop}(h:(Tree.side Q t).holds) (k:Q->t.holds->P):P:=k (SideP.p h) (SideP.q h)
theorem jT {α:Type}{xs:List α}{K:List α->Tree}(h:(j3 xs K).holds):(K xs).holds:=by rw [zEP] at h;exact h
theorem zCI {P:Prop} [Decidable P] {t:Tree}(h:(Tree.br (decide P) t .fail).holds):P/\t.holds:=by
 by_cases e:P
 ·rw [decide_eq_true e] at h;exact ⟨e,h⟩
 ·rw [decide_eq_false e] at h;exact False.elim h
theorem zF3 {c:Bool}{t:Tree}(h:(Tree.br c t .fail).holds):c=true/\t.holds:=by induction c using Bool.casesOn;exact False.elim h;exact ⟨rfl,h⟩
noncomputable def V.ref?:V->Option Addr
 | .ref a=>some a
 | _=>Option.none
noncomputable def V.int?:V->Option Int
 | .int a=>some a
 | _=>Option.none
noncomputable def V.str?:V->Option Str
 | .str a=>some a
 | _=>Option.none
theorem YZ {α:Type}{x:Option α}{P:α->Prop}(h:∀ a,x=some a->P a):x.elim True P:=by induction x using Option.casesOn;exact trivial;exact h _ rfl
theorem Zc {α:Type}{c:Bool}{x:Option α}{P:α->Prop}(h:c=false->x.elim True P):(cond c none x).elim True P:=by induction c using Bool.casesOn;exact h rfl;exact trivial
theorem Y0 {α:Type}{c:Bool}{x:Option α}{P:α->Prop}(h:c=true->x.elim True P):(cond c x none).elim True P:=by induction c using Bool.casesOn;exact trivial;exact h rfl
theorem jV {α β:Type}{x:Option α}{f:α->Option β}{P:β->Prop}(h:∀ a,x=some a->(f a).elim True P):(x.elim none f).elim True P:=by induction x using Option.casesOn;exact trivial;exact h _ rfl
theorem jH {α β:Type}{x:Option α}{f:α->Option β}{b:β}{P:Prop}(h:x.elim none f=some b) (k:∀ a,x=some a->f a=some b->P):P:=by induction x using Option.casesOn;exact nomatch h;exact k _ rfl h
noncomputable def Vq {α:Type}(b:Bool) (x:Option α):Option α:=cond b x none
theorem zq {α:Type}{b:Bool}{x:Option α}{y:α}{P:Prop}(h:Vq b x=some y) (k:b=true->x=some y->P):P:=by induction b using Bool.casesOn;exact nomatch h;exact k rfl h
theorem zOE (x:V):x.ref?.elim True λa=>x = .ref a:=by cases x<;>first | exact rfl | exact trivial
theorem zOF (x:V):x.int?.elim True λa=>x = .int a:=by cases x<;>first | exact rfl | exact trivial
theorem zOG (x:V):x.str?.elim True λa=>x = .str a:=by cases x<;>first | exact rfl | exact trivial
theorem jg {x:V}{a:Addr}(h:x.ref?=some a):x = .ref a:=(el (zOE x) h :)
theorem jk {x:V}{a:Int}(h:x.int?=some a):x = .int a:=(el (zOF x) h :)
theorem zLg {x:V}{a:Str}(h:x.str?=some a):x = .str a:=(el (zOG x) h :)
noncomputable def Ob.list?:Ob->Option (List V)
 | .list a=>some a
 | _=>none
noncomputable def Ob.tup?:Ob->Option (List V)
 | .tup a=>some a
 | _=>none
noncomputable def Ob.inst?:Ob->Option (Addr×Addr)
 | .inst a b=>some (a,b)
 | _=>none
noncomputable def Ob.attrs?:Ob->Option (List (Str×V))
 | .attrs a=>some a
 | _=>none
noncomputable def Ob.cell?:Ob->Option (Option V)
 | .cell a=>some a
 | _=>none
theorem zLh (x:Ob):x.list?.elim True λa=>x = .list a:=by cases x<;>first | exact rfl | exact trivial
theorem y5 {x:Ob}{a:List V}(h:x.list?=some a):x = .list a:=(el (zLh x) h :)
theorem zOH (x:Ob):x.tup?.elim True λa=>x = .tup a:=by cases x<;>first | exact rfl | exact trivial
theorem zF4 {x:Ob}{a:List V}(h:x.tup?=some a):x = .tup a:=(el (zOH x) h :)
theorem zLi (x:Ob):x.inst?.elim True λa=>x = .inst a.1 a.2:=by cases x<;>first | exact rfl | exact trivial
theorem zDS {x:Ob}{a:Addr×Addr}(h:x.inst?=some a):x = .inst a.1 a.2:=(el (zLi x) h :)
theorem zIL (x:Ob):x.attrs?.elim True λa=>x = .attrs a:=by cases x<;>first | exact rfl | exact trivial
theorem zAe {x:Ob}{a:List (Str×V)}(h:x.attrs?=some a):x = .attrs a:=(el (zIL x) h :)
theorem zLj (x:Ob):x.cell?.elim True λa=>x = .cell a:=by cases x<;>first | exact rfl | exact trivial
theorem zDT {x:Ob}{a:Option V}(h:x.cell?=some a):x = .cell a:=(el (zLj x) h :)
theorem yP {x:V}{K:Addr->Tree}(h:(jS x.ref? K).holds):∃ a,x = .ref a/\(K a).holds:=by obtain ⟨a,e,h⟩:=Zy h;exact ⟨a,jg e,h⟩
theorem YA {x:V}{K:Int->Tree}(h:(jS x.int? K).holds):∃ a,x = .int a/\(K a).holds:=by obtain ⟨a,e,h⟩:=Zy h;exact ⟨a,jk e,h⟩
theorem zJi {x:V}{K:Str->Tree}(h:(jS x.str? K).holds):∃ a,x = .str a/\(K a).holds:=by obtain ⟨a,e,h⟩:=Zy h;exact ⟨a,zLg e,h⟩
theorem Zz {x:Ob}{K:List V->Tree}(h:(jS x.list? K).holds):∃ a,x = .list a/\(K a).holds:=by obtain ⟨a,e,h⟩:=Zy h;exact ⟨a,y5 e,h⟩
theorem zOI {x:Ob}{K:List V->Tree}(h:(jS x.tup? K).holds):∃ a,x = .tup a/\(K a).holds:=by obtain ⟨a,e,h⟩:=Zy h;exact ⟨a,zF4 e,h⟩
noncomputable def one {α:Type}:List α->Option α
 | [x]=>some x
 | _=>none
theorem yI {α:Type}{x:α}:∀ {l:List α},one l=some x->l=[x]
 | [_],h=>by obtain rfl:=Option.some.inj h;rfl
 | [],h=>by contradiction
 | _::_::_,h=>by contradiction
theorem VA {α:Type}{x:List α}{K:α->Tree}(h:(jS (one x) K).holds):∃ a,x=[a]/\(K a).holds:=by obtain ⟨a,e,h⟩:=Zy h;exact ⟨a,yI e,h⟩
noncomputable def zl {α:Type}:List α->Option (α×List α)
 | []=>none
 | x::r=>some (x,r)
theorem zA {α:Type}{p:α×List α}:∀ {l:List α},zl l=some p->l=p.1::p.2
 | [],h=>by contradiction
 | _::_,h=>by obtain rfl:=Option.some.inj h;rfl
noncomputable def zd (a:Addr):jA->Option Ob
 | []=>none
 | (b,ob)::r=>match Nat.beq a b with
  | true=>some ob
  | false=>zd a r
noncomputable def Vw (a:Addr) (x:Ob):jA->Option (Ob×jA)
 | []=>none
 | (b,ob)::r=>match Nat.beq a b with
  | true=>some (ob,(b,x)::r)
  | false=>match Vw a x r with
   | some (y,r')=>some (y,(b,ob)::r')
   | none=>none
theorem Y1 {a:Addr}{x:Ob}:∀ {o:jA},zd a o=some x->(a,x) ∈ o
 | (b,ob)::r,h=>by
  unfold zd at h;induction e:Nat.beq a b using Bool.casesOn with
  | true=>rw [e] at h;obtain rfl:=Option.some.inj h;rw [Nat.eq_of_beq_eq_true e];exact .head _
  | false=>rw [e] at h;exact .tail _ (Y1 h)
theorem j7 {r:List Addr}{a:Addr}{x:Ob}{o:jA}(h:zd a o=some x):Has (jL r a) (x.ren r) (jC r o):=Has.of_mem (List.mem_map.mpr ⟨_,Y1 h,rfl⟩)
theorem Y2 {r:List Addr}{a:Addr}{x y:Ob}:∀ {o o':jA},Vw a x o=some (y,o')->Put (jL r a) (y.ren r) (x.ren r) (jC r o) (jC r o')/\(a,y) ∈ o/\∀ p ∈ o',p=(a,x)\/p ∈ o
 | (b,ob)::q,o',h=>by
  unfold Vw at h;induction e:Nat.beq a b using Bool.casesOn with
  | true=>rw [e] at h;cases h;rw [Nat.eq_of_beq_eq_true e];exact ⟨.head,.head _,λp hp=>by rcases List.mem_cons.mp hp with rfl | hp;exact .inl rfl;exact .inr (.tail _ hp)⟩
  | false =>
   rw [e] at h;induction e2:Vw a x q using Option.casesOn with
   | none=>rw [e2] at h;contradiction
   | some z =>
    obtain ⟨z1,z2⟩:=z;rw [e2] at h;cases h
    obtain ⟨h1,h2,h3⟩:=Y2 (r:=r) e2;exact ⟨.tail h1,.tail _ h2,λp hp=>by
     rcases List.mem_cons.mp hp with rfl | hp
     ·exact .inr (.head _)
     ·rcases h3 p hp with h | h
      ·exact .inl h
      ·exact .inr (.tail _ h)⟩
theorem SS.ok.put {r:List Addr}{s:SS}{a:Addr}{x y:Ob}{o':jA}(h:s.ok r) (e:Vw a x s.o=some (y,o')) (hx:x.wf s.n):SS.ok r ⟨o',s.ns,s.n⟩:=by
 obtain ⟨h1,h2,h3⟩:=Y2 (r:=r) e;refine ⟨h.len,λp hp=>?_,h.ns⟩;rcases h3 p hp with rfl | hp
 ·exact ⟨(h.o _ h2).1,hx⟩
 ·exact h.o p hp
theorem SS.ok.get {r:List Addr}{s:SS}{a:Addr}{x:Ob}(h:s.ok r) (e:zd a s.o=some x):x.wf s.n/\wfA s.n a:=⟨(h.o _ (Y1 e)).2,(h.o _ (Y1 e)).1⟩
theorem GetL.of_look {x:Str}{v:V}:∀ {l:jX},l.lookup x=some v->GetL x v l
 | (y,u)::r,h=>by
  rw [List.lookup_cons] at h;induction e:x==y using Bool.casesOn with
  | true=>rw [e] at h;obtain rfl:=Option.some.inj h;rw [eq_of_beq e];exact .head
  | false=>rw [e] at h;exact .tail e (GetL.of_look h)
theorem J2 {r:List Addr}{x:Str}:∀ {l:jX},(yX r l).lookup x=(l.lookup x).map (V.ren r)
 | []=>rfl
 | (y,u)::q=>by
  show List.lookup x ((y,u.ren r)::yX r q)=_;rw [List.lookup_cons,List.lookup_cons];cases x==y with
  | true=>rfl
  | false=>exact J2
noncomputable def yz (x:Str) (v:V):jX->jX
 | []=>[(x,v)]
 | (y,u)::r=>match y==x with
  | true=>(x,v)::r
  | false=>(y,u)::yz x v r
theorem YI {r:List Addr}{x:Str}{v:V}:∀ {l:jX},SetL x (v.ren r) (yX r l) (yX r (yz x v l))
 | []=>.nil
 | (y,u)::q=>by
  unfold yz;induction e:y==x using Bool.casesOn with
  | true=>rw [eq_of_beq e];exact .head
  | false=>exact .tail e YI
theorem YJ {x:Str}{v:V}:∀ {l:jX},∀ p ∈ yz x v l,p=(x,v)\/p ∈ l
 | [],p,h=>by cases h with | head=>exact .inl rfl | tail _ h=>contradiction
 | (y,u)::q,p,h=>by
  unfold yz at h;induction e:y==x using Bool.casesOn with
  | true =>
   rw [e] at h;rcases List.mem_cons.mp h with rfl | h
   ·exact .inl rfl
   ·exact .inr (.tail _ h)
  | false =>
   rw [e] at h;rcases List.mem_cons.mp h with rfl | h
   ·exact .inr (.head _)
   ·rcases YJ p h with h | h
    ·exact .inl h
    ·exact .inr (.tail _ h)
theorem JE {α:Type}{x:Str}{v:α}:∀ {l:List (Str×α)},l.lookup x=some v->(x,v) ∈ l
 | (y,u)::r,h=>by
  rw [List.lookup_cons] at h;induction e:x==y using Bool.casesOn with
  | true=>rw [e] at h;obtain rfl:=Option.some.inj h;rw [eq_of_beq e];exact .head _
  | false=>rw [e] at h;exact .tail _ (JE h)
noncomputable def VB (K:Frag) (x:Str) (v:V):Prop:=(∀ r,v.ren r=v)/\(∀ n,v.wf n)/\(x==("__debug__":Str))=false /\
 ((∃ u,nsIn K mainGlobals x=some (some u)/\vOf u=some v)\/∃ u,nsIn K mainGlobals x=some none/\bootBuiltins x=some u/\vOf u=some v/\x≠"__name__")
noncomputable def J3 (K:Frag) (C:Addr) (x:Str) (f:Addr):Prop:=plainGet K C x=true/\findIn K (.ref C) x=some (some (.ref f))/\isFn K (.ref f)=true/\keepIn K (.ref f)=true
structure Code where
 names:List (Str×NameKind)
 ys:List Str
 body:List Stmt
 df:Option V
noncomputable def Code.bind (c:Code) (xs:List V):Option (List V):=cond (Nat.beq xs.length c.ys.length) (some xs)
 (c.df.elim none λd=>cond (Nat.beq (xs.length + 1) c.ys.length) (some (xs++[d])) none)
noncomputable def EnterOk (K:Frag) (mg mb:Str->Option Value) (f:Addr) (c:Code):Prop:=(∀ d,c.df=some d->(∀ r,d.ren r=d)/\∀ n,d.wf n) /\
 ∀ (xs xs':List V),c.bind xs=some xs'->JX K mg mb f c.names c.ys c.body xs xs'
noncomputable def VC (K:Frag) (C:Addr) (x:Str):Prop:=plainGet K C x=true/\(∃ a,findIn K (.ref C) x=some a/\noGet K a=true)/\takerIn K C x=some none
noncomputable def zJj (K:Frag) (C:Addr):Prop:=hasDictIn K C=true/\findIn K (.ref C) "__setattr__"=some (some (.builtin "object.__setattr__"))/\plainOver K C=true
noncomputable def zCJ (K:Frag) (d:Addr) (ks:List Int):Prop:=d < zx/\∃ es ep,K.lookup d=some ⟨.type "dict",none,.dict es ep,#[]⟩/\zFV es.toList=true/\(d==sysModules)=false/\zFU es.toList=ks
noncomputable def zJk (K:Frag) (l:Addr) (is:List Int):Prop:=∃ o n vs,K.lookup l=some o/\o.cls = .type "tuple"/\o.data = .seq vs n/\All2 (is.map V.int) vs.toList
noncomputable abbrev Spec:=List V->SS->(V->SS->Tree)->Tree
noncomputable def jh (K:Frag) (mg mb:Str->Option Value) (f:Addr) (k:Nat) (sp:Spec):Prop:=∀ xs s Kt,(sp xs s Kt).holds->∀ W A r,Gr W K mg mb->Ar A k->s.ok r->(∀ x ∈ xs,x.wf s.n)->Cl W A (.ref f) (xs.map (V.ren r)) (jC r s.o) (jK r s.ns) (Lift RV r Kt)
structure Est where
 K:Frag
 mg:Str->Option Value
 mb:Str->Option Value
 k:Nat
 gl:List (Str×V)
 fn:List Addr
 C:Addr
 mt:List (Str×Addr)
 ats:List Str
 bd:List (Addr×List Int)
 bt:List (Addr×List Int)
 cd:List (Addr×Code)
 sp:List (Addr×(Nat×Spec))
 op:List Addr
 pp:List (Addr×(List V×V))
 hgl:∀ x v,gl.lookup x=some v->VB K x v
 hfn:∀ f,fn.contains f=true->keepIn K (.ref f)=true
 hmt:∀ x f,mt.lookup x=some f->J3 K C x f
 hat:∀ x,ats.contains x=true->VC K C x
 hcl:zJj K C
 hbd:∀ d ks,bd.lookup d=some ks->zCJ K d ks
 hbt:∀ l is,bt.lookup l=some is->zJk K l is
 hcd:∀ f c,cd.lookup f=some c->EnterOk K mg mb f c
 hsp:∀ f k q,sp.lookup f=some (k,q)->jh K mg mb f k q
noncomputable def Est.dn (E:Est):Est:={ E with k:=E.k - 1 }
structure Fr where
 names:List (Str×NameKind)
 L:Addr
 cells:List (Str×Addr)
structure Yv where
 e:Fr->Expr->SS->(V->SS->Tree)->Tree
 b:Fr->Expr->SS->(Bool->SS->Tree)->Tree
 es:Fr->List Expr->SS->(List V->SS->Tree)->Tree
 a:Fr->Expr->V->SS->(Unit->SS->Tree)->Tree
 s:Fr->Stmt->SS->(Fl->SS->Tree)->Tree
 ss:Fr->List Stmt->SS->(Fl->SS->Tree)->Tree
section
variable (E:Est) (fr:Fr)
noncomputable def zF5 (x:Str) (s:SS) (K:V->SS->Tree):Tree:=jS (fr.cells.lookup x) λc=>jS (zd c s.o) λob=>jS ob.cell? λy=>jS y λv=>K v s
noncomputable def zJl (x:Str) (s:SS) (K:V->SS->Tree):NameKind->Tree
 | .local=>jS (zl s.ns) λp=>gd (Nat.beq p.1.1 fr.L) (jS (p.1.2.lookup x) λv=>K v s)
 | .cell=>zF5 fr x s K
 | .free=>gd (!(x==("__classdict__":Str))) (zF5 fr x s K)
 | .globalImplicit=>jS (E.gl.lookup x) λv=>K v s
 | _=>.fail
noncomputable def zJm (x:Str) (s:SS) (K:V->SS->Tree):Tree:=gd (!(x==("__debug__":Str))) (jS (fr.names.lookup x) (zJl E fr x s K))
noncomputable def zF6 (c:Const) (s:SS) (K:V->SS->Tree):Tree:=match c with
 | .int i=>K (.int i) s
 | .str x=>K (.str x) s
 | .none=>K .none s
 | .bool b=>K (.bool b) s
 | _=>.fail
noncomputable def zLk (l:Addr) (xs:List V) (t:Tree):Tree:=cond (E.op.contains l) (.side (xs.length<=900) t) (gd (Nat.ble xs.length 900) t)
noncomputable def zLl (l:Addr) (xs:List V) (K:List V->Tree):Tree:=cond (E.op.contains l) (K xs) (j3 xs K)
noncomputable def J4 (l:Addr) (s:SS) (K:List V->Tree):Tree:=jS (zd l s.o) λob=>jS ob.list? λxs=>zLk E l xs (K xs)
noncomputable def zLm (op:Operator) (a b:Int):Option (Bool×Int):=match op with
 | .Add=>some (true,a + b)
 | .Sub=>some (true,a - b)
 | .Mod=>some (decide (0 < b),a % b)
 | .FloorDiv=>some (decide (0 < b)&&decide (b < 1073741824),a / b)
 | .BitAnd=>some (true,Builtin.bitAnd a b)
 | .BitOr=>some (true,Builtin.bitOr a b)
 | .BitXor=>some (true,Builtin.bitXor a b)
 | .RShift=>some (decide (0<=b),a / ((2 ^ b.toNat:Nat):Int))
 | .LShift=>some (decide (0<=b)&&(decide (b<=64)&&decide (a.natAbs < 18446744073709551616)),a * ((2 ^ b.toNat:Nat):Int))
 | .Pow=>some (decide (0<=a)&&(decide (a < 18446744073709551616)&&(decide (0<=b)&&decide (b<=1000000))),((a.toNat ^ b.toNat:Nat):Int))
 | _=>none
noncomputable def zF7:Operator->Bool
 | .Mult=>true
 | _=>false
noncomputable def zJn:Operator->Bool
 | .Add=>true
 | _=>false
noncomputable def zOJ (l m:Addr) (s:SS) (K:V->SS->Tree):Tree:=J4 E l s λxs=>J4 E m s λys=>cond (E.op.contains l||E.op.contains m) (.side (xs.length + ys.length<=900) (s.mkK (.list (xs++ys)) K))
 (gd (Nat.ble (xs.length + ys.length) 900) (j3 (xs++ys) λl=>s.mkK (.list l) K))
noncomputable def zIM (op:Operator) (x y:V) (s:SS) (K:V->SS->Tree):Tree:=x.int?.elim (jS x.ref? λl=>jS y.ref? λm=>gd (zJn op) (zOJ E l m s K))
 λa=>jS y.int? λb=>cond (zF7 op) (.side (IntMulOk a b) (K (.int (a * b)) s)) (jS (zLm op a b) λr=>Tree.br r.1 (K (.int r.2) s) .fail)
noncomputable def zOK (k:Int) (d:Addr) (s:SS) (K:V->SS->Tree):Tree:=jS (zd d s.o) λob=>match ob with
 | .idict kvs=>K (.bool (kvs.any λp=>decide (p.1=k))) s
 | .tup xs=>jS (zV xs) λis=>K (.bool (is.any (·==k))) s
 | _=>.fail
noncomputable def V.noneB:V->Option Bool
 | .none=>some true
 | .int _=>some false
 | .bool _=>some false
 | .str _=>some false
 | .ref _=>some false
 | _=>Option.none
noncomputable def V.isNone:V->Bool
 | .none=>true
 | _=>false
noncomputable def rds (f:V->Option PyData):List V->Option (List PyData)
 | []=>some []
 | x::r=>(f x).elim none λd=>(rds f r).elim none λds=>some (d::ds)
noncomputable def rdO (f:V->Option PyData):Ob->Option PyData
 | .list xs=>(rds f xs).elim none λds=>some (.list ds)
 | .tup xs=>(rds f xs).elim none λds=>some (.tuple ds)
 | _=>none
noncomputable def rdS:Nat->jA->V->Option PyData
 | 0,_,_=>none
 | n + 1,o,x=>match x with
  | .none=>some .none
  | .bool b=>some (.bool b)
  | .int i=>some (.int i)
  | .ref l=>(zd l o).elim none (rdO (rdS n o))
  | _=>none
noncomputable def zPu (op:CmpOp) (dx dy:PyData):Option Bool:=match op with
 | .Eq=>some (PyData.eqv dx dy)
 | .NotEq=>some (!PyData.eqv dx dy)
 | _=>none
noncomputable def zLn (op:CmpOp) (x y:V) (s:SS) (K:V->SS->Tree):Tree:=jS (rdS 5 s.o x) λdx=>jS (rdS 5 s.o y) λdy =>
 gd (dx.canLay0&&dy.canLay0&&Nat.ble dx.depth 8&&Nat.blt 0 E.k) (jS (zPu op dx dy) λb=>K (.bool b) s)
noncomputable def zPv (op:CmpOp) (a b:Int):Option Bool:=match op with
 | .Eq=>some (a==b)
 | .NotEq=>some (a != b)
 | .Lt=>some (decide (a < b))
 | .Gt=>some (decide (b < a))
 | .LtE=>some (decide (a<=b))
 | .GtE=>some (decide (b<=a))
 | _=>none
noncomputable def zIN:CmpOp->Bool
 | .Eq=>true
 | _=>false
noncomputable def zLo (x:V):Bool:=x.ref?.elim false λl=>E.op.contains l
noncomputable def QO (xs:List V):Prop:=∃ is:List Int,xs=is.map V.int
noncomputable def zF8 (x y:V) (s:SS) (K:V->SS->Tree):Tree:=jS x.ref? λl=>jS (zd l s.o) λob=>jS ob.list? λxs=>jS y.ref? λm=>jS (zd m s.o) λob2=>jS ob2.list? λys =>
 gd (ys.isEmpty&&Nat.blt 0 E.k) (.side (QO xs) (K (.bool xs.isEmpty) s))
noncomputable def zLp (x y:V):Option (Int×Int):=x.int?.elim none λa=>y.int?.elim none λb=>some (a,b)
noncomputable def zLq (op:CmpOp) (x y:V) (s:SS) (K:V->SS->Tree):Tree:=(zLp x y).elim (cond (zLo E x) (gd (zIN op) (zF8 E x y s K)) (zLn E op x y s K))
 λp=>jS (zPv op p.1 p.2) λc=>K (.bool c) s
noncomputable def zOL (op:CmpOp) (x y:V) (s:SS) (K:V->SS->Tree):Tree:=match op with
 | .In=>jS x.int? λk=>jS y.ref? λd=>zOK k d s K
 | .NotIn=>jS x.int? λk=>jS y.ref? λd=>jS (E.bd.lookup d) λks=>gd (ks.contains k) (K (.bool false) s)
 | .Is=>gd y.isNone (jS x.noneB λb=>K (.bool b) s)
 | op=>zLq E op x y s K
noncomputable def V.truth:V->Option Bool
 | .bool c=>some c
 | .int a=>some (a != 0)
 | .none=>some false
 | _=>Option.none
noncomputable def Qu (x:V) (s:SS) (K:Bool->SS->Tree):Tree:=jS x.truth λb=>K b s
noncomputable def zIO (k:Int) (f:Nat->Tree):Nat->Nat->Tree
 | _,0=>.fail
 | j,n + 1=>Tree.br (k==(j:Int)) (f j) (zIO k f (j + 1) n)
theorem YK {k:Int}{f:Nat->Tree}:∀ {n j:Nat},(zIO k f j n).holds->∃ i,i < j + n/\k=(i:Int)/\(f i).holds
 | 0,_,h=>False.elim h
 | n + 1,j,h=>by
  have h:=zc h;induction e:k==(j:Int) using Bool.casesOn with
  | true=>rw [e] at h;exact ⟨j,by omega,eq_of_beq e,h⟩
  | false =>rw [e] at h;obtain ⟨i,a,b,c⟩:=YK h;exact ⟨i,by omega,b,c⟩
noncomputable def jw (k:Int) (is:List Int):Int:=is.getD k.toNat 0
noncomputable def zF9 (k:Int) (xs:List V) (s:SS) (K:V->SS->Tree):Tree:=gd (Nat.ble xs.length 900) ((zV xs).elim (zIO k (λj=>jS xs[j]? λy=>K y s) 0 xs.length)
 λis=>Tree.br (decide (0<=k/\k < is.length)) (K (.int (jw k is)) s) .fail)
noncomputable def yo (xs:List V) (k:Int):Int:=xs[k.toNat]?.elim 0 λv=>v.int?.getD 0
noncomputable def yC (xs:List V) (k:Int):Prop:=∃ is:List Int,xs=is.map V.int/\xs.length<=900/\0<=k/\k < is.length
noncomputable def zOM (k:Int) (xs:List V) (s:SS) (K:V->SS->Tree):Tree:=.side (yC xs k) (K (.int (yo xs k)) s)
noncomputable def zON (l:Addr) (i:V) (s:SS) (K:V->SS->Tree) (ob:Ob):Tree:=match ob with
 | .list xs=>jS i.int? λk=>cond (E.op.contains l) (zOM k xs s K) (zF9 k xs s K)
 | .tup xs=>jS i.int? λk=>zF9 k xs s K
 | .sdict kvs=>jS i.str? λk=>jS (kvs.lookup k) λy=>K y s
 | .idict kvs=>jS i.int? λk=>jS (kvs.lookup k) λy=>K y s
 | _=>.fail
noncomputable def zFa (x i:V) (s:SS) (K:V->SS->Tree):Tree:=jS x.ref? λl=>jS (zd l s.o) (zON E l i s K)
noncomputable def zLr (x:Str) (v:V) (s:SS) (K:Unit->SS->Tree):NameKind->Tree
 | .local=>jS (zl s.ns) λp=>gd (Nat.beq p.1.1 fr.L) (j3 (yz x v p.1.2) λll'=>s.upN ((p.1.1,ll')::p.2) (K ()))
 | .cell=>jS (fr.cells.lookup x) λc=>jS (Vw c (.cell (some v)) s.o) λq=>jS q.1.cell? λ_=>s.up q.2 (K ())
 | _=>.fail
noncomputable def zCK (x:Str) (v:V) (s:SS) (K:Unit->SS->Tree):Tree:=jS (fr.names.lookup x) (zLr fr x v s K)
noncomputable def zAf:List Str->List V->SS->(Unit->SS->Tree)->Tree
 | [],[],s,K=>K () s
 | x::xs,v::vs,s,K=>zCK fr x v s λ_ s=>zAf xs vs s K
 | _,_,_,_=>.fail
noncomputable def YB {α:Type} [BEq α] (k:α) (v:V):List (α×V)->List (α×V)
 | []=>[(k,v)]
 | (x,u)::r=>cond (x==k) ((k,v)::r) ((x,u)::YB k v r)
noncomputable def YC (l:Addr) (ob:Ob) (s:SS) (K:Unit->SS->Tree):Tree:=jS (Vw l ob s.o) λq=>s.up q.2 (K ())
noncomputable def zCL (k v:Int):Nat->List Int->List Int
 | _,[]=>[]
 | j,x::r=>(if (k==(j:Int))=true then v else x)::zCL k v (j + 1) r
theorem zCM {k v x:Int}{j:Nat}{r:List Int}:zCL k v j (x::r)=(if (k==(j:Int))=true then v else x)::zCL k v (j + 1) r:=rfl
noncomputable def zFb (l:Addr) (i y:V) (s:SS) (K:Unit->SS->Tree) (ob:Ob):Tree:=match ob with
 | .list xs=>jS i.int? λk=>gd (Nat.ble xs.length 900) (cond (E.pp.lookup l).isSome (jS (zV xs) λis=>jS y.int? λv=>Tree.br (decide (0<=k/\k < is.length)) (j3 ((zCL k v 0 is).map V.int) λxs=>YC l (.list xs) s K) .fail)
  (zIO k (λj=>j3 (xs.set j y) λxs=>YC l (.list xs) s K) 0 xs.length))
 | .sdict kvs=>jS i.str? λk=>gd (Nat.ble kvs.length 900) (j3 (YB k y kvs) λkvs=>YC l (.sdict kvs) s K)
 | .idict kvs=>jS i.int? λk=>gd (Nat.ble kvs.length 900) (j3 (YB k y kvs) λkvs=>YC l (.idict kvs) s K)
 | _=>.fail
noncomputable def zAg (x i y:V) (s:SS) (K:Unit->SS->Tree):Tree:=jS x.ref? λl=>jS (zd l s.o) (zFb E l i y s K)
noncomputable def zIP (y:V) (s:SS) (K:Addr->Addr->List (Str×V)->Tree):Tree:=jS y.ref? λb=>jS (zd b s.o) λob=>jS ob.inst? λp=>gd (Nat.beq p.1 E.C) (jS (zd p.2 s.o) λob=>jS ob.attrs? λkvs=>K b p.2 kvs)
noncomputable def zAh (y:V) (name:Str) (s:SS) (K:V->SS->Tree):Tree:=gd (E.ats.contains name) (zIP E y s λ_ _ kvs=>jS (kvs.lookup name) λv=>gd v.plain (K v s))
noncomputable def zAi (y:V) (name:Str) (v:V) (s:SS) (K:Unit->SS->Tree):Tree:=gd (E.ats.contains name) (zIP E y s λ_ d kvs=>gd (Nat.ble kvs.length 900) (j3 (yz name v kvs) λkvs=>YC d (.attrs kvs) s K))
end
theorem zL {c:Prop} [Decidable c] {α:Type}{a:c->Option α}{P:α->Prop}(h1:∀ h,(a h).elim True P):(dite c a λ_=>none).elim True P:=by
 by_cases h:c
 ·rw [dif_pos h];exact h1 h
 ·rw [dif_neg h];exact trivial
noncomputable def zAj {α:Type}(y:Expr) (k:Str->Pos->Option α):Option α:=dite (y.ctorIdx=23) (λc=>Expr.Name.elim (motive_1:=λ_=>Option α) y c k) λ_=>none
theorem Y3 {α:Type}{y:Expr}{k:Str->Pos->Option α}{P:α->Prop}(q:∀ id p,y = .Name id p->(k id p).elim True P):(zAj y k).elim True P:=zL (λi=>Expr.Name.elim (motive_1:=λz=>∀ i,(∀ id p,z = .Name id p->(k id p).elim True P)->(Expr.Name.elim (motive_1:=λ_=>Option α) z i k).elim True P) y i (λid p _ q=>q id p rfl) i q)
noncomputable def zDU {α:Type}(y:Expr) (k:Expr->(List Expr)->(List Keyword)->Pos->Option α):Option α:=dite (y.ctorIdx=16) (λc=>Expr.Call.elim (motive_1:=λ_=>Option α) y c k) λ_=>none
theorem Qv {α:Type}{y:Expr}{k:Expr->(List Expr)->(List Keyword)->Pos->Option α}{P:α->Prop}(q:∀ f es ks p,y = .Call f es ks p->(k f es ks p).elim True P):(zDU y k).elim True P:=zL (λi=>Expr.Call.elim (motive_1:=λz=>∀ i,(∀ f es ks p,z = .Call f es ks p->(k f es ks p).elim True P)->(Expr.Call.elim (motive_1:=λ_=>Option α) z i k).elim True P) y i (λf es ks p _ q=>q f es ks p rfl) i q)
noncomputable def zFc {α:Type}(y:Expr) (k:Expr->Expr->Expr->Pos->Option α):Option α:=dite (y.ctorIdx=5) (λc=>Expr.IfExp.elim (motive_1:=λ_=>Option α) y c k) λ_=>none
theorem zFd {α:Type}{y:Expr}{k:Expr->Expr->Expr->Pos->Option α}{P:α->Prop}(q:∀ t a b p,y = .IfExp t a b p->(k t a b p).elim True P):(zFc y k).elim True P:=zL (λi=>Expr.IfExp.elim (motive_1:=λz=>∀ i,(∀ t a b p,z = .IfExp t a b p->(k t a b p).elim True P)->(Expr.IfExp.elim (motive_1:=λ_=>Option α) z i k).elim True P) y i (λt a b p _ q=>q t a b p rfl) i q)
noncomputable def zDV {α:Type}(y:Expr) (k:BoolOp->(List Expr)->Pos->Option α):Option α:=dite (y.ctorIdx=0) (λc=>Expr.BoolOp.elim (motive_1:=λ_=>Option α) y c k) λ_=>none
theorem zEQ {α:Type}{y:Expr}{k:BoolOp->(List Expr)->Pos->Option α}{P:α->Prop}(q:∀ op es p,y = .BoolOp op es p->(k op es p).elim True P):(zDV y k).elim True P:=zL (λi=>Expr.BoolOp.elim (motive_1:=λz=>∀ i,(∀ op es p,z = .BoolOp op es p->(k op es p).elim True P)->(Expr.BoolOp.elim (motive_1:=λ_=>Option α) z i k).elim True P) y i (λop es p _ q=>q op es p rfl) i q)
noncomputable def Qw {α:Type}(y:Expr) (k:Expr->Operator->Expr->Pos->Option α):Option α:=dite (y.ctorIdx=2) (λc=>Expr.BinOp.elim (motive_1:=λ_=>Option α) y c k) λ_=>none
theorem VD {α:Type}{y:Expr}{k:Expr->Operator->Expr->Pos->Option α}{P:α->Prop}(q:∀ l op r p,y = .BinOp l op r p->(k l op r p).elim True P):(Qw y k).elim True P:=zL (λi=>Expr.BinOp.elim (motive_1:=λz=>∀ i,(∀ l op r p,z = .BinOp l op r p->(k l op r p).elim True P)->(Expr.BinOp.elim (motive_1:=λ_=>Option α) z i k).elim True P) y i (λl op r p _ q=>q l op r p rfl) i q)
noncomputable def zAk {α:Type}(y:Expr) (k:UnaryOp->Expr->Pos->Option α):Option α:=dite (y.ctorIdx=3) (λc=>Expr.UnaryOp.elim (motive_1:=λ_=>Option α) y c k) λ_=>none
theorem zCN {α:Type}{y:Expr}{k:UnaryOp->Expr->Pos->Option α}{P:α->Prop}(q:∀ op x p,y = .UnaryOp op x p->(k op x p).elim True P):(zAk y k).elim True P:=zL (λi=>Expr.UnaryOp.elim (motive_1:=λz=>∀ i,(∀ op x p,z = .UnaryOp op x p->(k op x p).elim True P)->(Expr.UnaryOp.elim (motive_1:=λ_=>Option α) z i k).elim True P) y i (λop x p _ q=>q op x p rfl) i q)
noncomputable def zAl {α:Type}(y:Expr) (k:Expr->(List CmpOp)->(List Expr)->Pos->Option α):Option α:=dite (y.ctorIdx=15) (λc=>Expr.Compare.elim (motive_1:=λ_=>Option α) y c k) λ_=>none
theorem zCO {α:Type}{y:Expr}{k:Expr->(List CmpOp)->(List Expr)->Pos->Option α}{P:α->Prop}(q:∀ l ops rs p,y = .Compare l ops rs p->(k l ops rs p).elim True P):(zAl y k).elim True P:=zL (λi=>Expr.Compare.elim (motive_1:=λz=>∀ i,(∀ l ops rs p,z = .Compare l ops rs p->(k l ops rs p).elim True P)->(Expr.Compare.elim (motive_1:=λ_=>Option α) z i k).elim True P) y i (λl ops rs p _ q=>q l ops rs p rfl) i q)
noncomputable def Yw {α:Type}(y:Expr) (k:Const->Nat->Pos->Option α):Option α:=dite (y.ctorIdx=19) (λc=>Expr.Constant.elim (motive_1:=λ_=>Option α) y c k) λ_=>none
theorem ZO {α:Type}{y:Expr}{k:Const->Nat->Pos->Option α}{P:α->Prop}(q:∀ c u p,y = .Constant c u p->(k c u p).elim True P):(Yw y k).elim True P:=zL (λi=>Expr.Constant.elim (motive_1:=λz=>∀ i,(∀ c u p,z = .Constant c u p->(k c u p).elim True P)->(Expr.Constant.elim (motive_1:=λ_=>Option α) z i k).elim True P) y i (λc u p _ q=>q c u p rfl) i q)
noncomputable def VE {α:Type}(y:Expr) (k:Expr->Str->Pos->Option α):Option α:=dite (y.ctorIdx=20) (λc=>Expr.Attribute.elim (motive_1:=λ_=>Option α) y c k) λ_=>none
theorem Qx {α:Type}{y:Expr}{k:Expr->Str->Pos->Option α}{P:α->Prop}(q:∀ o n p,y = .Attribute o n p->(k o n p).elim True P):(VE y k).elim True P:=zL (λi=>Expr.Attribute.elim (motive_1:=λz=>∀ i,(∀ o n p,z = .Attribute o n p->(k o n p).elim True P)->(Expr.Attribute.elim (motive_1:=λ_=>Option α) z i k).elim True P) y i (λo n p _ q=>q o n p rfl) i q)
noncomputable def VF {α:Type}(y:Expr) (k:Expr->Expr->Pos->Option α):Option α:=dite (y.ctorIdx=21) (λc=>Expr.Subscript.elim (motive_1:=λ_=>Option α) y c k) λ_=>none
theorem Qy {α:Type}{y:Expr}{k:Expr->Expr->Pos->Option α}{P:α->Prop}(q:∀ v s p,y = .Subscript v s p->(k v s p).elim True P):(VF y k).elim True P:=zL (λi=>Expr.Subscript.elim (motive_1:=λz=>∀ i,(∀ v s p,z = .Subscript v s p->(k v s p).elim True P)->(Expr.Subscript.elim (motive_1:=λ_=>Option α) z i k).elim True P) y i (λv s p _ q=>q v s p rfl) i q)
noncomputable def zCP {α:Type}(y:Expr) (k:(Option Expr)->(Option Expr)->(Option Expr)->Pos->Option α):Option α:=dite (y.ctorIdx=26) (λc=>Expr.Slice.elim (motive_1:=λ_=>Option α) y c k) λ_=>none
theorem zAm {α:Type}{y:Expr}{k:(Option Expr)->(Option Expr)->(Option Expr)->Pos->Option α}{P:α->Prop}(q:∀ a b c p,y = .Slice a b c p->(k a b c p).elim True P):(zCP y k).elim True P:=zL (λi=>Expr.Slice.elim (motive_1:=λz=>∀ i,(∀ a b c p,z = .Slice a b c p->(k a b c p).elim True P)->(Expr.Slice.elim (motive_1:=λ_=>Option α) z i k).elim True P) y i (λa b c p _ q=>q a b c p rfl) i q)
noncomputable def zOO {α:Type}(y:Stmt) (k:Expr->(List Stmt)->(List Stmt)->Pos->Option α):Option α:=dite (y.ctorIdx=12) (λc=>Stmt.If.elim (motive_2:=λ_=>Option α) y c k) λ_=>none
theorem zLs {α:Type}{y:Stmt}{k:Expr->(List Stmt)->(List Stmt)->Pos->Option α}{P:α->Prop}(q:∀ t b e p,y = .If t b e p->(k t b e p).elim True P):(zOO y k).elim True P:=zL (λi=>Stmt.If.elim (motive_2:=λz=>∀ i,(∀ t b e p,z = .If t b e p->(k t b e p).elim True P)->(Stmt.If.elim (motive_2:=λ_=>Option α) z i k).elim True P) y i (λt b e p _ q=>q t b e p rfl) i q)
noncomputable def zJo {α:Type}(y:Stmt) (k:Expr->Expr->(List Stmt)->(List Stmt)->Pos->Option α):Option α:=dite (y.ctorIdx=9) (λc=>Stmt.For.elim (motive_2:=λ_=>Option α) y c k) λ_=>none
theorem zIQ {α:Type}{y:Stmt}{k:Expr->Expr->(List Stmt)->(List Stmt)->Pos->Option α}{P:α->Prop}(q:∀ t it b e p,y = .For t it b e p->(k t it b e p).elim True P):(zJo y k).elim True P:=zL (λi=>Stmt.For.elim (motive_2:=λz=>∀ i,(∀ t it b e p,z = .For t it b e p->(k t it b e p).elim True P)->(Stmt.For.elim (motive_2:=λ_=>Option α) z i k).elim True P) y i (λt it b e p _ q=>q t it b e p rfl) i q)
noncomputable def zAn {α:Type}(y:Stmt) (k:(List Expr)->Expr->Pos->Option α):Option α:=dite (y.ctorIdx=5) (λc=>Stmt.Assign.elim (motive_2:=λ_=>Option α) y c k) λ_=>none
theorem zCQ {α:Type}{y:Stmt}{k:(List Expr)->Expr->Pos->Option α}{P:α->Prop}(q:∀ ts v p,y = .Assign ts v p->(k ts v p).elim True P):(zAn y k).elim True P:=zL (λi=>Stmt.Assign.elim (motive_2:=λz=>∀ i,(∀ ts v p,z = .Assign ts v p->(k ts v p).elim True P)->(Stmt.Assign.elim (motive_2:=λ_=>Option α) z i k).elim True P) y i (λts v p _ q=>q ts v p rfl) i q)
noncomputable def zAo {α:Type}(y:Stmt) (k:(Option Expr)->Pos->Option α):Option α:=dite (y.ctorIdx=3) (λc=>Stmt.Return.elim (motive_2:=λ_=>Option α) y c k) λ_=>none
theorem zCR {α:Type}{y:Stmt}{k:(Option Expr)->Pos->Option α}{P:α->Prop}(q:∀ v p,y = .Return v p->(k v p).elim True P):(zAo y k).elim True P:=zL (λi=>Stmt.Return.elim (motive_2:=λz=>∀ i,(∀ v p,z = .Return v p->(k v p).elim True P)->(Stmt.Return.elim (motive_2:=λ_=>Option α) z i k).elim True P) y i (λv p _ q=>q v p rfl) i q)
noncomputable def zFe {α:Type}(y:Stmt) (k:Expr->Pos->Option α):Option α:=dite (y.ctorIdx=24) (λc=>Stmt.Expr.elim (motive_2:=λ_=>Option α) y c k) λ_=>none
theorem zFf {α:Type}{y:Stmt}{k:Expr->Pos->Option α}{P:α->Prop}(q:∀ e p,y = .Expr e p->(k e p).elim True P):(zFe y k).elim True P:=zL (λi=>Stmt.Expr.elim (motive_2:=λz=>∀ i,(∀ e p,z = .Expr e p->(k e p).elim True P)->(Stmt.Expr.elim (motive_2:=λ_=>Option α) z i k).elim True P) y i (λe p _ q=>q e p rfl) i q)
noncomputable def zDW {α:Type}(y:Stmt) (k:(Option Expr)->(Option Expr)->Pos->Option α):Option α:=dite (y.ctorIdx=16) (λc=>Stmt.Raise.elim (motive_2:=λ_=>Option α) y c k) λ_=>none
theorem zER {α:Type}{y:Stmt}{k:(Option Expr)->(Option Expr)->Pos->Option α}{P:α->Prop}(q:∀ x c p,y = .Raise x c p->(k x c p).elim True P):(zDW y k).elim True P:=zL (λi=>Stmt.Raise.elim (motive_2:=λz=>∀ i,(∀ x c p,z = .Raise x c p->(k x c p).elim True P)->(Stmt.Raise.elim (motive_2:=λ_=>Option α) z i k).elim True P) y i (λx c p _ q=>q x c p rfl) i q)
noncomputable def zJp {α:Type}(y:Stmt) (k:(List Stmt)->(List ExceptHandler)->(List Stmt)->(List Stmt)->Pos->Option α):Option α:=dite (y.ctorIdx=17) (λc=>Stmt.Try.elim (motive_2:=λ_=>Option α) y c k) λ_=>none
theorem zIR {α:Type}{y:Stmt}{k:(List Stmt)->(List ExceptHandler)->(List Stmt)->(List Stmt)->Pos->Option α}{P:α->Prop}(q:∀ b h e f p,y = .Try b h e f p->(k b h e f p).elim True P):(zJp y k).elim True P:=zL (λi=>Stmt.Try.elim (motive_2:=λz=>∀ i,(∀ b h e f p,z = .Try b h e f p->(k b h e f p).elim True P)->(Stmt.Try.elim (motive_2:=λ_=>Option α) z i k).elim True P) y i (λb h e f p _ q=>q b h e f p rfl) i q)
noncomputable def inN:List Nat->Nat->Bool
 | [],_=>false
 | a::r,i=>Nat.beq a i||inN r i
noncomputable def Y4 (e:Expr):Bool:=Nat.beq 26 e.ctorIdx
noncomputable def Zd (e:Expr):Option (Option Expr×Option Expr):=zCP e λa b c _=>c.elim (some (a,b)) λ_=>none
noncomputable def zOP:Const->Option Int
 | .int a=>some a
 | _=>none
noncomputable def zOQ:Const->Option Str
 | .str a=>some a
 | _=>none
noncomputable def Z3 (e:Expr):Option Int:=Yw e λc _ _=>zOP c
noncomputable def zOR (e:Expr):Option Str:=Yw e λc _ _=>zOQ c
noncomputable def VG (e:Expr):Bool:=Nat.beq 7 e.ctorIdx
noncomputable def Jm (e:Expr):Bool:=Nat.beq 23 e.ctorIdx
noncomputable def yc (e:Expr):Bool:=!inN [8,9,10,25,6] e.ctorIdx
noncomputable def y6 (e:Expr):Bool:=inN [23,21] e.ctorIdx
noncomputable def zDX (e:Expr):Bool:=inN [23,21,20,25] e.ctorIdx
noncomputable def Y5 (e:Expr):Bool:=Nat.beq 25 e.ctorIdx
noncomputable def zCS (g:List Comprehension):Option (Expr×Expr×List Expr):=(one g).elim none λc=>cond (c.is_async==0) (some (c.target,c.iter,c.ifs)) none
noncomputable def Y6:List (Option Expr)->Option (List Str)
 | []=>some []
 | none::_=>none
 | some e::r=>(zOR e).elim none λk=>(Y6 r).elim none λl=>some (k::l)
noncomputable def Y7:List (Option Expr)->Option (List Int)
 | []=>some []
 | none::_=>none
 | some e::r=>(Z3 e).elim none λk=>(Y7 r).elim none λl=>some (k::l)
noncomputable def zCT {α:Type} [BEq α]:List α->Bool
 | []=>true
 | x::r=>!(r.contains x)&&zCT r
noncomputable def V.ty?:V->Option String
 | .ty n=>some n
 | _=>Option.none
noncomputable def zJq {α:Type}(m:Sem α):Option α:=dite (m.ctorIdx=0) (λc=>Sem.pure.elim (motive:=λ_=>Option α) m c some) λ_=>none
theorem zIS {α:Type}{m:Sem α}:(zJq m).elim True λx=>m=pure x:=zL λi=>Sem.pure.elim (motive:=λz=>∀ i,(Sem.pure.elim (motive:=λ_=>Option α) z i some).elim True λx=>z=pure x) m i (λ_ _=>rfl) i
noncomputable def swO (names:List (Str×NameKind)) (ts vs:List Expr):Option (Option (List Str)):=zJq (swV names ts vs)
noncomputable def Vx (a:Addr):jA->Option (Ob×jA)
 | []=>none
 | (b,ob)::r=>cond (Nat.beq a b) (some (ob,r)) ((Vx a r).elim none λq=>some (q.1,(b,ob)::q.2))
noncomputable def jt (k:Nat):List V:=(List.range k).map λi=>V.int (i:Nat)
noncomputable def zDY (E:Est) (fr:Fr) (f:Expr) (es:List Expr) (ks:List Keyword):Option (String×List Expr):=zAj f λx _=>cond (ks.isEmpty&&j0 es) ((fr.names.lookup x).elim none λk=>cond (k==.globalImplicit) ((E.gl.lookup x).elim none λv=>v.ty?.elim none λT=>some (T,es)) none) none
noncomputable def yd (E:Est) (fr:Fr) (e:Expr):Option (String×List Expr):=zDU e λf es ks _=>zDY E fr f es ks
section
noncomputable abbrev zAp:=Addr->List V->SS->(V->SS->Tree)->Tree
variable (F:Yv) (C:zAp) (E:Est) (fr:Fr)
noncomputable def zAq (t:Expr) (body:List Stmt):List V->SS->(Fl->SS->Tree)->Tree
 | [],s,K=>K .next s
 | x::xs,s,K=>F.a fr t x s λ_ s=>F.ss fr body s λf s=>match f with
  | .next=>zAq t body xs s K
  | .ret v=>K (.ret v) s
noncomputable def zFg (t:Expr) (body:List Stmt):List (V×V)->SS->(Fl->SS->Tree)->Tree
 | [],s,K=>K .next s
 | z::zs,s,K=>s.mkK (.tup [z.1,z.2]) λT s=>F.a fr t T s λ_ s=>F.ss fr body s λf s=>match f with
  | .next=>zFg t body zs s K
  | .ret v=>K (.ret v) s
noncomputable def zOS:List Expr->SS->(Bool->SS->Tree)->Tree
 | [],s,K=>K true s
 | c::r,s,K=>gd r.isEmpty (F.b fr c s K)
noncomputable def SS.enter (s:SS):SS:=⟨s.o,(nm s.n,[])::s.ns,s.n + 1⟩
noncomputable def SS.enterK (s:SS) (K:Addr->SS->Tree):Tree:=match s with
 | ⟨o,ns,n⟩=>K (nm n) ⟨o,(nm n,[])::ns,n + 1⟩
noncomputable def SS.leave (s:SS) (L:Addr) (K:SS->Tree):Tree:=jS (zl s.ns) λp=>gd (Nat.beq p.1.1 L) (s.upN p.2 K)
noncomputable def zAr (cn:List (Str×NameKind)) (cs:List (Str×Addr)) (elt t:Expr) (ifs:List Expr):List V->List V->SS->(List V->SS->Tree)->Tree
 | [],ys,s,K=>j3 ys.reverse λys=>K ys s
 | x::xs,ys,s,K=>s.enterK λL s0=>F.a ⟨cn,L,cs⟩ t x s0 λ_ s1=>zOS F ⟨cn,L,cs⟩ ifs s1 λb s1 =>
   Tree.br b (F.e ⟨cn,L,cs⟩ elt s1 λy s2=>s2.leave L λs3=>zAr cn cs elt t ifs xs (y::ys) s3 K)
    (s1.leave L λs3=>zAr cn cs elt t ifs xs ys s3 K)
noncomputable def yQ:List (Str×NameKind)->List (Str×Addr)->SS->(List (Str×Addr)->SS->Tree)->Tree
 | [],cs,s,K=>K cs s
 | p::r,cs,s,K=>cond (p.2==NameKind.cell) (s.newK (.cell none) λa s=>yQ r ((p.1,a)::cs) s K) (yQ r cs s K)
noncomputable def two {α:Type}:List α->Option (α×α)
 | [x,y]=>some (x,y)
 | _=>none
noncomputable def zJr (E:Est) (fr:Fr) (x:Str) (s:SS):NameKind->Option V
 | .local=>(zl s.ns).elim none λp=>cond (Nat.beq p.1.1 fr.L) (p.1.2.lookup x) none
 | .cell=>(fr.cells.lookup x).elim none λc=>(zd c s.o).elim none λob=>ob.cell?.elim none id
 | .free=>cond (x==("__classdict__":Str)) none ((fr.cells.lookup x).elim none λc=>(zd c s.o).elim none λob=>ob.cell?.elim none id)
 | .globalImplicit=>E.gl.lookup x
 | _=>none
noncomputable def zDZ (E:Est) (fr:Fr) (s:SS) (e:Expr):Option V:=zAj e λx _=>cond (x==("__debug__":Str)) none ((fr.names.lookup x).elim none (zJr E fr x s))
noncomputable def zD0 (e:Expr):Option (Operator×Expr×Expr):=Qw e λl op r _=>some (op,l,r)
noncomputable def pAt (E:Est) (fr:Fr) (s:SS) (e:Expr):Option (Bool×Int):=(Z3 e).elim ((zDZ E fr s e).elim none λv=>v.int?.elim none λi=>some (true,i)) λi=>some (true,i)
noncomputable def zES (E:Est) (fr:Fr) (s:SS):Nat->Expr->Option (Bool×Int)
 | 0,_=>none
 | n + 1,e=>(zD0 e).elim (pAt E fr s e) λo=>(zES E fr s n o.2.1).elim none λa=>(zES E fr s n o.2.2).elim none λb=>cond (zF7 o.1) none ((zLm o.1 a.2 b.2).elim none λq=>some (a.1&&(b.1&&q.1),q.2))
noncomputable def zLt (E:Est) (fr:Fr) (s:SS) (e:Expr):Option (Bool×Bool):=zAl e λl ops rs _=>(one ops).elim none λop=>(one rs).elim none λr=>cond (behindInMarks op r) none ((zES E fr s 8 l).elim none λa=>(zES E fr s 8 r).elim none λb=>cond (zIN op) (some (a.1&&b.1,a.2==b.2)) none)
noncomputable def zAs:BoolOp->Bool
 | .And=>true
 | .Or=>false
noncomputable def J5 (e:Expr):Option (BoolOp×List Expr):=zDV e λop es _=>some (op,es)
noncomputable def zFh (E:Est) (fr:Fr) (s:SS) (e:Expr):Option (Bool×Bool):=(J5 e).elim (zLt E fr s e) λo =>
 cond (zAs o.1) ((two o.2).elim none λq=>(zDZ E fr s q.1).elim none λv=>v.truth.elim none λb=>(zLt E fr s q.2).elim none λc=>some (c.1,b&&c.2)) none
noncomputable def zJs (E:Est) (cn:List (Str×NameKind)) (cs:List (Str×Addr)) (t:Str) (c elt:Expr) (s:SS) (x:V):Option (Bool×(Bool×Int)) :=
 (zFh E ⟨cn,nm s.n,cs⟩ ⟨s.o,(nm s.n,[(t,x)])::s.ns,s.n + 1⟩ c).elim none λb=>(zES E ⟨cn,nm s.n,cs⟩ ⟨s.o,(nm s.n,[(t,x)])::s.ns,s.n + 1⟩ 8 elt).elim none λy=>some (b.1&&y.1,(b.2,y.2))
noncomputable def zCU (E:Est) (cn:List (Str×NameKind)) (cs:List (Str×Addr)) (t:Str) (c elt:Expr) (s:SS):List V->Option (Bool×List (Bool×Int))
 | []=>some (true,[])
 | x::r=>(zJs E cn cs t c elt s x).elim none λa=>(zCU E cn cs t c elt s r).elim none λq=>some (a.1&&q.1,a.2::q.2)
noncomputable def jp:List (Bool×Int)->List Int
 | []=>[]
 | p::r=>if p.1=true then p.2::jp r else jp r
noncomputable def zFi:Option NameKind->Bool
 | some .local=>true
 | _=>false
noncomputable def J6 (e:Expr):Option Str:=zAj e λx _=>some x
noncomputable def zOT (E:Est) (cn:List (Str×NameKind)) (cs:List (Str×Addr)) (elt t c:Expr) (xs:List V) (s:SS) (K:List V->SS->Tree):Tree:=jS (J6 t) λn=>gd (zFi (cn.lookup n)) (jS (zCU E cn cs n c elt s xs) λq=>Tree.br q.1 (K ((jp q.2).map V.int) s) .fail)
noncomputable def zAt (iter:Expr) (s:SS) (K:List V->Option (Addr×Ob)->SS->Tree):Tree:=(yd E fr iter).elim
 (gd (!VG iter) (F.e fr iter s λx s=>jS x.ref? λl=>jS (Vx l s.o) λq=>jS q.1.list? λxs=>gd (Nat.ble xs.length 900) (s.up q.2 (K xs (some (l,.list xs))))))
 λp=>gd (p.1=="range") (jS (one p.2) λe=>F.e fr e s λx s=>jS x.int? λk=>gd (decide (0<=k/\k<=900)) (j3 (jt k.toNat) λl=>s.newK (zU (k.toNat:Int)) λ_ s=>K l none s))
noncomputable def QP (p:Option (Addr×Ob)) (s:SS):SS:=⟨s.o++p.elim [] λq=>[q],s.ns,s.n⟩
noncomputable def QR (p:Option (Addr×Ob)) (s:SS) (K:SS->Tree):Tree:=p.elim (K s) λq=>match s with
 | ⟨o,ns,n⟩=>j3 (o++[q]) λo=>K ⟨o,ns,n⟩
noncomputable def lcK (p:Option (Addr×Ob)) (K:V->SS->Tree) (ys:List V) (s:SS):Tree:=QR p s λs=>s.mkK (.list ys) K
noncomputable def lcB (names:List (Str×NameKind)) (elt t:Expr) (ifs:List Expr) (cs:List (Str×Addr)) (xs:List V) (s:SS) (K:List V->SS->Tree):Tree :=
 (one ifs).elim (zAr F names cs elt t ifs xs [] s K) λc=>zOT E names cs elt t c xs s K
noncomputable def lcC (names:List (Str×NameKind)) (elt t:Expr) (ifs:List Expr) (cl:List (Str×Addr)) (xs:List V) (s:SS) (K:List V->SS->Tree):Tree :=
 yQ names cl s λcs s=>lcB F E (y4 names fr.names) elt t ifs cs xs s K
noncomputable def zOU (elt t iter:Expr) (ifs:List Expr) (scope:Scope) (s:SS) (K:V->SS->Tree):Tree:=jS (yb fr.cells scope.names []) λcl =>
 gd (scope.kind==.function&&(scope.names.all (λx=>!(x.2==.local)||scope.names.lookup x.1==some .local)&&Nat.ble ifs.length 1))
  (zAt F E fr iter s λxs p s=>lcC F E fr scope.names elt t ifs cl xs s (lcK p K))
noncomputable def zLu (l:Addr) (is:List Int) (s:SS) (t:Tree):Tree:=jS (zd l s.o) λob=>jS ob.list? λxs=>jS (zV xs) λjs=>gd (js==is) t
noncomputable def zFj (cn:List (Str×NameKind)) (cs:List (Str×Addr)) (elt t:Expr) (l:Addr) (is:List Int):List (Nat×Int)->List V->SS->(List V->SS->Tree)->Tree
 | [],ys,s,K=>zLu l is s (j3 ys.reverse λys=>K ys s)
 | z::zs,ys,s,K=>zLu l is s (s.enterK λL s0=>s0.mkK (.tup [.int (z.1:Int),.int z.2]) λT s1=>F.a ⟨cn,L,cs⟩ t T s1 λ_ s2=>F.e ⟨cn,L,cs⟩ elt s2 λy s3=>s3.leave L λs4=>zFj cn cs elt t l is zs (y::ys) s4 K)
noncomputable def enB (elt t:Expr) (cn:List (Str×NameKind)) (cl:List (Str×Addr)) (l:Addr) (s:SS) (K:V->SS->Tree):Tree:=jS (zd l s.o) λob=>jS ob.list? λxs=>jS (zV xs) λis=>gd (Nat.ble is.length 900)
 (zFj F cn cl elt t l is ((List.range is.length).zip is) [] s λys s=>s.mkK (.list ys) K)
noncomputable def enS (elt t iter:Expr) (ifs:List Expr) (scope:Scope) (s:SS) (K:V->SS->Tree):Tree:=jS (yd E fr iter) λp=>jS (one p.2) λe=>jS (yb fr.cells scope.names []) λcl =>
 gd (Y5 t&&(ifs.isEmpty&&(scope.kind==.function&&(scope.names.all (λx=>!(x.2==.local)||scope.names.lookup x.1==some .local)&&scope.names.all (λx=>!(x.2==.cell))))))
  (F.e fr e s λx s=>jS x.ref? λl=>enB F elt t (y4 scope.names fr.names) cl l s K)
noncomputable def zCV (p:String×List Expr):Bool:=p.1=="enumerate"
noncomputable def lcS (elt t iter:Expr) (ifs:List Expr) (scope:Scope) (s:SS) (K:V->SS->Tree):Tree:=cond ((yd E fr iter).elim false zCV) (enS F E fr elt t iter ifs scope s K) (zOU F E fr elt t iter ifs scope s K)
noncomputable def zOV (t:Expr) (body:List Stmt) (l m:Addr) (xs ys:List V) (s:SS) (K:Fl->SS->Tree):Tree :=
 j3 (xs.zip ys) λzs=>zFg F fr t body zs s λf s=>QR (some (m,.list ys)) s λs=>QR (some (l,.list xs)) s (K f)
noncomputable def zOW (t:Expr) (body:List Stmt) (l m:Addr) (s:SS) (K:Fl->SS->Tree):Tree :=
 jS (Vx l s.o) λq=>jS q.1.list? λxs=>jS (Vx m q.2) λq'=>jS q'.1.list? λys=>gd (Nat.beq xs.length ys.length&&Nat.ble xs.length 900) (s.up q'.2 λs=>zOV F fr t body l m xs ys s K)
noncomputable def zFk (t e e':Expr) (body:List Stmt) (s:SS) (K:Fl->SS->Tree):Tree:=gd (Y5 t) (F.e fr e s λx s=>F.e fr e' s λy s=>jS x.ref? λl=>jS y.ref? λm=>zOW F fr t body l m s K)
noncomputable def Jn (e:Expr):Option (List Int):=zAj e λx _=>(fr.names.lookup x).elim none λk=>cond (k==.globalImplicit) ((E.gl.lookup x).elim none λv=>v.ref?.elim none λl=>E.bt.lookup l) none
noncomputable def zLv (t iter:Expr) (body:List Stmt) (s:SS) (K:Fl->SS->Tree):Tree:=(Jn E fr iter).elim (zAt F E fr iter s λxs p s=>zAq F fr t body xs s λf s=>QR p s (K f))
 λis=>j3 (is.map V.int) λxs=>zAq F fr t body xs s K
noncomputable def zLw (t iter:Expr) (body:List Stmt) (s:SS) (K:Fl->SS->Tree):Tree:=cond ((yd E fr iter).elim false λp=>p.1=="zip")
 (jS (yd E fr iter) λp=>jS (two p.2) λq=>zFk F fr t q.1 q.2 body s K)
 (zLv F E fr t iter body s K)
noncomputable def zIT:V->Bool
 | .ref a=>E.fn.contains a
 | .bi _=>true
 | .ty _=>true
 | _=>false
noncomputable def V.bool?:V->Option Bool
 | .bool b=>some b
 | _=>Option.none
noncomputable def biS (n:String) (x:V) (s:SS) (K:V->SS->Tree):Tree :=
 cond (n=="len") (jS x.ref? λl=>J4 E l s λys=>K (.int ys.length) s)
 (cond (n=="abs") (jS x.int? λa=>K (.int (if a < 0 then -a else a)) s)
 (gd (n=="sum") (jS x.ref? λl=>J4 E l s λys=>jS (zV ys) λis=>K (.int is.sum) s)))
noncomputable def zJt (f:V) (xs:List V) (s:SS) (K:V->SS->Tree):Tree:=match f with
 | .ref a=>C a xs s K
 | .bi n=>jS (one xs) λx=>biS E n x s K
 | .ty n=>gd (n=="int") (jS (one xs) λx=>jS x.bool? λb=>K (.int (if b then 1 else 0)) s)
 | _=>.fail
noncomputable def zOX (o e:Expr) (s:SS) (K:V->SS->Tree):Tree:=gd (j0 [e]) (F.e fr o s λy s=>jS y.ref? λb=>jS (zd b s.o) λob=>jS ob.list? λ_=>F.e fr e s λx s=>J4 E b s λxs=>zLl E b (xs++[x]) λxs =>
 YC b (.list xs) s λ_ s=>K .none s)
noncomputable def zOY (o:Expr) (s:SS) (K:V->SS->Tree):Tree:=F.e fr o s λy s=>jS y.ref? λb=>jS (E.pp.lookup b) λq=>jS (zd b s.o) λob=>jS ob.list? λxs =>
 .side (xs=q.1++[q.2]/\xs.length<=900) (YC b (.list q.1) s λ_ s=>K q.2 s)
noncomputable def zOZ (o:Expr) (name:Str) (es:List Expr) (s:SS) (K:V->SS->Tree):Tree:=jS (E.mt.lookup name) λf=>gd (j0 es) (F.e fr o s λy s=>zIP E y s λb _ kvs =>
 gd (kvs.lookup name).isNone (F.es fr es s λxs s=>C f (.ref b::xs) s K))
noncomputable def zFl (o:Expr) (name:Str) (es:List Expr) (s:SS) (K:V->SS->Tree):Tree:=cond (name==("append":Str)) (jS (one es) λe=>zOX F E fr o e s K)
 (cond (name==("pop":Str)) (gd es.isEmpty (zOY F E fr o s K)) (zOZ F C E fr o name es s K))
noncomputable def zAu (f:Str) (es:List Expr) (s:SS) (K:V->SS->Tree):Tree:=jS (fr.names.lookup f) λk=>gd (k==.globalImplicit) (jS (E.gl.lookup f) λv=>gd (zIT E v) (F.es fr es s λxs s=>zJt C E v xs s K))
noncomputable def zJu (f:Expr) (es:List Expr) (pos:Pos) (s:SS) (K:V->SS->Tree):Tree:=match f with
 | .Name f _=>gd (j0 es) (zAu F C E fr f es s K)
 | .Subscript _ _ _=>.fail
 | .Attribute o name apos=>gd (y6 o&&(Nat.blt es.length 30&&(apos.endLine==pos.line))) (zFl F C E fr o name es s K)
 | .Tuple _ _ _=>.fail
 | _=>.fail
noncomputable def zLx (v:Expr) (lo up:Option Expr) (s:SS) (K:V->SS->Tree):Tree:=jS up λu=>jS (Z3 u) λb=>lo.elim
 (gd (decide (0<=b)) (F.e fr v s λx s=>jS x.ref? λl=>J4 E l s λxs=>j3 (xs.take b.toNat) λl=>s.mkK (.list l) K))
 λw=>jS (Z3 w) λa=>gd (decide (0<=a/\a<=b)&&Jm v) (F.e fr v s λx s=>jS x.ref? λl=>J4 E l s λxs=>gd (decide (b<=xs.length)) (j3 ((xs.drop a.toNat).take (b.toNat - a.toNat)) λl=>s.mkK (.list l) K))
noncomputable def V.unT:V->V
 | .bool _=>.bool false
 | x=>x
noncomputable def zJv (op:BoolOp) (p:Pos) (r:List Expr) (K:V->SS->Tree) (x:V) (b:Bool) (s:SS):Tree:=match op with
 | .And=>Tree.br b (F.e fr (.BoolOp .And r p) s K) (K x.unT s)
 | .Or=>Tree.br b (K x s) (F.e fr (.BoolOp .Or r p) s K)
noncomputable def zJw (op:BoolOp) (p:Pos):List Expr->SS->(V->SS->Tree)->Tree
 | [],_,_=>.fail
 | e::r,s,K=>cond r.isEmpty (F.e fr e s K) (F.e fr e s λx s=>Qu x s λb s=>zJv F fr op p r K x b s)
noncomputable def zLy (l:Expr) (ops:List CmpOp) (rs:List Expr) (s:SS) (K:V->SS->Tree):Tree:=jS (one ops) λop=>jS (one rs) λr=>gd (!behindInMarks op r) (F.e fr l s λx s=>F.e fr r s λy s=>zOL E op x y s K)
noncomputable def zLz:Ob->Bool
 | .sdict []=>true
 | _=>false
noncomputable def zMA:Ob->Bool
 | .idict []=>true
 | _=>false
noncomputable def zFm {α:Type} [BEq α] (mk:List (α×V)->Ob) (isN:Ob->Bool) (ks:List α) (values:List Expr) (s:SS) (K:V->SS->Tree):Tree:=gd (zCT ks&&(Nat.beq ks.length values.length&&(!ks.isEmpty&&Nat.ble ks.length 15)))
 (s.newK (mk []) λd s=>F.es fr values s λxs s=>jS (zd d s.o) λob=>gd (isN ob) (j3 (ks.zip xs) λkvs=>YC d (mk kvs) s λ_ s=>K (.ref d) s))
noncomputable def zFn (keys:List (Option Expr)) (values:List Expr) (s:SS) (K:V->SS->Tree):Tree:=(Y6 keys).elim ((Y7 keys).elim .fail λks=>zFm F fr .idict zMA ks values s K) λks=>zFm F fr .sdict zLz ks values s K
noncomputable def zJx (e:Expr) (s:SS) (K:V->SS->Tree):Tree:=match e with
 | .Name x _=>zJm E fr x s K
 | .Constant c _ _=>zF6 c s K
 | .BinOp l op r _=>F.e fr l s λx s=>F.e fr r s λy s=>zIM E op x y s K
 | .Compare l ops rs _=>zLy F E fr l ops rs s K
 | .BoolOp op es p=>zJw F fr op p es s K
 | .IfExp t b e _=>F.b fr t s λc s=>Tree.br c (F.e fr b s K) (F.e fr e s K)
 | .Tuple es _ _=>gd (j0 es&&Nat.ble es.length 900) (F.es fr es s λxs s=>s.mkK (.tup xs) K)
 | .List es _=>gd (j0 es&&Nat.ble es.length 900) (F.es fr es s λxs s=>s.mkK (.list xs) K)
 | .Subscript v i _=>cond (Y4 i) (jS (Zd i) λp=>zLx F E fr v p.1 p.2 s K) (F.e fr v s λx s=>F.e fr i s λj s=>zFa E x j s K)
 | .Call f es ks pos=>gd ks.isEmpty (zJu F C E fr f es pos s K)
 | .Attribute o name _=>gd (Jm o) (F.e fr o s λy s=>zAh E y name s K)
 | .ListComp elt gens scope _=>jS (zCS gens) λg=>lcS F E fr elt g.1 g.2.1 g.2.2 scope s K
 | .Dict keys values _=>zFn F fr keys values s K
 | _=>.fail
noncomputable def zMB (e:Expr):Bool:=inN [23,2,16,21,20] e.ctorIdx
noncomputable def zO0 (op:BoolOp) (p:Pos):List Expr->SS->(Bool->SS->Tree)->Tree
 | [],s,K=>match op with
  | .And=>K true s
  | .Or=>K false s
 | x::r,s,K=>F.b fr x s λb s=>match op with
  | .And=>Tree.br b (F.b fr (.BoolOp .And r p) s K) (K false s)
  | .Or=>Tree.br b (K true s) (F.b fr (.BoolOp .Or r p) s K)
noncomputable def zJy (e:Expr) (s:SS) (K:Bool->SS->Tree):Tree:=match e with
 | .Compare l ops rs _=>zLy F E fr l ops rs s λz s=>Qu z s K
 | .UnaryOp op x _=>match op with
  | .Not=>F.b fr x s λb s=>K (!b) s
  | _=>.fail
 | .BoolOp op es p=>zO0 F fr op p es s K
 | e=>gd (zMB e) (F.e fr e s λz s=>Qu z s K)
noncomputable def zFo (es:List Expr) (s:SS) (K:List V->SS->Tree):Tree:=match es with
 | []=>K [] s
 | e::r=>F.e fr e s λx s=>F.es fr r s λxs s=>K (x::xs) s
noncomputable def asL:List Expr->List V->SS->(Unit->SS->Tree)->Tree
 | [],[],s,K=>K () s
 | t::ts,x::xs,s,K=>F.a fr t x s λ_ s=>asL ts xs s K
 | _,_,_,_=>.fail
noncomputable def zJz (t:Expr) (x:V) (s:SS) (K:Unit->SS->Tree):Tree:=match t with
 | .Name n _=>zCK fr n x s K
 | .Subscript o i _=>F.e fr o s λy s=>F.e fr i s λj s=>zAg E y j x s K
 | .Attribute o name _=>F.e fr o s λy s=>zAi E y name x s K
 | .Tuple ts _ _=>gd (j0 ts) (jS x.ref? λT=>jS (zd T s.o) λob=>jS ob.tup? λxs=>gd (Nat.beq ts.length xs.length) (asL F fr ts xs s K))
 | _=>.fail
noncomputable def J7 (t:Expr) (K:Fl->SS->Tree) (x:V) (s:SS):Tree:=F.a fr t x s λ_ s=>K .next s
noncomputable def zKA (ns:List Str) (vs:List Expr) (s:SS) (K:Fl->SS->Tree):Tree:=F.es fr vs s λxs s=>j3 ns.reverse λnr=>j3 xs.reverse λxr=>s.newK (.tup xs) λ_ s=>zAf fr nr xr s λ_ s=>K .next s
noncomputable def zKB (t v:Expr) (vs:List Expr) (s:SS) (K:Fl->SS->Tree):Tree:=match t with
 | .Name _ _=>F.e fr v s (J7 F fr t K)
 | .Subscript _ _ _=>F.e fr v s (J7 F fr t K)
 | .Attribute _ _ _=>.fail
 | .Tuple ts _ _=>jS (swO fr.names ts vs) λo=>o.elim (F.e fr v s (J7 F fr t K)) λns=>gd (Nat.beq vs.length ns.length&&!ns.isEmpty) (zKA F fr ns vs s K)
 | _=>.fail
noncomputable def zMC (t v elt:Expr) (g:Expr×Expr×List Expr) (scope:Scope) (s:SS) (K:Fl->SS->Tree):Tree:=match t with
 | .Name _ _=>lcS F E fr elt g.1 g.2.1 g.2.2 scope s (J7 F fr t K)
 | .Subscript _ _ _=>F.e fr v s (J7 F fr t K)
 | .Attribute _ _ _=>.fail
 | .Tuple _ _ _=>.fail
 | _=>.fail
noncomputable def zMD (t v:Expr) (s:SS) (K:Fl->SS->Tree):Tree:=cond (yc v&&zDX t) (F.e fr v s (J7 F fr t K)) (match v with
 | .Tuple vs _ _=>gd (j0 vs&&Nat.ble vs.length 900) (zKB F fr t v vs s K)
 | .ListComp elt gens scope _=>jS (zCS gens) λg=>zMC F E fr t v elt g scope s K
 | .Dict _ _ _=>gd (zDX t) (F.e fr v s (J7 F fr t K))
 | _=>.fail)
noncomputable def zKC (st:Stmt) (s:SS) (K:Fl->SS->Tree):Tree:=match st with
 | .Return v _=>jS v λe=>F.e fr e s λx s=>K (.ret x) s
 | .If t b e _=>F.b fr t s λc s=>Tree.br c (F.ss fr b s K) (F.ss fr e s K)
 | .Pass _=>K .next s
 | .Expr e _=>gd (yc e||Y5 e) (F.e fr e s λ_ s=>K .next s)
 | .Assign ts v _=>jS (one ts) λt=>zMD F E fr t v s K
 | .For t iter body orelse _=>gd orelse.isEmpty (zLw F E fr t iter body s K)
 | _=>.fail
noncomputable def zFp (sts:List Stmt) (s:SS) (K:Fl->SS->Tree):Tree:=match sts with
 | []=>K .next s
 | st::r=>F.s fr st s λf s=>match f with
  | .next=>F.ss fr r s K
  | .ret v=>K (.ret v) s
noncomputable def zO1:Yv:=⟨zJx F C E,zJy F E,zFo F,zJz F E,zKC F E,zFp F⟩
noncomputable def V.refs:V->List Addr
 | .ref a=>[a]
 | _=>[]
noncomputable def zKD (xs:List V):List Addr:=xs.flatMap V.refs
noncomputable def zKE {α:Type}(xs:List (α×V)):List Addr:=xs.flatMap λp=>p.2.refs
noncomputable def Ob.refs:Ob->List Addr
 | .list xs=>zKD xs
 | .tup xs=>zKD xs
 | .sdict kvs=>zKE kvs
 | .idict _=>[]
 | .inst _ d=>[d]
 | .attrs kvs=>zKE kvs
 | .cell x=>x.elim [] V.refs
 | _=>[]
noncomputable def zME:Ob->Bool
 | .tup [.ref _,_,_]=>true
 | _=>false
noncomputable def zD1 (m:Addr) (acc:List Addr) (l:List Addr):List Addr:=l.filter λa=>Nat.ble m a&&!(acc.contains a)
noncomputable def Jo (op:List Addr) (m:Addr):jA->List Addr
 | []=>[]
 | (a,ob)::r=>cond (Nat.ble m a) (cond (zME ob) (a::Jo op m r) (Jo op m r)) (cond (op.contains a) (Jo op m r) (zD1 m [] ob.refs++Jo op m r))
noncomputable def zD2 (op:List Addr) (m:Addr) (o:jA):Nat->List Addr->List Addr->List Addr
 | 0,_,acc=>acc
 | _,[],acc=>acc
 | k + 1,a::r,acc=>cond (acc.contains a) (zD2 op m o k r acc) (zD2 op m o k (cond (op.contains a) r ((zd a o).elim r λob=>zD1 m acc ob.refs++r)) (a::acc))
noncomputable def zKF (m:Addr) (acc:List Addr) (p:Addr×Ob):Bool:=!(Nat.ble m p.1)||acc.contains p.1
noncomputable def gcO (op:List Addr) (m:Addr) (v:V) (o:jA):jA:=o.filter (zKF m (zD2 op m o 100 (zD1 m [] v.refs++Jo op m o) []))
noncomputable def gcK (op:List Addr) (m:Addr) (v:V) (s:SS) (K:SS->Tree):Tree:=match s with
 | ⟨o,ns,n⟩=>j3 (gcO op m v o) λo=>K ⟨o,ns,n⟩
noncomputable def SS.numK (s:SS) (K:Addr->Tree):Tree:=match s with
 | ⟨_,_,n⟩=>K (nm n)
noncomputable def inS (op:List Addr) (c:Code) (xs:List V) (s:SS) (K:V->SS->Tree):Tree:=s.numK λm =>
 yQ c.names [] s λcs s1=>s1.frameK λL s1=>zAf ⟨c.names,L,cs⟩ c.ys xs s1 λ_ s2 =>
  F.ss ⟨c.names,L,cs⟩ c.body s2 λf s3=>match f with
   | .next=>gcK op m .none s3 λs3=>s3.upN s.ns (K .none)
   | .ret v=>gcK op m v s3 λs3=>s3.upN s.ns (K v)
noncomputable def zFq (f:Addr) (xs:List V) (s:SS) (K:V->SS->Tree):Tree:=(E.sp.lookup f).elim
 (jS (E.cd.lookup f) λc=>gd (Nat.blt 0 E.k) (jS (c.bind xs) λxs'=>inS F E.op c xs' s K))
 λq=>gd (Nat.ble q.1 E.k) (q.2 xs s K)
end
noncomputable def bot:Yv:=⟨λ_ _ _ _=>.fail,λ_ _ _ _=>.fail,λ_ _ _ _=>.fail,λ_ _ _ _ _=>.fail,λ_ _ _ _=>.fail,λ_ _ _ _=>.fail⟩
noncomputable def go:Nat->Est->Yv
 | 0,_=>bot
 | n + 1,E=>zO1 (go n E) (zFq (go n E.dn) E) E
structure FrAt (fr:Fr) (r:List Addr) (env:Env):Prop where
 h:EnvAt env fr.names (jL r fr.L) (fr.cells.map λp=>(p.1,jL r p.2))
noncomputable def FrWf (fr:Fr) (n:Nat):Prop:=wfA n fr.L/\∀ p ∈ fr.cells,wfA n p.2
structure At (E:Est) (fr:Fr) (W:Wd) (A:Around) (env:Env) (r:List Addr) (s:SS):Prop where
 G:Gr W E.K E.mg E.mb
 R:Ar A E.k
 he:FrAt fr r env
 hf:FrWf fr s.n
 ok:s.ok r
section
variable {E:Est} {fr:Fr} {W W':Wd} {A:Around} {env:Env} {r t:List Addr} {s s1:SS}
theorem yJ {cells:List (Str×Addr)}(h:∀ p ∈ cells,wfA r.length p.2):(cells.map λp=>(p.1,jL (r++t) p.2))=cells.map λp=>(p.1,jL r p.2):=List.map_congr_left λp hp=>by rw [zK (h p hp)]
theorem FrAt.app (h:FrAt fr r env) (hf:FrWf fr r.length):FrAt fr (r++t) env:=by refine ⟨?_⟩;replace h:=h.h;rw [zK hf.1,yJ hf.2];exact h
theorem FrWf.mono {n m:Nat}(h:FrWf fr n) (k:n<=m):FrWf fr m:=⟨h.1.mono k,λp hp=>(h.2 p hp).mono k⟩
theorem SS.ok.le (a:s.ok r) (b:s1.ok (r++t)):s.n<=s1.n:=by rw [<- a.len,<- b.len,List.length_append];exact Nat.le_add_right ..
theorem At.next (a:At E fr W A env r s) (b:s1.ok (r++t)):At E fr W A env (r++t) s1:=⟨a.G,a.R,a.he.app (a.ok.len▸a.hf),a.hf.mono (a.ok.le b),b⟩
theorem At.put (a:At E fr W A env r s) (b:s1.ok r):At E fr W A env r s1:=⟨a.G,a.R,a.he,a.hf.mono (by rw [<- a.ok.len,<- b.len];exact Nat.le_refl _),b⟩
theorem At.world (a:At E fr W A env r s) (G':Gr W' E.K E.mg E.mb):At E fr W' A env r s:=⟨G',a.R,a.he,a.hf,a.ok⟩
end
noncomputable def SE (E:Est) (fr:Fr) (e:Expr) (s:SS) (K:V->SS->Tree):Prop:=∀ W A env r,At E fr W A env r s->Ev W A env e (jC r s.o) (jK r s.ns) (Lift RV r K)
noncomputable def SB (E:Est) (fr:Fr) (e:Expr) (s:SS) (K:Bool->SS->Tree):Prop:=∀ W A env r,At E fr W A env r s->Bo W A env e (jC r s.o) (jK r s.ns) (Lift RB r K)
noncomputable def SEs (E:Est) (fr:Fr) (es:List Expr) (s:SS) (K:List V->SS->Tree):Prop:=∀ W A env r,At E fr W A env r s->Evs W A env es (jC r s.o) (jK r s.ns) (Lift RVs r K)
noncomputable def SA (E:Est) (fr:Fr) (t:Expr) (x:V) (s:SS) (K:Unit->SS->Tree):Prop:=∀ W A env r,At E fr W A env r s->x.wf s.n->As W A env t (x.ren r) (jC r s.o) (jK r s.ns) λo n=>Lift RU r K () o n
noncomputable def SSt (E:Est) (fr:Fr) (st:Stmt) (s:SS) (K:Fl->SS->Tree):Prop:=∀ W A env r,At E fr W A env r s->Ex W A env st (jC r s.o) (jK r s.ns) (Lift RF r K)
noncomputable def SSs (E:Est) (fr:Fr) (sts:List Stmt) (s:SS) (K:Fl->SS->Tree):Prop:=∀ W A env r,At E fr W A env r s->Es W A env sts (jC r s.o) (jK r s.ns) (Lift RF r K)
structure jU (E:Est) (F:Yv):Prop where
 e:∀ {fr e s K},F.e fr e s K->SE E fr e s K
 b:∀ {fr e s K},F.b fr e s K->SB E fr e s K
 es:∀ {fr e s K},F.es fr e s K->SEs E fr e s K
 a:∀ {fr t x s K},F.a fr t x s K->SA E fr t x s K
 s:∀ {fr e s K},F.s fr e s K->SSt E fr e s K
 ss:∀ {fr e s K},F.ss fr e s K->SSs E fr e s K
section
variable {E:Est} {fr:Fr} {W W':Wd} {A:Around} {env:Env} {r t:List Addr} {s s1:SS} {o:jA} {n:jB}
theorem Ev.lift {e:Expr}{K:V->SS->Tree}{Q:V->jA->jB->Prop}(h:Ev W A env e o n (Lift RV r K)) (k:∀ t x s,SS.ok (r++t) s->x.wf s.n->K x s->Q (x.ren (r++t)) (jC (r++t) s.o) (jK (r++t) s.ns)):Ev W A env e o n Q :=
 Ev.mono h λ_ _ _ q=>q.elim k
theorem Bo.lift {e:Expr}{K:Bool->SS->Tree}{Q:Bool->jA->jB->Prop}(h:Bo W A env e o n (Lift RB r K)) (k:∀ t x s,SS.ok (r++t) s->K x s->Q x (jC (r++t) s.o) (jK (r++t) s.ns)):Bo W A env e o n Q :=
 Tr.mono h λ_ _ _ q=>q.elim λt _ s ok _=>k t _ s ok
theorem Evs.lift {e:List Expr}{K:List V->SS->Tree}{Q:List V->jA->jB->Prop}(h:Evs W A env e o n (Lift RVs r K)) (k:∀ t xs s,SS.ok (r++t) s->(∀ x ∈ xs,x.wf s.n)->K xs s->Q (xs.map (V.ren (r++t))) (jC (r++t) s.o) (jK (r++t) s.ns)):Evs W A env e o n Q :=
 Evs.mono h λ_ _ _ q=>q.elim k
theorem As.lift {t:Expr}{x:V}{K:Unit->SS->Tree}{Q:jA->jB->Prop}(h:As W A env t x o n λo n=>Lift RU r K () o n) (k:∀ t s,SS.ok (r++t) s->K () s->Q (jC (r++t) s.o) (jK (r++t) s.ns)):As W A env t x o n Q:=λv hv =>
 Tr.mono (h v hv) λ_ _ _ q=>q.elim (P:=λ_ o n=>Q o n) λt _ s ok _=>k t s ok
theorem Stn.lift {t:Str}{x:V}{K:Unit->SS->Tree}{Q:jA->jB->Prop}(h:Stn W A env t x o n λo n=>Lift RU r K () o n) (k:∀ t s,SS.ok (r++t) s->K () s->Q (jC (r++t) s.o) (jK (r++t) s.ns)):Stn W A env t x o n Q:=λv hv =>
 Tr.mono (h v hv) λ_ _ _ q=>q.elim (P:=λ_ o n=>Q o n) λt _ s ok _=>k t s ok
theorem Es.lift {e:List Stmt}{K:Fl->SS->Tree}{Q:Fl->jA->jB->Prop}(h:Es W A env e o n (Lift RF r K)) (k:∀ t x s,SS.ok (r++t) s->x.wf s.n->K x s->Q (x.ren (r++t)) (jC (r++t) s.o) (jK (r++t) s.ns)):Es W A env e o n Q :=
 Tr.mono h λ_ _ _ q=>q.mono λ_ q=>q.elim k
theorem Ex.lift {e:Stmt}{K:Fl->SS->Tree}{Q:Fl->jA->jB->Prop}(h:Ex W A env e o n (Lift RF r K)) (k:∀ t x s,SS.ok (r++t) s->x.wf s.n->K x s->Q (x.ren (r++t)) (jC (r++t) s.o) (jK (r++t) s.ns)):Ex W A env e o n Q :=
 Tr.mono h λ_ _ _ q=>q.mono λ_ q=>q.elim k
theorem Bin.mono {op:Operator}{x y:V}{Q Q':V->jA->jB->Prop}(h:Bin W A op x y o n Q) (k:∀ x o n,Q x o n->Q' x o n):Bin W A op x y o n Q':=λa b ha hb=>Tv.mono (h a b ha hb) k
theorem Cmp.mono {op:CmpOp}{x y:V}{Q Q':V->jA->jB->Prop}(h:Cmp W A op x y o n Q) (k:∀ x o n,Q x o n->Q' x o n):Cmp W A op x y o n Q':=λa b ha hb=>Tv.mono (h a b ha hb) k
theorem Sub.mono {v i:Expr}{x y:V}{Q Q':V->jA->jB->Prop}(h:Sub W A v i x y o n Q) (k:∀ x o n,Q x o n->Q' x o n):Sub W A v i x y o n Q':=λa b ha hb=>Tv.mono (h a b ha hb) k
theorem Tru.mono {x:V}{Q Q':Bool->jA->jB->Prop}(h:Tru W A x o n Q) (k:∀ x o n,Q x o n->Q' x o n):Tru W A x o n Q':=λa ha=>Tr.mono (h a ha) k
theorem Cl.mono {f:Value}{xs:List V}{Q Q':V->jA->jB->Prop}(h:Cl W A f xs o n Q) (k:∀ x o n,Q x o n->Q' x o n):Cl W A f xs o n Q':=λa ha=>Tv.mono (h a ha) k
theorem SetI.mono {x i y:V}{Q Q':jA->jB->Prop}(h:SetI W A x i y o n Q) (k:∀ o n,Q o n->Q' o n):SetI W A x i y o n Q':=λa b c ha hb hc=>Tr.mono (h a b c ha hb hc) λ_=>k
theorem zB {α:Type}{R:Rn α}{K:α->SS->Tree}{x:α}(ok:s.ok r) (hx:R.wf s.n x) (h:K x s):Lift R r K (R.ren r x) (jC r s.o) (jK r s.ns):=Lift.mk ok hx h
theorem yR {K:V->SS->Tree}{ob:Ob}{l:Addr}(ok:s.ok r) (hb:ob.wf s.n) (h:K (.ref (nm s.n)) (s.new ob)):Lift RV r K (.ref l) ((l,ob.ren r)::jC r s.o) (jK r s.ns):=by obtain ⟨a,b,c,d⟩:=ok.new (l:=l) hb;exact .of' (y:=V.ref (nm s.n)) [l] a (yE:wfA (s.n + 1) (nm s.n)) (congrArg V.ref d.symm) b.symm c.symm h
theorem JJ {x:Str}{c:Addr}:∀ {l:List (Str×Addr)},l.lookup x=some c->(l.map λp=>(p.1,jL r p.2)).lookup x=some (jL r c)
 | (y,u)::q,e=>by
  rw [List.map_cons,List.lookup_cons] at *
  induction hx:x==y using Bool.casesOn with
  | true=>rw [hx] at e;obtain rfl:=Option.some.inj e;rfl
  | false=>rw [hx] at e;exact JJ e
theorem je {K:V->SS->Tree}{a:Int}(ok:s.ok r) (h:K (.int a) s):Lift RV r K (.int a) (jC r s.o) (jK r s.ns):=zB (R:=RV) (x:=.int a) ok trivial h
theorem zFr {K:V->SS->Tree}{a:Str}(ok:s.ok r) (h:K (.str a) s):Lift RV r K (.str a) (jC r s.o) (jK r s.ns):=zB (R:=RV) (x:=.str a) ok trivial h
theorem ju {K:V->SS->Tree}{a:Bool}(ok:s.ok r) (h:K (.bool a) s):Lift RV r K (.bool a) (jC r s.o) (jK r s.ns):=zB (R:=RV) (x:=.bool a) ok trivial h
theorem Yx {K:V->SS->Tree}(ok:s.ok r) (h:K .none s):Lift RV r K .none (jC r s.o) (jK r s.ns):=zB (R:=RV) (x:=.none) ok trivial h
theorem J8 {K:Bool->SS->Tree}{a:Bool}(ok:s.ok r) (h:K a s):Lift RB r K a (jC r s.o) (jK r s.ns):=zB (R:=RB) (x:=a) ok trivial h
theorem zFs {l:Addr}{xs:List V}{t:Tree}(h:(zLk E l xs t).holds):xs.length<=900/\t.holds:=by
 unfold zLk at h;induction e:E.op.contains l using Bool.casesOn with
 | true=>rw [e] at h;exact ⟨SideP.p h,SideP.q h⟩
 | false=>rw [e] at h;exact ⟨Nat.le_of_ble_eq_true (Vv h).1,(Vv h).2⟩
theorem zMF {l:Addr}{xs:List V}{K:List V->Tree}(h:(zLl E l xs K).holds):(K xs).holds:=by
 unfold zLl at h;induction e:E.op.contains l using Bool.casesOn with
 | true=>rw [e] at h;exact h
 | false=>rw [e] at h;exact jT h
theorem ye {l:Addr}{K:List V->Tree}(ok:s.ok r) (h:(J4 E l s K).holds):∃ xs,zd l s.o=some (.list xs)/\Has (jL r l) (.list (xs.map (V.ren r))) (jC r s.o)/\xs.length<=900/\(∀ x ∈ xs,x.wf s.n)/\(K xs).holds:=by refine jE h ?_;clear h;intro ob e h;replace h:=Zz h;obtain ⟨xs,rfl,h⟩:=h;exact ⟨xs,e,j7 e,(zFs h).1,(ok.get e).1,(zFs h).2⟩
theorem V.ren_ref {a:Addr}:V.ren r (.ref a) = .ref (jL r a):=rfl
theorem VH {x:Str}{K:V->SS->Tree}(ok:s.ok r) (h:(zF5 fr x s K).holds):∃ c v,(fr.cells.map λp=>(p.1,jL r p.2)).lookup x=some (jL r c)/\Has (jL r c) (.cell (some (V.ren r v))) (jC r s.o)/\Lift RV r K (V.ren r v) (jC r s.o) (jK r s.ns):=by refine jE h ?_;clear h;intro c ec h;refine jE h ?_;clear h;intro ob eo h;refine jE h ?_;clear h;intro y ey h;refine jE h ?_;clear h;intro v rfl h;rw [zDT ey] at eo;exact ⟨c,v,JJ ec,j7 (x:=.cell (some v)) eo,zB (R:=RV) ok ((ok.get eo).1 v rfl) h⟩
theorem VI {x:Str}{pos:Pos}{K:V->SS->Tree}(a:At E fr W A env r s) (h:(zJm E fr x s K).holds):Ev W A env (.Name x pos) (jC r s.o) (jK r s.ns) (Lift RV r K):=by
 refine j1 h ?_;clear h;intro hd h;rw [Bool.not_eq_true'] at hd;refine jE h ?_;clear h;intro k hx h;have he:=a.he.h;induction k with
 | «local» =>
  refine jE h ?_;clear h;intro zz0 en h;obtain ⟨⟨L,ll⟩,nn⟩:=zz0;refine j1 h ?_;clear h;intro hL h;refine jE h ?_;clear h;intro v ev h;cases Nat.eq_of_beq_eq_true hL
  have en:=zA en;have hv:v.wf s.n:=(a.ok.ns (fr.L,ll) (by rw [en];exact .head _)).2 (x,v) (JE ev);have en':jK r s.ns=(jL r fr.L,yX r ll)::jK r nn:=by rw [en];rfl
  rw [en'];refine jr he hx (GetL.of_look (by rw [J2,ev];rfl)) ?_ hd;rw [<- en'];exact zB (R:=RV) (K:=K) a.ok hv h
 | cell =>obtain ⟨c,v,h1,h2,h3⟩:=VH a.ok h;exact zEq he hx h1 h2 h3 hd
 | free =>refine j1 h ?_;clear h;intro hc h;obtain ⟨c,v,h1,h2,h3⟩:=VH a.ok h;exact zLK he hx h1 h2 h3 hd ((Bool.not_eq_true' _).mp hc)
 | globalImplicit =>
  refine jE h ?_;clear h;intro v ev h;obtain ⟨q1,q2,q3,q4⟩:=E.hgl x v ev;have h':=zB (R:=RV) a.ok (q2 s.n) h;rw [show RV.ren r v=v from q1 r] at h';rcases q4 with ⟨u,e1,e2⟩ | ⟨u,e1,e2,e3,e4⟩
  ·exact zCA he a.G hx e1 e2 h' hd
  ·exact zLV he a.G hx e1 e2 e3 h' e4 hd
 | _=>exact False.elim h
theorem zAv {c:Const}{k:Nat}{pos:Pos}{K:V->SS->Tree}(a:At E fr W A env r s) (h:(zF6 c s K).holds):Ev W A env (.Constant c k pos) (jC r s.o) (jK r s.ns) (Lift RV r K):=by
 induction c with
 | int i=>exact JV (je a.ok h)
 | str i=>exact zDD (zFr a.ok h)
 | none=>exact zLL (Yx a.ok h)
 | bool i=>exact zLM (ju a.ok h)
 | _=>exact False.elim h
theorem zIU {P:Prop} [Decidable P] {t:Tree}(h:(Tree.br (decide P) t .fail).holds):P/\t.holds:=zCI h
theorem zCW {l m:Addr}{K:V->SS->Tree}(ok:s.ok r) (h:(zOJ E l m s K).holds):Bin W A .Add (.ref (jL r l)) (.ref (jL r m)) (jC r s.o) (jK r s.ns) (Lift RV r K):=by
 replace h:=ye ok h;obtain ⟨xs,_,hl,hz,hw,h⟩:=h;replace h:=ye ok h;obtain ⟨ys,_,hm,hz2,hw2,h⟩:=h;have fin:xs.length + ys.length<=900->(s.mkK (.list (xs++ys)) K).holds->Bin W A .Add (.ref (jL r l)) (.ref (jL r m)) (jC r s.o) (jK r s.ns) (Lift RV r K):=λq h=>by refine zEB hl hm (by rw [List.length_map,List.length_map];omega) λa=>?_;rw [<- List.map_append];exact yR (ob:=.list (xs++ys)) ok (λx hx=>(List.mem_append.mp hx).elim (hw x) (hw2 x)) h
 cases e:E.op.contains l||E.op.contains m with
 | true=>rw [e] at h;exact fin (SideP.p h) (SideP.q h)
 | false=>rw [e] at h;exact fin (Nat.le_of_ble_eq_true (Vv h).1) (jT (Vv h).2)
theorem QS {op:Operator}{x y:V}{K:V->SS->Tree}(ok:s.ok r) (h:(zIM E op x y s K).holds):Bin W A op (x.ren r) (y.ren r) (jC r s.o) (jK r s.ns) (Lift RV r K):=by
 unfold zIM at h;induction ex:x.int? using Option.casesOn with
 | none =>
  rw [ex] at h;replace h:=yP h;obtain ⟨l,rfl,h⟩:=h;replace h:=yP h;obtain ⟨m,rfl,h⟩:=h;refine j1 h ?_;clear h;intro q h;induction op with
  | Add=>exact zCW ok h
  | _=>cases q
 | some a =>
  rw [ex] at h;replace h:=YA h;obtain ⟨b,rfl,h⟩:=h;cases jk ex
  clear ex;induction op with
  | Add=>exact zEu rfl (je ok h)
  | Sub=>exact zN9 rfl (je ok h)
  | Mult=>exact zNa (SideP.p h) rfl (je ok (SideP.q h))
  | Mod=>exact zNb (zIU h).1 rfl (je ok (zIU h).2)
  | FloorDiv =>obtain ⟨q,h⟩:=zF3 h;obtain ⟨q1,q2⟩:=jP q;exact zJb (of_decide_eq_true q1) (PyProof.noPylong_small (by have:=of_decide_eq_true q1;have:=of_decide_eq_true q2;omega)) rfl (je ok h)
  | BitAnd=>exact zNc (je ok h)
  | BitOr=>exact zPj (je ok h)
  | BitXor=>exact zNd (je ok h)
  | RShift=>exact zNe (n:=b.toNat) (zIU h).1 rfl (m:=((2 ^ b.toNat:Nat):Int)) (by simp) (je ok (zIU h).2)
  | LShift =>obtain ⟨q,h⟩:=zF3 h;obtain ⟨q1,q⟩:=jP q;obtain ⟨q2,q3⟩:=jP q;exact zNf (n:=b.toNat) (of_decide_eq_true q1) (of_decide_eq_true q2) (of_decide_eq_true q3) rfl (c:=a * ((2 ^ b.toNat:Nat):Int)) (by simp) (je ok h)
  | Pow =>obtain ⟨q,h⟩:=zF3 h;obtain ⟨q1,q⟩:=jP q;obtain ⟨q2,q⟩:=jP q;obtain ⟨q3,q4⟩:=jP q;have h1:=of_decide_eq_true q1;have h2:=of_decide_eq_true q2;refine zNg (n:=b.toNat) (of_decide_eq_true q3) (of_decide_eq_true q4) (by omega) rfl (c:=((a.toNat ^ b.toNat:Nat):Int)) ?_ (je ok h);rw [Int.natCast_pow,Int.toNat_of_nonneg h1]
  | _=>exact False.elim h
theorem zIV {kvs:List (Int×V)}{k:Int}:((kvs.map λp=>(p.1,p.2.ren r)).any λp=>decide (p.1=k))=kvs.any λp=>decide (p.1=k):=by rw [List.any_map];rfl
theorem VJ:∀ {xs:List V}{is:List Int},zV xs=some is->zV (xs.map (V.ren r))=some is
 | [],_,h=>h
 | .int i::q,is,h=>by
  unfold zV at h;induction e:zV q using Option.casesOn with
  | none=>rw [e] at h;cases h
  | some js=>rw [e] at h;show (zV (q.map (V.ren r))).map _=_;rw [VJ e];exact h
 | .ref _::_,_,h=>by cases h
 | .str _::_,_,h=>by cases h
 | .bool _::_,_,h=>by cases h
 | .none::_,_,h=>by cases h
 | .bi _::_,_,h=>by cases h
 | .ty _::_,_,h=>by cases h
theorem z6:∀ {xs:List V}{is:List Int},zV xs=some is->xs=is.map V.int
 | [],_,h=>by obtain rfl:=Option.some.inj h;rfl
 | .int i::q,is,h=>by
  unfold zV at h;induction e:zV q using Option.casesOn with
  | none=>rw [e] at h;cases h
  | some js=>rw [e] at h;obtain rfl:=Option.some.inj h;exact congrArg _ (z6 e)
 | .ref _::_,_,h=>by cases h
 | .str _::_,_,h=>by cases h
 | .bool _::_,_,h=>by cases h
 | .none::_,_,h=>by cases h
 | .bi _::_,_,h=>by cases h
 | .ty _::_,_,h=>by cases h
theorem j2 {is:List Int}:(is.map V.int).map (V.ren r)=is.map V.int:=by rw [List.map_map];rfl
theorem zET {k:Int}{d:Addr}{K:V->SS->Tree}(ok:s.ok r) (h:(zOK k d s K).holds):Cmp W A .In (.int k) (.ref (jL r d)) (jC r s.o) (jK r s.ns) (Lift RV r K):=by
 refine jE h ?_;clear h;intro ob e h;induction ob with
 | idict kvs=>exact zNv (j7 e) (by rw [zIV];exact ju ok h)
 | tup xs =>refine jE h ?_;clear h;intro is ei h;exact zNw (j7 e) (VJ ei) (ju ok h)
 | _=>exact False.elim h
theorem Yy {f:V->Option PyData}{o:jA}(hf:∀ x d,f x=some d->Rd o (x.ren r) d):∀ {xs:List V}{ds:List PyData},rds f xs=some ds->RdL o (xs.map (V.ren r)) ds
 | [],_,h=>by obtain rfl:=Option.some.inj h;exact .nil
 | x::xs,ds,h=>by
  unfold rds at h;induction e:f x using Option.casesOn with
  | none=>rw [e] at h;cases h
  | some d =>
   induction e2:rds f xs using Option.casesOn with
   | none=>rw [e,e2] at h;cases h
   | some ds'=>rw [e,e2] at h;obtain rfl:=Option.some.inj h;exact .cons (hf _ _ e) (Yy hf e2)
theorem y8 {o:jA}:∀ (n:Nat) (x:V) (d:PyData),rdS n o x=some d->Rd (jC r o) (x.ren r) d
 | 0,_,_,h=>by cases h
 | n + 1,x,d,h=>by
  induction x with
  | none=>obtain rfl:=Option.some.inj h;exact .none
  | bool _=>obtain rfl:=Option.some.inj h;exact .bool _
  | int _=>obtain rfl:=Option.some.inj h;exact .int _
  | ref l =>
   replace h:(zd l o).elim none (rdO (rdS n o))=some d:=h;induction e:zd l o using Option.casesOn with
   | none=>rw [e] at h;cases h
   | some ob =>
    rw [e] at h;induction ob with
    | list xs =>
     replace h:(rds (rdS n o) xs).elim none (λds=>some (.list ds))=some d:=h;induction e2:rds (rdS n o) xs using Option.casesOn with
     | none=>rw [e2] at h;cases h
     | some ds=>rw [e2] at h;obtain rfl:=Option.some.inj h;exact .list (j7 e) (Yy (y8 n) e2)
    | tup xs =>
     replace h:(rds (rdS n o) xs).elim none (λds=>some (.tuple ds))=some d:=h;induction e2:rds (rdS n o) xs using Option.casesOn with
     | none=>rw [e2] at h;cases h
     | some ds=>rw [e2] at h;obtain rfl:=Option.some.inj h;exact .tup (j7 e) (Yy (y8 n) e2)
    | _=>cases h
  | _=>cases h
theorem zCX {op:CmpOp}{x y:V}{K:V->SS->Tree}(R:Ar A E.k) (h:(zLn E op x y s K).holds) (ok:s.ok r):Cmp W A op (x.ren r) (y.ren r) (jC r s.o) (jK r s.ns) (Lift RV r K):=by
 refine jE h ?_;clear h;intro dx e1 h;refine jE h ?_;clear h;intro dy e2 h;refine j1 h ?_;clear h;intro q h;obtain ⟨q,q4⟩:=jP q;obtain ⟨q,q3⟩:=jP q;obtain ⟨q1,q2⟩:=jP q;have q4:0 < E.k:=Nat.blt_eq.mp q4;refine jE h ?_;clear h;intro b eb h;induction op with
 | Eq=>obtain rfl:=Option.some.inj eb;exact zFH R (y8 _ _ _ e1) (y8 _ _ _ e2) (ju ok h) q1 q2 (Nat.le_of_ble_eq_true q3) q4
 | NotEq=>obtain rfl:=Option.some.inj eb;exact zNu R (y8 _ _ _ e1) (y8 _ _ _ e2) (ju ok h) q1 q2 (Nat.le_of_ble_eq_true q3) q4
 | _=>cases eb
theorem RdL.ints {o:jA}:∀ is:List Int,RdL o (is.map V.int) (is.map PyData.int)
 | []=>.nil
 | i::is=>.cons (.int i) (RdL.ints is)
theorem zIW {l e:Addr}{o:jA}{n:jB}{is:List Int}{k:Nat}{Q:V->jA->jB->Prop}(R:Ar A k) (hl:Has l (.list (is.map V.int)) o) (he:Has e (.list []) o) (h:Q (.bool is.isEmpty) o n) (hk:1<=k):Cmp W A .Eq (.ref l) (.ref e) o n Q:=by
 have q:PyData.eqv (.list (is.map PyData.int)) (.list [])=is.isEmpty:=by induction is<;>rfl
 refine zFH R (.list hl (RdL.ints is)) (.list he .nil) (by rw [q];exact h) (by simp only [PyData.canLay0,PyProof.Rows.canLayAll_ints]) rfl ?_ hk;simp only [PyData.depth,PyProof.Rows.depthAll_ints];decide
theorem zAw {x y:V}{K:V->SS->Tree}(R:Ar A E.k) (ok:s.ok r) (h:(zF8 E x y s K).holds):Cmp W A .Eq (x.ren r) (y.ren r) (jC r s.o) (jK r s.ns) (Lift RV r K):=by
 replace h:=yP h;obtain ⟨l,rfl,h⟩:=h;refine jE h ?_;clear h;intro ob e1 h;replace h:=Zz h;obtain ⟨xs,rfl,h⟩:=h;replace h:=yP h;obtain ⟨m,rfl,h⟩:=h;refine jE h ?_;clear h;intro ob e2 h;replace h:=Zz h;obtain ⟨ys,rfl,h⟩:=h;refine j1 h ?_;clear h;intro q h;obtain ⟨q1,q2⟩:=jP q;obtain ⟨is,rfl⟩:=SideP.p h;cases List.isEmpty_iff.mp q1
 have g1:=j7 (r:=r) e1;rw [show Ob.ren r (.list (is.map V.int)) = .list (is.map V.int) from congrArg Ob.list j2] at g1;refine zIW R g1 (j7 e2) ?_ (Nat.blt_eq.mp q2);have:=ju ok (SideP.q h);rwa [List.isEmpty_map] at this
theorem zm {op:CmpOp}{x y:V}{K:V->SS->Tree}(R:Ar A E.k) (ok:s.ok r) (h:(zLq E op x y s K).holds):Cmp W A op (x.ren r) (y.ren r) (jC r s.o) (jK r s.ns) (Lift RV r K):=by
 unfold zLq at h;induction e:zLp x y using Option.casesOn with
 | none =>
  rw [e] at h;replace h:(cond (zLo E x) (gd (zIN op) (zF8 E x y s K)) (zLn E op x y s K)).holds:=h;induction e2:zLo E x using Bool.casesOn with
  | true =>
   rw [e2] at h;refine j1 h ?_;clear h;intro q h;induction op with
   | Eq=>exact zAw R ok h
   | _=>cases q
  | false=>rw [e2] at h;exact zCX R h ok
 | some p =>
  rw [e] at h;refine jE h ?_;clear h;intro c ec h;obtain ⟨a,b⟩:=p;have e':x = .int a/\y = .int b:=by
   unfold zLp at e;induction ex:x.int? using Option.casesOn with
   | none=>rw [ex] at e;cases e
   | some a' =>
    induction ey:y.int? using Option.casesOn with
    | none=>rw [ex,ey] at e;cases e
    | some b'=>rw [ex,ey] at e;cases e;exact ⟨jk ex,jk ey⟩
  obtain ⟨rfl,rfl⟩:=e';clear e;induction op with
  | Eq=>obtain rfl:=Option.some.inj ec;exact zNh rfl (ju ok h)
  | NotEq=>obtain rfl:=Option.some.inj ec;exact zPk rfl (ju ok h)
  | Lt=>obtain rfl:=Option.some.inj ec;exact zPl rfl (ju ok h)
  | Gt=>obtain rfl:=Option.some.inj ec;exact zPm rfl (ju ok h)
  | LtE=>obtain rfl:=Option.some.inj ec;exact zPn rfl (ju ok h)
  | GtE=>obtain rfl:=Option.some.inj ec;exact zPo rfl (ju ok h)
  | _=>cases ec
theorem zEU {op:CmpOp}{x y:V}{K:V->SS->Tree}(G:Gr W E.K E.mg E.mb) (R:Ar A E.k) (ok:s.ok r) (h:(zOL E op x y s K).holds):Cmp W A op (x.ren r) (y.ren r) (jC r s.o) (jK r s.ns) (Lift RV r K):=by
 induction op with
 | In =>replace h:=YA h;obtain ⟨k,rfl,h⟩:=h;replace h:=yP h;obtain ⟨d,rfl,h⟩:=h;exact zET ok h
 | NotIn =>replace h:=YA h;obtain ⟨k,rfl,h⟩:=h;replace h:=yP h;obtain ⟨d,rfl,h⟩:=h;refine jE h ?_;clear h;intro ks hk h;refine j1 h ?_;clear h;intro hc h;obtain ⟨hd,es,ep,e1,e2,e3,e4⟩:=E.hbd _ _ hk;rw [V.ren_ref,zDR hd];exact zLc G e1 e2 e3 (by rw [e4];exact hc) (ju ok h)
 | Is =>
  refine j1 h ?_;clear h;intro q h;refine jE h ?_;clear h;intro b eb h;induction y<;>cases q
  induction x<;>cases eb<;>exact zFG rfl (ju ok h)
 | Eq=>exact zm R ok h
 | NotEq=>exact zm R ok h
 | Lt=>exact zm R ok h
 | Gt=>exact zm R ok h
 | LtE=>exact zm R ok h
 | GtE=>exact zm R ok h
 | IsNot=>exact zm R ok h
theorem Jp {x:V}{K:Bool->SS->Tree}(ok:s.ok r) (h:(Qu x s K).holds):Tru W A (x.ren r) (jC r s.o) (jK r s.ns) (Lift RB r K):=by
 refine jE h ?_;clear h;intro b e h;induction x<;>cases e
 ·exact zEv (J8 ok h)
 ·exact Zo (J8 ok h)
 ·exact zJc rfl (J8 ok h)
end
section
variable {K:Frag} {mg mb:Str->Option Value} {W:Wd} {A:Around} {env:Env} {o o1:jA} {n:jB} {p:Addr×Ob}
theorem Tr.frame {α:Type}{t:Sem α}{Q:α->jA->jB->Prop}(G:Gr W K mg mb) (h:∀ W',Gr W' K mg mb->W'.prog=W.prog->W'.w=W.w->W'.s₀=W.s₀->Tr W' A t o n λx o' n=>Q x (o'++[p]) n):Tr W A t (o++[p]) n Q:=by
 intro hp tk C;have C0:Cx W hp (o++[p]) (n++[]):=by rw [List.append_nil];exact C
 refine Tr.go (W:=Cx.Wd.into W hp (o.map Prod.fst++n.map Prod.fst)) (h _ (G.into C0) rfl rfl rfl) C0.into λv h₁ t₁ o₁ n₁ C₁ q=>?_;have:=C0.back C₁;rw [List.append_nil] at this;exact ⟨h₁,t₁,o₁++[p],n₁,this,q⟩
theorem As.frame {t:Expr}{x:V}{Q:jA->jB->Prop}(G:Gr W K mg mb) (h:∀ W',Gr W' K mg mb->As W' A env t x o n λo' n=>Q (o'++[p]) n):As W A env t x (o++[p]) n Q:=λv hv=>Tr.frame G λW' G' _ _ _=>h W' G' v hv
theorem Es.frame {t:List Stmt}{Q:Fl->jA->jB->Prop}(G:Gr W K mg mb) (h:∀ W',Gr W' K mg mb->Es W' A env t o n λx o' n=>Q x (o'++[p]) n):Es W A env t (o++[p]) n Q:=Tr.frame G λW' G' _ _ _=>Tr.mono (h W' G') λ_ _ _ q=>q.mono λ_ q=>q
theorem Ev.frame {t:Expr}{Q:V->jA->jB->Prop}(G:Gr W K mg mb) (h:∀ W',Gr W' K mg mb->Ev W' A env t o n λx o' n=>Q x (o'++[p]) n):Ev W A env t (o++[p]) n Q:=Tr.frame G λW' G' _ _ _=>Tr.mono (h W' G') λ_ _ _ q=>q.mono λ_ q=>q
theorem Bo.frame {t:Expr}{Q:Bool->jA->jB->Prop}(G:Gr W K mg mb) (h:∀ W',Gr W' K mg mb->Bo W' A env t o n λx o' n=>Q x (o'++[p]) n):Bo W A env t (o++[p]) n Q:=Tr.frame G λW' G' _ _ _=>h W' G'
theorem Ift.frame {Q:Bool->jA->jB->Prop}(ifs:List Expr) (hl:ifs.length<=1) (G:Gr W K mg mb) (h:∀ W',Gr W' K mg mb->Ift W' A env ifs o n λx o' n=>Q x (o'++[p]) n):Ift W A env ifs (o++[p]) n Q:=by
 match ifs,hl,h with
 | [],_,h=>exact h W G
 | [_],_,h=>exact Bo.frame G λW' G'=>h W' G'
 | _::_::_,hl,_=>exact absurd hl (by simp)
theorem Ev.post {e:Expr}{Q:V->jA->jB->Prop}(h:Ev W A env e o n λx o n=>∃ o',o.Perm o'/\Q x o' n):Ev W A env e o n Q:=λhp tk C =>
 Tv.go h C λ_ x h' tk' o n i C' q=>q.elim λo' q=>⟨h',tk',o',n,C'.perm q.1,x,i,q.2⟩
inductive zFt (p:Addr×Ob) (P:jA->Prop):jA->Prop
 | mk (o:jA) (q:P o):zFt p P (o++[p])
noncomputable def TurnsF (K:Frag) (mg mb:Str->Option Value) (A:Around) (env:Env) (target:Expr) (body:List Stmt) (Q:Fl->jA->jB->Prop):List V->jA->jB->Prop
 | [],o,n=>Q .next o n
 | x::r,o,n=>∀ W',Gr W' K mg mb->As W' A env target x o n λo n=>∀ W',Gr W' K mg mb->Es W' A env body o n λf o n=>match f with
  | .next=>TurnsF K mg mb A env target body Q r o n
  | .ret v=>Q (.ret v) o n
variable {target:Expr} {body:List Stmt}
theorem ForQ.listH {l:Addr}{xs:List V}{Q:Fl->jA->jB->Prop}(hh:A.handled=none) (h:TurnsF K mg mb A env target body (λf o n=>Q f (o++[(l,.list xs)]) n) xs o n) :
  ForQ W K mg mb A env target body (.ref l) (o++[(l,.list xs)]) n Q:=by
 have hasE:∀ {o:jA},Has l (.list xs) (o++[(l,.list xs)]):=λ{o}=>.of_mem (by simp);refine ForQ.listInv (λi o n=>zFt (l,.list xs) (λo1=>TurnsF K mg mb A env target body (λf o n=>Q f (o++[(l,.list xs)]) n) (xs.drop i) o1 n) o) hh hasE ⟨o,by simpa using h⟩ ?_ ?_
 ·rintro W' i _ n x G hx ⟨o1,h⟩;refine ⟨hasE,?_⟩;have hi:i < xs.length:=(List.getElem?_eq_some_iff.mp hx).1;rw [List.drop_eq_getElem_cons hi] at h;rw [List.getElem?_eq_getElem hi] at hx;obtain rfl:=Option.some.inj hx;refine As.frame G λW2 G2 v hv=>Tr.mono (h W2 G2 v hv) λ_ o2 n2 q=>Es.frame G λW3 G3=>Tr.mono (q W3 G3) λ_ o n q=>q.mono λy q=>?_;induction y with
  | next=>exact ⟨_,Sel.refl _,_,q⟩
  | ret z=>exact q
 ·rintro _ n ⟨o1,h⟩;rw [List.drop_length] at h;exact ⟨hasE,h⟩
theorem ForQ.rangeF {l:Addr}{cnt:Nat}{Q:Fl->jA->jB->Prop}(hh:A.handled=none) (hl:Has l (zU cnt) o) (hc:cnt<=1000) (h:TurnsF K mg mb A env target body Q (jt cnt) o n):ForQ W K mg mb A env target body (.ref l) o n Q:=by
 refine ForQ.range (λi o n=>TurnsF K mg mb A env target body Q ((jt cnt).drop i) o n) hh hl hc (by simpa using h) (λW' i o n G hi hI=>?_) (λo n hI=>?_)
 ·rw [List.drop_eq_getElem_cons (by simpa [jt] using hi)] at hI;have e:(jt cnt)[i]'(by simpa [jt] using hi)=V.int (i:Nat):=by simp [jt]
  rw [e] at hI;exact λv hv=>Tr.mono (hI W' G v hv) λ_ o n q=>Tr.mono (q W' G) λ_ o n q=>q.mono λy q=>by
   induction y with
   | next=>exact ⟨_,Sel.refl _,q⟩
   | ret z=>exact q
 ·rw [List.drop_eq_nil_of_le (by simp [jt])] at hI;exact hI
inductive PopF (C:Addr) (P:jB->Prop):jB->Prop
 | mk (ll:jX) (n':jB) (q:P n'):PopF C P ((C,ll)::n')
theorem PopF.mono {C:Addr}{P P':jB->Prop}{n:jB}(h:PopF C P n) (k:∀ n,P n->P' n):PopF C P' n:=h.casesOn λll n' q=>⟨ll,n',k n' q⟩
noncomputable def CTurnsF (K:Frag) (mg mb:Str->Option Value) (A:Around) (cn:List (Str×NameKind)) (cs:List (Str×Addr)) (elt target:Expr) (ifs:List Expr) (Q:List V->jA->jB->Prop):List V->List V->jA->jB->Prop
 | [],ys,o,n=>Q ys.reverse o n
 | x::r,ys,o,n=>∀ W',Gr W' K mg mb->∀ cenv C,EnvAt cenv cn C cs->As W' A cenv target x o ((C,[])::n) λo n=>∀ W',Gr W' K mg mb->Ift W' A cenv ifs o n λb o n =>
   Br b (∀ W',Gr W' K mg mb->Ev W' A cenv elt o n λy o n=>PopF C (CTurnsF K mg mb A cn cs elt target ifs Q r (y::ys) o) n) (PopF C (CTurnsF K mg mb A cn cs elt target ifs Q r ys o) n)
theorem LayQ.snoc {Q:List (Str×Addr)->jA->Prop}:∀ {names:List (Str×NameKind)}{cs:List (Str×Addr)}{o:jA},LayQ names cs o (λcs o=>Q cs (o++[p]))->LayQ names cs (o++[p]) Q
 | [],_,_,h=>h
 | (x,k)::r,_,_,h=>by
  unfold LayQ at h ⊢;split
  ·rename_i e;rw [if_pos e] at h;exact λa=>LayQ.snoc (h a)
  ·rename_i e;rw [if_neg e] at h;exact LayQ.snoc h
variable {cn names:List (Str×NameKind)} {cl cs:List (Str×Addr)} {elt:Expr} {ifs:List Expr} {Q:List V->jA->jB->Prop}
theorem Br.imp {b:Bool}{X Y X' Y':Prop}(h:Br b X Y) (f:X->X') (g:Y->Y'):Br b X' Y':=⟨λe=>f (h.1 e),λe=>g (h.2 e)⟩
theorem Ift.mono {Q Q':Bool->jA->jB->Prop}(k:∀ b o n,Q b o n->Q' b o n) (ifs:List Expr) (h:Ift W A env ifs o n Q):Ift W A env ifs o n Q':=by
 match ifs,h with
 | [],h=>exact k _ _ _ h
 | [_],h=>exact Tr.mono h k
 | _::_::_,h=>exact False.elim h
theorem zAx {ys:List V}{y:V}:(ys++[y]).reverse=y::ys.reverse:=by simp
theorem CompQ.listH {l:Addr}{xs:List V}(hh:A.handled=none) (hz:xs.length<=1000) (hi:ifs.length<=1)
  (h:LayQ cn cl o λcs o=>CTurnsF K mg mb A (y4 cn names) cs elt target ifs (λys o n=>Q ys (o++[(l,.list xs)]) n) xs [] o n):CompQ W K mg mb A cn names cl elt target ifs (.ref l) (o++[(l,.list xs)]) n Q:=by
 have hasE:∀ {o:jA},Has l (.list xs) (o++[(l,.list xs)]):=λ{o}=>.of_mem (by simp);refine ⟨_,_,_,_,ItOf.list hh hasE,hz,LayQ.snoc (LayQ.mono (λcs o h=>⟨λi ys o n=>zFt (l,.list xs) (λo1=>CTurnsF K mg mb A (y4 cn names) cs elt target ifs (λys o n=>Q ys (o++[(l,.list xs)]) n) (xs.drop i) ys.reverse o1 n) o,⟨_,by simpa using h⟩,?_,?_⟩) h)⟩
 ·rintro W' i ys _ n G hi' ⟨o1,hI⟩;rw [List.drop_eq_getElem_cons hi'] at hI;refine ⟨hasE,?_⟩;rintro o' x ⟨rfl,hx⟩ cenv C he;rw [List.getElem?_eq_getElem hi'] at hx;obtain rfl:=Option.some.inj hx;refine As.frame G λW2 G2 v hv=>Tr.mono (hI W2 G2 cenv C he v hv) λ_ o2 n2 q=>Ift.frame ifs hi G λW3 G3=>Ift.mono (λb o n q=>?_) ifs (q W3 G3);refine Br.imp q (λq=>Ev.frame G λW4 G4=>Ev.mono (q W4 G4) ?_) ?_
  ·rintro y o _ ⟨ll,n',q3⟩;exact ⟨ll,n',_,Sel.refl _,_,by show CTurnsF K mg mb A (y4 cn names) cs elt target ifs _ _ (ys++[y]).reverse _ _;rw [zAx];exact q3⟩
  ·rintro ⟨ll,n',q3⟩;exact ⟨ll,n',_,Sel.refl _,_,q3⟩
 ·rintro ys _ n ⟨o1,hI⟩;rw [List.drop_length] at hI;have hI:Q ys.reverse.reverse (o1++[(l,.list xs)]) n:=hI;rw [List.reverse_reverse] at hI;exact ⟨hasE,hI⟩
theorem CompQ.rangeF {l:Addr}{cnt:Nat}(hh:A.handled=none) (hl:Has l (zU cnt) o) (hz:cnt<=1000)
  (h:LayQ cn cl o λcs o=>CTurnsF K mg mb A (y4 cn names) cs elt target ifs Q (jt cnt) [] o n):CompQ W K mg mb A cn names cl elt target ifs (.ref l) o n Q:=by
 refine ⟨_,_,_,_,ItOf.range hh hl hz,hz,LayQ.mono (λcs o h=>⟨λi ys o n=>CTurnsF K mg mb A (y4 cn names) cs elt target ifs Q ((jt cnt).drop i) ys.reverse o n,by simpa using h,?_,?_⟩) h⟩
 ·rintro W' i ys o n G hi' hI;rw [List.drop_eq_getElem_cons (by simpa [jt] using hi')] at hI;have e:(jt cnt)[i]'(by simpa [jt] using hi')=V.int (i:Nat):=by simp [jt]
  rw [e] at hI;refine ⟨trivial,?_⟩;rintro o' x ⟨rfl,rfl⟩ cenv C he;refine λv hv=>Tr.mono (hI W' G cenv C he v hv) λ_ o2 n2 q=>Ift.mono (λb o n q=>?_) ifs (q W' G);refine Br.imp q (λq=>Ev.mono (q W' G) ?_) ?_
  ·rintro y o _ ⟨ll,n',q3⟩;exact ⟨ll,n',_,Sel.refl _,by show CTurnsF K mg mb A (y4 cn names) cs elt target ifs _ _ (ys++[y]).reverse _ _;rw [zAx];exact q3⟩
  ·rintro ⟨ll,n',q3⟩;exact ⟨ll,n',_,Sel.refl _,q3⟩
 ·rintro ys o n hI;rw [List.drop_eq_nil_of_le (by simp [jt])] at hI;have hI:Q ys.reverse.reverse o n:=hI;rw [List.reverse_reverse] at hI;exact ⟨trivial,hI⟩
noncomputable def TurnsZF (K:Frag) (mg mb:Str->Option Value) (A:Around) (env:Env) (target:Expr) (body:List Stmt) (Q:Fl->jA->jB->Prop):List (V×V)->jA->jB->Prop
 | [],o,n=>Q .next o n
 | x::r,o,n=>∀ T,∀ W',Gr W' K mg mb->As W' A env target (.ref T) ((T,.tup [x.1,x.2])::o) n λo n=>∀ W',Gr W' K mg mb->Es W' A env body o n λf o n=>match f with
  | .next=>TurnsZF K mg mb A env target body Q r o n
  | .ret v=>Q (.ret v) o n
theorem TurnsZF.turns {p1 p2:Addr×Ob}{need:jA->Prop}(hn:∀ o,need (o++[p1]++[p2])) {Q:Fl->jA->jB->Prop}:∀ {zs:List (V×V)}{o:jA}{n:jB},
  TurnsZF K mg mb A env target body (λf o n=>Q f (o++[p1]++[p2]) n) zs o n->Qm K mg mb A env target body need Q zs (o++[p1]++[p2]) n
 | [],o,n,h=>⟨hn o,h⟩
 | x::r,o,n,h=>⟨hn o,λW' T G=>As.frame (o:=(T,.tup [x.1,x.2])::o++[p1]) G λW2 G2=>As.frame (o:=(T,.tup [x.1,x.2])::o) G2 λW3 G3 v hv=>Tr.mono (h T W3 G3 v hv) λ_ o n q=>Es.frame (o:=o++[p1]) G λW4 G4=>Es.frame G4 λW5 G5=>Tr.mono (q W5 G5) λ_ o n q=>q.mono λy q=>by
  induction y with
  | next=>exact ⟨_,Sel.refl _,TurnsZF.turns hn q⟩
  | ret z=>exact q⟩
end
section
variable {E:Est} {fr:Fr} {W W':Wd} {A:Around} {env:Env} {r t:List Addr} {s s1:SS} {o:jA} {n:jB}
theorem J9 {i:Expr}(h:Y4 i=false):∀ o j,subscripted i false o j=operate [o,j] (getItem o j):=by intro o j;cases i<;>first | rfl | contradiction
theorem Qz {xs:List V}{j:Nat}{y:V}(h:xs[j]?=some y):(xs.map (V.ren r))[j]?=some (y.ren r):=by rw [List.getElem?_map,h];rfl
theorem GetK.of_look {α:Type} [BEq α] [LawfulBEq α] {k:α}{y:V}:∀ {l:List (α×V)},l.lookup k=some y->GetK k (y.ren r) (l.map λp=>(p.1,p.2.ren r))
 | (x,u)::q,h=>by
  rw [List.lookup_cons] at h;induction e:k==x using Bool.casesOn with
  | true=>rw [e] at h;obtain rfl:=Option.some.inj h;rw [eq_of_beq e];exact .head
  | false=>rw [e] at h;exact .tail (λq=>by have q:x=k:=q;rw [q] at e;simp at e) (GetK.of_look h)
theorem Yz {α:Type} [BEq α] [LawfulBEq α] {k:α}{y:V}:∀ {l:List (α×V)},SetK k (y.ren r) (l.map λp=>(p.1,p.2.ren r)) ((YB k y l).map λp=>(p.1,p.2.ren r))
 | []=>.nil
 | (x,u)::q=>by
  show SetK k (y.ren r) _ (List.map _ (cond (x==k) ((k,y)::q) ((x,u)::YB k y q)));induction e:x==k using Bool.casesOn with
  | true=>rw [eq_of_beq e];exact .head
  | false=>exact .tail (λq=>by have q:x=k:=q;rw [q] at e;simp at e) Yz
theorem QT {α:Type} [BEq α] [LawfulBEq α] {k:α}{y:V}:∀ {l:List (α×V)},∀ p ∈ YB k y l,p.2=y\/p ∈ l
 | [],p,h=>by cases h with | head=>exact .inl rfl | tail _ h=>contradiction
 | (x,u)::q,p,h=>by
  replace h:p ∈ cond (x==k) ((k,y)::q) ((x,u)::YB k y q):=h;induction e:x==k using Bool.casesOn with
  | true =>rw [e] at h;exact (List.mem_cons.mp h).elim (λh=>.inl (by rw [h])) λh=>.inr (.tail _ h)
  | false =>rw [e] at h;exact (List.mem_cons.mp h).elim (λh=>.inr (by rw [h];exact .head _)) λh=>(QT p h).imp id (.tail _)
theorem zFu {α:Type} [BEq α] [LawfulBEq α] {k:α}{y:V}:∀ {l:List (α×V)},l.lookup k=some y->(k,y) ∈ l
 | (x,u)::q,h=>by
  rw [List.lookup_cons] at h;induction e:k==x using Bool.casesOn with
  | true=>rw [e] at h;obtain rfl:=Option.some.inj h;rw [eq_of_beq e];exact .head _
  | false=>rw [e] at h;exact .tail _ (zFu h)
theorem zAy {a:Addr}{x y z:Ob}:∀ {o o':jA},zd a o=some x->Vw a z o=some (y,o')->y=x
 | (b,ob)::q,o',h,k=>by
  unfold zd at h;unfold Vw at k;induction e:Nat.beq a b using Bool.casesOn with
  | true=>rw [e] at h k;obtain rfl:=Option.some.inj h;cases k;rfl
  | false =>
   rw [e] at h k;induction e2:Vw a z q using Option.casesOn with
   | none=>rw [e2] at k;contradiction
   | some z=>rw [e2] at k;cases k;exact zAy h e2
theorem yK {K:Unit->SS->Tree}{a:Addr}{x y:Ob}(ok:s.ok r) (g:zd a s.o=some x) (hy:y.wf s.n) (h:(YC a y s K).holds) :
  ∃ o',Put (jL r a) (x.ren r) (y.ren r) (jC r s.o) o'/\Lift RU r K () o' (jK r s.ns):=by
 refine jE h ?_;clear h;intro zz0 e h;obtain ⟨z,o'⟩:=zz0;obtain rfl:=zAy g e;exact ⟨_,(Y2 e).1,Lift.mk (R:=RU) (s:=⟨o',s.ns,s.n⟩) (ok.put e hy) trivial h⟩
theorem zFv {xs:List V}{is:List Int}{j:Nat}(h:zV xs=some is) (hj:j < is.length):xs[j]?=some (.int (jw (j:Int) is)):=by obtain rfl:=z6 h;unfold jw;rw [List.getElem?_map,Int.toNat_natCast,List.getD_eq_getElem?_getD,List.getElem?_eq_getElem hj];rfl
theorem zD3 {k:Int}{xs:List V}{K:V->SS->Tree}(h:(zF9 k xs s K).holds):∃ (j:Nat) (y:V),j < xs.length/\xs.length<=900/\k=(j:Int)/\xs[j]?=some y/\(K y s).holds:=by
 refine j1 h ?_;clear h;intro q h;have q1:=Nat.le_of_ble_eq_true q;induction e:zV xs using Option.casesOn with
 | none =>rw [e] at h;obtain ⟨j,hj,ek,h2⟩:=YK h;obtain ⟨y,ey,h2⟩:=Zy h2;exact ⟨j,y,by omega,q1,ek,ey,h2⟩
 | some is =>
  rw [e] at h;replace h:=zCI h;obtain ⟨⟨h0,h1⟩,h⟩:=h;obtain ⟨j,rfl⟩:=Int.eq_ofNat_of_zero_le h0;have hl:xs.length=is.length:=by rw [z6 e,List.length_map]
  have h1:j < is.length:=by omega
  exact ⟨j,_,by omega,q1,rfl,zFv e h1,h⟩
theorem zCY {v i:Expr}{x j:V}{K:V->SS->Tree}(ok:s.ok r) (hi:Y4 i=false) (h:(zFa E x j s K).holds):Sub W A v i (x.ren r) (j.ren r) (jC r s.o) (jK r s.ns) (Lift RV r K):=by
 replace h:=yP h;obtain ⟨l,rfl,h⟩:=h;refine jE h ?_;clear h;intro ob e h;induction ob with
 | list xs =>
  replace h:=YA h;obtain ⟨k,rfl,h⟩:=h;induction eo:E.op.contains l using Bool.casesOn with
  | true =>
   rw [eo] at h;obtain ⟨is,rfl,hz,h0,h1⟩:=SideP.p h;obtain ⟨j,rfl⟩:=Int.eq_ofNat_of_zero_le h0;have h1:j < is.length:=by omega
   have g:(is.map V.int)[j]?=some (.int is[j]):=by rw [List.getElem?_map,List.getElem?_eq_getElem h1];rfl
   have ei:yo (is.map V.int) (j:Int)=is[j]:=by unfold yo;rw [Int.toNat_natCast,g];rfl
   rw [List.length_map] at hz;have h2:=SideP.q h;rw [ei] at h2;exact zEy (j7 e) (Int.natCast_nonneg _) (by show ((j:Nat):Int) < 2 ^ 63;omega) (Qz g) (je ok h2) (J9 hi)
  | false =>rw [eo] at h;replace h:=zD3 h;obtain ⟨j,y,hj,hz,rfl,ey,h⟩:=h;exact zEy (j7 e) (Int.natCast_nonneg _) (by show ((j:Nat):Int) < 2 ^ 63;omega) (Qz ey) (zB (R:=RV) ok ((ok.get e).1 _ (List.mem_of_getElem? ey)) h) (J9 hi)
 | tup xs =>
  replace h:=YA h;obtain ⟨k,rfl,h⟩:=h;replace h:=zD3 h;obtain ⟨j,y,hj,hz,rfl,ey,h⟩:=h;have hl:j < (xs.map (V.ren r)).length:=by rw [List.length_map];exact hj
  exact zNi (j7 e) (by show -(2 ^ 63)<=((j:Nat):Int);omega) (by show ((j:Nat):Int) < 2 ^ 63;omega) (j:=j) (by unfold seqIndex?;rw [List.length_map] at hl ⊢;simp;omega) (Qz ey) (zB (R:=RV) ok ((ok.get e).1 _ (List.mem_of_getElem? ey)) h) (J9 hi)
 | sdict kvs =>replace h:=zJi h;obtain ⟨k,rfl,h⟩:=h;refine jE h ?_;clear h;intro y ey h;exact zDG (j7 e) (GetK.of_look ey) (zB (R:=RV) ok ((ok.get e).1 _ (zFu ey)) h) (J9 hi)
 | idict kvs =>replace h:=YA h;obtain ⟨k,rfl,h⟩:=h;refine jE h ?_;clear h;intro y ey h;exact zHs (j7 e) (GetK.of_look ey) (zB (R:=RV) ok ((ok.get e).1 _ (zFu ey)) h) (J9 hi)
 | _=>exact False.elim h
theorem zAz {α:Type} [BEq α] [LawfulBEq α] {k:α}{y:V}{l:List (α×V)}{n:Nat}(hy:y.wf n) (h:∀ p ∈ l,p.2.wf n):∀ p ∈ YB k y l,p.2.wf n:=λp hp=>(QT p hp).elim (λe=>by rw [e];exact hy) (h p)
theorem zBA (v:Int) (m:Nat):∀ (is:List Int) (j:Nat),zCL ((j + m:Nat):Int) v j is=is.set m v
 | [],_=>rfl
 | x::is,j=>by
  induction m using Nat.casesOn with
  | zero =>
   have no:∀ (is:List Int) (i:Nat),j < i->zCL (j:Int) v i is=is:=λis=>by
    induction is with
    | nil=>exact λ_ _=>rfl
    | cons y is ih =>intro i hi;rw [zCM];rw [ih (i + 1) (by omega),show ((j:Int)==(i:Int))=false from by rw [beq_eq_false_iff_ne];omega];rfl
   rw [zCM,Nat.add_zero,no is (j + 1) (by omega),show ((j:Int)==(j:Int))=true from beq_self_eq_true _];rfl
  | succ m =>rw [zCM,show ((j + (m + 1):Nat):Int)=((j + 1 + m:Nat):Int) from by omega,zBA v m is (j + 1),show (((j + 1 + m:Nat):Int)==(j:Int))=false from by rw [beq_eq_false_iff_ne];omega];rfl
theorem zEV {v:Int}{m:Nat}{is:List Int}:zCL (m:Int) v 0 is=is.set m v:=by have:=zBA v m is 0;rwa [Nat.zero_add] at this
theorem Vy {x j y:V}{K:Unit->SS->Tree}(ok:s.ok r) (hy:y.wf s.n) (h:(zAg E x j y s K).holds):SetI W A (x.ren r) (j.ren r) (y.ren r) (jC r s.o) (jK r s.ns) (λo n=>Lift RU r K () o n):=by
 replace h:=yP h;obtain ⟨l,rfl,h⟩:=h;refine jE h ?_;clear h;intro ob e h;induction ob with
 | list xs =>
  replace h:=YA h;obtain ⟨k,rfl,h⟩:=h;refine j1 h ?_;clear h;intro q h;have q1:=Nat.le_of_ble_eq_true q;have fin:∀ (j:Nat),j < xs.length->k=(j:Int)->(YC l (.list (xs.set j y)) s K).holds->SetI W A (.ref (jL r l)) (.int k) (y.ren r) (jC r s.o) (jK r s.ns) (λo n=>Lift RU r K () o n):=by
   rintro j hj rfl h2;obtain ⟨o',P,L⟩:=yK (y:=.list (xs.set j y)) ok e (λu hu=>by
    rcases List.mem_or_eq_of_mem_set hu with hu | rfl
    ·exact (ok.get e).1 u hu
    ·exact hy) h2
   refine zLR (xs:=xs.map (V.ren r)) (Int.natCast_nonneg _) (by show ((j:Nat):Int) < 2 ^ 63;omega) (by rw [List.length_map];exact Int.ofNat_lt.mpr hj) ?_ L;have e3:(xs.map (V.ren r)).set j (y.ren r)=(xs.set j y).map (V.ren r):=by rw [List.map_set]
   show Put _ (.list (xs.map (V.ren r))) (.list ((xs.map (V.ren r)).set j (y.ren r))) (jC r s.o) o';rw [e3];exact P
  induction ep:(E.pp.lookup l).isSome using Bool.casesOn with
  | false =>rw [ep] at h;obtain ⟨j,hj,ej,h2⟩:=YK h;exact fin j (by omega) ej (jT h2)
  | true =>
   rw [ep] at h;refine jE h ?_;clear h;intro is ei h;refine jE h ?_;clear h;intro v ev h;replace h:=zCI h;obtain ⟨⟨h0,h1⟩,h⟩:=h;obtain ⟨j,ej⟩:=Int.eq_ofNat_of_zero_le h0;have hl:xs.length=is.length:=by rw [z6 ei,List.length_map]
   refine fin j (by omega) ej ?_;have h2:=jT h;rw [ej,zEV] at h2;rw [z6 ei,jk ev,<- List.map_set];exact h2
 | sdict kvs =>replace h:=zJi h;obtain ⟨k,rfl,h⟩:=h;refine j1 h ?_;clear h;intro q h;obtain ⟨o',P,L⟩:=yK (y:=.sdict (YB k y kvs)) ok e (zAz hy (ok.get e).1) (jT h);exact zHt P Yz L (by rw [List.length_map];exact Nat.le_trans (Nat.le_of_ble_eq_true q) (by decide))
 | idict kvs =>replace h:=YA h;obtain ⟨k,rfl,h⟩:=h;refine j1 h ?_;clear h;intro q h;obtain ⟨o',P,L⟩:=yK (y:=.idict (YB k y kvs)) ok e (zAz hy (ok.get e).1) (jT h);exact zHu P Yz L (by rw [List.length_map];exact Nat.le_trans (Nat.le_of_ble_eq_true q) (by decide))
 | _=>exact False.elim h
theorem zEW {x:V}(h:x.plain=true):(x.ren r).plain=true:=by cases x<;>first | rfl | contradiction
theorem zCZ {y:V}{K:Addr->Addr->List (Str×V)->Tree}(h:(zIP E y s K).holds):∃ b d kvs,y = .ref b/\zd b s.o=some (.inst E.C d)/\zd d s.o=some (.attrs kvs)/\(K b d kvs).holds:=by replace h:=yP h;obtain ⟨b,rfl,h⟩:=h;refine jE h ?_;clear h;intro ob e0 h;refine jE h ?_;clear h;intro p ep h;obtain rfl:=zDS ep;refine j1 h ?_;clear h;intro q h;rw [Nat.eq_of_beq_eq_true q] at e0;refine jE h ?_;clear h;intro ob e1 h;refine jE h ?_;clear h;intro kvs ek h;obtain rfl:=zAe ek;exact ⟨b,p.2,kvs,rfl,e0,e1,h⟩
theorem Vz {y:V}{name:Str}{K:V->SS->Tree}(G:Gr W E.K E.mg E.mb) (ok:s.ok r) (h:(zAh E y name s K).holds):GetA W A (y.ren r) name (jC r s.o) (jK r s.ns) (Lift RV r K):=by refine j1 h ?_;clear h;intro q h;replace h:=zCZ h;obtain ⟨b,d,kvs,rfl,e0,e1,h⟩:=h;refine jE h ?_;clear h;intro v ev h;refine j1 h ?_;clear h;intro hp h;obtain ⟨a1,⟨at_,a2,a3⟩,a4⟩:=E.hat _ q;exact zL2 G (j7 e0) (j7 e1) (GetL.of_look (show (yX r kvs).lookup name=some (v.ren r) by rw [J2,ev];rfl)) a1 E.hcl.1 a2 a3 (zB (R:=RV) ok ((ok.get e1).1 _ (JE ev)) h) (zEW hp)
theorem QA {y v:V}{name:Str}{K:Unit->SS->Tree}(G:Gr W E.K E.mg E.mb) (ok:s.ok r) (hv:v.wf s.n) (h:(zAi E y name v s K).holds):SetA W A (y.ren r) name (v.ren r) (jC r s.o) (jK r s.ns) (λo n=>Lift RU r K () o n):=by refine j1 h ?_;clear h;intro q h;replace h:=zCZ h;obtain ⟨b,d,kvs,rfl,e0,e1,h⟩:=h;refine j1 h ?_;clear h;intro hz h;obtain ⟨a1,a2,a4⟩:=E.hat _ q;obtain ⟨o',P,L⟩:=yK (y:=.attrs (yz name v kvs)) ok e1 (λp hp=>(YJ p hp).elim (λe=>by rw [e];exact hv) ((ok.get e1).1 p)) (jT h);exact zNm G (j7 e0) P (YI (r:=r) (l:=kvs)) E.hcl.2.1 E.hcl.2.2 a4 E.hcl.1 L (by rw [List.length_map];exact Nat.le_of_ble_eq_true hz)
theorem ZP {x:Str}{v:V}{K:Unit->SS->Tree}(he:FrAt fr r env) (ok:s.ok r) (hv:v.wf s.n) (h:(zCK fr x v s K).holds):Stn W A env x (v.ren r) (jC r s.o) (jK r s.ns) (λo n=>Lift RU r K () o n):=by
 refine jE h ?_;clear h;intro k hx h;replace he:=he.h;induction k with
 | «local» =>
  refine jE h ?_;clear h;intro zz0 en h;obtain ⟨⟨L,ll⟩,nn⟩:=zz0;refine j1 h ?_;clear h;intro hL h;obtain rfl:=Nat.eq_of_beq_eq_true hL;have en:=zA en;have en':jK r s.ns=(jL r fr.L,yX r ll)::jK r nn:=by rw [en];rfl
  rw [en'];refine zh he hx (YI (v:=v)) ?_;have hh:=ok.ns;rw [en] at hh;have ok':SS.ok r ⟨s.o,(fr.L,yz x v ll)::nn,s.n⟩:=⟨ok.len,ok.o,List.forall_mem_cons.mpr ⟨⟨(hh _ (.head _)).1,λq hq=>(YJ q hq).elim (λe=>by rw [e];exact hv) ((hh _ (.head _)).2 q)⟩,λp hp=>hh p (.tail _ hp)⟩⟩;exact Lift.mk (R:=RU) (s:=⟨s.o,(fr.L,yz x v ll)::nn,s.n⟩) ok' trivial (jT h)
 | cell =>refine jE h ?_;clear h;intro c ec h;refine jE h ?_;clear h;intro zz0 ep h;obtain ⟨z,o'⟩:=zz0;refine jE h ?_;clear h;intro y ey h;obtain rfl:=zDT ey;refine Zl he hx (JJ ec) (v₀:=y.map (V.ren r)) (Y2 (r:=r) ep).1 ?_;exact Lift.mk (R:=RU) (s:=⟨o',s.ns,s.n⟩) (ok.put ep (λy hy=>by obtain rfl:=Option.some.inj hy;exact hv)) trivial h
 | _=>exact False.elim h
end
section
variable {E:Est} {F:Yv} {C:zAp} {fr:Fr} {W W':Wd} {A:Around} {env:Env} {r t:List Addr} {s s1:SS} {o:jA} {n:jB}
theorem zFw {names:List (Str×NameKind)}{ts vs:List Expr}{x:Option (List Str)}(h:swO names ts vs=some x):swV names ts vs=pure x:=(el zIS h :)
theorem AsL.mono {Q Q':jA->jB->Prop}(k:∀ o n,Q o n->Q' o n):∀ {ns:List Expr}{xs:List V}{o:jA}{n:jB},AsL W A env ns xs o n Q->AsL W A env ns xs o n Q'
 | [],[],_,_,h=>k _ _ h
 | _::_,[],_,_,h=>False.elim h
 | [],_::_,_,_,h=>False.elim h
 | _::_,_::_,_,_,h=>λv hv=>Tr.mono (h v hv) λ_ _ _ q=>AsL.mono k q
theorem YL {K:Unit->SS->Tree}:∀ {ns:List Str}{vs:List V}{s:SS}{r:List Addr},FrAt fr r env->FrWf fr s.n->s.ok r->(∀ v ∈ vs,v.wf s.n)->zAf fr ns vs s K->BindQ W A env ns (vs.map (V.ren r)) (jC r s.o) (jK r s.ns) (λo n=>Lift RU r K () o n)
 | [],[],s,r,_,_,ok,_,h=>Lift.mk (R:=RU) ok trivial h
 | x::xs,v::vs,s,r,he,hf,ok,hv,h=>by refine Stn.lift (ZP he ok (hv v (.head _)) h) λt s1 ok1 h=>?_;rw [<- jf (t:=t) (xs:=vs) (λx hx=>ok.len▸hv x (.tail _ hx))];exact BindQ.mono (λ_ _ q=>q.up) (YL (he.app (ok.len▸hf)) (hf.mono (ok.le ok1)) ok1 (λx hx=>(hv x (.tail _ hx)).mono (ok.le ok1)) h)
 | [],_::_,_,_,_,_,_,_,h=>False.elim h
 | _::_,[],_,_,_,_,_,_,h=>False.elim h
theorem zT {x:Str}{v:V}{pos:Pos}{Q:V->jA->jB->Prop}(a:At E fr W A env r s) (hx:fr.names.lookup x=some .globalImplicit) (hv:E.gl.lookup x=some v) (h:Q v o n):Ev W A env (.Name x pos) o n Q:=by
 have he:=a.he;replace he:=he.h;obtain ⟨q1,q2,hd,q4⟩:=E.hgl x v hv;rcases q4 with ⟨u,e1,e2⟩ | ⟨u,e1,e2,e3,e4⟩
 ·exact zCA he a.G hx e1 e2 h hd
 ·exact zLV he a.G hx e1 e2 e3 h e4 hd
noncomputable def zO2:V->Option Value
 | .ref a=>some (.ref a)
 | .bi n=>some (.builtin n)
 | .ty n=>some (.type n)
 | _=>none
noncomputable def zBB (E:Est) (C:zAp):Prop:=∀ {f xs s K},C f xs s K->∀ W A r,Gr W E.K E.mg E.mb->Ar A E.k->s.ok r->(∀ x ∈ xs,x.wf s.n)->Cl W A (.ref f) (xs.map (V.ren r)) (jC r s.o) (jK r s.ns) (Lift RV r K)
theorem zFx {f:String}{x:V}{K:V->SS->Tree}(R:Ar A E.k) (ok:s.ok r) (h:(biS E f x s K).holds):Cl W A (.builtin f) [x.ren r] (jC r s.o) (jK r s.ns) (Lift RV r K):=by
 unfold biS at h;induction e1:f=="len" using Bool.casesOn with
 | true =>rw [e1] at h;obtain rfl:=eq_of_beq e1;replace h:=yP h;obtain ⟨l,rfl,h⟩:=h;replace h:=ye ok h;obtain ⟨xs,_,hl,hz,hw,h⟩:=h;exact zNo hl (by rw [List.length_map];omega) (by rw [List.length_map];exact je ok h)
 | false =>
  rw [e1] at h;induction e2:f=="abs" using Bool.casesOn with
  | true =>rw [e2] at h;obtain rfl:=eq_of_beq e2;replace h:=YA h;obtain ⟨a,rfl,h⟩:=h;exact zNp (je ok h)
  | false =>rw [e2] at h;refine j1 h ?_;clear h;intro q h;obtain rfl:=eq_of_beq q;replace h:=yP h;obtain ⟨l,rfl,h⟩:=h;replace h:=ye ok h;obtain ⟨xs,_,hl,hz,hw,h⟩:=h;refine jE h ?_;clear h;intro is ei h;exact zNs R.handled hl (VJ ei) (je ok h)
theorem zC0 (CS:zBB E C) {f:V}{xs:List V}{K:V->SS->Tree}(G:Gr W E.K E.mg E.mb) (R:Ar A E.k) (ok:s.ok r) (hx:∀ x ∈ xs,x.wf s.n) (h:(zJt C E f xs s K).holds):∃ fv,zO2 f=some fv/\Cl W A fv (xs.map (V.ren r)) (jC r s.o) (jK r s.ns) (Lift RV r K):=by
 induction f with
 | ref f=>exact ⟨_,rfl,CS h W A r G R ok hx⟩
 | bi n =>replace h:=VA h;obtain ⟨x,rfl,h⟩:=h;exact ⟨_,rfl,zFx R ok h⟩
 | ty n =>
  refine j1 h ?_;clear h;intro q h;obtain rfl:=eq_of_beq q;replace h:=VA h;obtain ⟨x,rfl,h⟩:=h;refine jE h ?_;clear h;intro b eb h;cases x<;>cases eb
  exact ⟨_,rfl,zNr (je ok h)⟩
 | _=>exact False.elim h
theorem QU (S:jU E F) {K:Unit->SS->Tree}:∀ {ts:List Expr}{vs:List V}{s:SS}{r:List Addr},At E fr W A env r s->(∀ v ∈ vs,v.wf s.n)->asL F fr ts vs s K->AsL W A env ts (vs.map (V.ren r)) (jC r s.o) (jK r s.ns) (λo n=>Lift RU r K () o n)
 | [],[],s,r,a,_,h=>Lift.mk (R:=RU) a.ok trivial h
 | x::xs,v::vs,s,r,a,hv,h=>by refine As.lift (S.a h W A env r a (hv v (.head _))) λt s1 ok h=>?_;rw [<- jf (t:=t) (xs:=vs) (λx hx=>a.ok.len▸hv x (.tail _ hx))];exact AsL.mono (λ_ _ q=>q.up) (QU S (a.next ok) (λx hx=>(hv x (.tail _ hx)).mono (a.ok.le ok)) h)
 | [],_::_,_,_,_,_,h=>False.elim h
 | _::_,[],_,_,_,_,h=>False.elim h
end
section
variable {E:Est} {F:Yv} {fr:Fr} {W W':Wd} {A:Around} {env:Env} {r t:List Addr} {s s1:SS} {o:jA} {n:jB}
theorem TurnsF.mono {K:Frag}{mg mb:Str->Option Value}{target:Expr}{body:List Stmt}{Q Q':Fl->jA->jB->Prop}(k:∀ f o n,Q f o n->Q' f o n) :
  ∀ {xs:List V} {o:jA} {n:jB},TurnsF K mg mb A env target body Q xs o n->TurnsF K mg mb A env target body Q' xs o n
 | [],_,_,h=>k _ _ _ h
 | x::r,_,_,h=>λW' G v hv=>Tr.mono (h W' G v hv) λ_ _ _ q W' G=>Tr.mono (q W' G) λ_ _ _ q=>q.mono λy q=>by
  induction y with
  | next=>exact TurnsF.mono k q
  | ret z=>exact k _ _ _ q
theorem CTurnsF.mono {K:Frag}{mg mb:Str->Option Value}{cn:List (Str×NameKind)}{cs:List (Str×Addr)}{elt target:Expr}{ifs:List Expr}{Q Q':List V->jA->jB->Prop}(k:∀ f o n,Q f o n->Q' f o n) :
  ∀ {xs ys:List V} {o:jA} {n:jB},CTurnsF K mg mb A cn cs elt target ifs Q xs ys o n->CTurnsF K mg mb A cn cs elt target ifs Q' xs ys o n
 | [],_,_,_,h=>k _ _ _ h
 | x::r,_,_,_,h=>λW' G cenv C he v hv=>Tr.mono (h W' G cenv C he v hv) λ_ _ _ q W' G=>Ift.mono (λb o n q=>Br.imp q (λq W' G=>Ev.mono (q W' G) λy o n q=>q.mono λ_ q=>CTurnsF.mono k q) λq=>q.mono λ_ q=>CTurnsF.mono k q) _ (q W' G)
theorem JK (S:jU E F) {target:Expr}{body:List Stmt}{K:Fl->SS->Tree}:∀ {xs:List V}{s:SS}{r:List Addr},At E fr W A env r s->(∀ x ∈ xs,x.wf s.n)->zAq F fr target body xs s K ->
  TurnsF E.K E.mg E.mb A env target body (Lift RF r K) (xs.map (V.ren r)) (jC r s.o) (jK r s.ns)
 | [],s,r,a,_,h=>Lift.mk (R:=RF) (x:=.next) a.ok trivial h
 | x::xs,s,r,a,hx,h=>λW' G=>As.lift (S.a h W' A env r (a.world G) (hx x (.head _))) λt s1 ok h W2 G2 =>
  Es.lift (S.ss h W2 A env (r++t) ((a.next ok).world G2)) λt2 f s2 ok2 wf h=>by
   induction f with
   | next =>
    have le:s.n<=s2.n:=Nat.le_trans (a.ok.le ok) (ok.le ok2);have e:xs.map (V.ren r)=xs.map (V.ren (r++t++t2)):=by rw [List.append_assoc];exact (jf λx q=>a.ok.len▸hx x (.tail _ q)).symm
    show TurnsF E.K E.mg E.mb A env target body (Lift RF r K) (xs.map (V.ren r)) _ _;rw [e];exact TurnsF.mono (λ_ _ _ q=>q.up.up) (JK S ((a.next ok).next ok2) (λx q=>(hx x (.tail _ q)).mono le) h)
   | ret v=>exact Lift.up (Lift.up (Lift.mk (R:=RF) (x:=.ret v) ok2 wf h))
theorem SS.ok.enter {C:Addr}(h:s.ok r):s.enter.ok (r++[C])/\jC (r++[C]) s.enter.o=jC r s.o/\jK (r++[C]) s.enter.ns=(C,[])::jK r s.ns/\jL (r++[C]) (nm s.n)=C:=by
 have e:jL (r++[C]) (nm s.n)=C:=by rw [<- h.len];exact Qt
 refine ⟨⟨by simp [SS.enter,h.len],h.o.mono (Nat.le_succ _),λp hp=>?_⟩,h.app.1,?_,e⟩
 ·rcases List.mem_cons.mp hp with rfl | hp
  ·exact ⟨yE,List.forall_mem_nil _⟩
  ·exact ⟨(h.ns p hp).1.mono (Nat.le_succ _),(h.ns p hp).2.mono (Nat.le_succ _)⟩
 ·show (jL (r++[C]) (nm s.n),yX (r++[C]) [])::jK (r++[C]) s.ns=_;rw [e,h.app.2];rfl
theorem ZQ {L:Addr}{K:SS->Tree}(ok:s.ok r) (h:(s.leave L K).holds):∃ ll nn,s.ns=(L,ll)::nn/\SS.ok r ⟨s.o,nn,s.n⟩/\(K ⟨s.o,nn,s.n⟩).holds:=by refine jE h ?_;clear h;intro zz0 e h;obtain ⟨⟨L',ll⟩,nn⟩:=zz0;refine j1 h ?_;clear h;intro q h;obtain rfl:=Nat.eq_of_beq_eq_true q;have e:=zA e;refine ⟨_,_,e,⟨ok.len,ok.o,λp hp=>?_⟩,h⟩;have:=ok.ns;rw [e] at this;exact this p (.tail _ hp)
theorem zEX (S:jU E F) {ifs:List Expr}{K:Bool->SS->Tree}(a:At E fr W A env r s) (h:zOS F fr ifs s K):Ift W A env ifs (jC r s.o) (jK r s.ns) (Lift RB r K):=by
 match ifs,h with
 | [],h=>exact Lift.mk (R:=RB) (x:=true) a.ok trivial h
 | [_],h=>exact S.b (Vv h).2 W A env r a
 | _::_::_,h=>exact absurd (Vv h).1 (by simp)
theorem Ift.lift {ifs:List Expr}{K:Bool->SS->Tree}{Q:Bool->jA->jB->Prop}(h:Ift W A env ifs o n (Lift RB r K)) (k:∀ t x s,SS.ok (r++t) s->K x s->Q x (jC (r++t) s.o) (jK (r++t) s.ns)):Ift W A env ifs o n Q :=
 Ift.mono (λ_ _ _ q=>q.elim λt _ s ok _=>k t _ s ok) _ h
noncomputable def Jq (r:List Addr) (cs:List (Str×Addr)):List (Str×Addr):=cs.map λp=>(p.1,jL r p.2)
theorem VK (S:jU E F) {cn:List (Str×NameKind)}{elt target:Expr}{ifs:List Expr}{K:List V->SS->Tree}{cs:List (Str×Addr)}:∀ {xs ys:List V}{s:SS}{r:List Addr},At E fr W A env r s->(∀ p ∈ cs,wfA s.n p.2)->(∀ x ∈ xs,x.wf s.n)->(∀ x ∈ ys,x.wf s.n)->zAr F cn cs elt target ifs xs ys s K ->
  CTurnsF E.K E.mg E.mb A cn (Jq r cs) elt target ifs (Lift RVs r K) (xs.map (V.ren r)) (ys.map (V.ren r)) (jC r s.o) (jK r s.ns)
 | [],ys,s,r,a,_,_,hy,h=>by replace h:=jT h;show Lift RVs r K (ys.map (V.ren r)).reverse _ _;rw [<- List.map_reverse];exact Lift.mk (R:=RVs) (x:=ys.reverse) a.ok (λx q=>hy x (List.mem_reverse.mp q)) h
 | x::xs,ys,s,r,a,hc,hx,hy,h=>λW' G cenv C he=>by
  obtain ⟨ok0,e1,e2,e3⟩:=a.ok.enter (C:=C);have hlen:s.enter.n=(r++[C]).length:=ok0.len.symm;have ec:Jq (r++[C]) cs=Jq r cs:=yJ (λp hp=>a.ok.len▸hc p hp);have a0:At E ⟨cn,nm s.n,cs⟩ W' A cenv (r++[C]) s.enter:=⟨G,a.R,⟨by show EnvAt cenv cn (jL (r++[C]) (nm s.n)) (Jq (r++[C]) cs);rw [e3,ec];exact he⟩,⟨yE,λp hp=>(hc p hp).mono (Nat.le_succ _)⟩,ok0⟩;have hx0:x.wf s.n:=hx x (.head _);have hA:=S.a (s:=s.enter) h W' A cenv (r++[C]) a0 (hx0.mono (Nat.le_succ _));rw [e1,e2,V.ren_app (a.ok.len▸hx0)] at hA;refine As.lift hA λt s1 ok1 h W2 G2=>?_;have fin:∀ {t2:List Addr} {s2:SS} {zs:List V},SS.ok (r++[C]++t++t2) s2->(∀ z ∈ zs,z.wf s2.n)->(s2.leave (nm s.n) λs3=>zAr F cn cs elt target ifs xs zs s3 K) ->
    PopF C (CTurnsF E.K E.mg E.mb A cn (Jq r cs) elt target ifs (Lift RVs r K) (xs.map (V.ren r)) (zs.map (V.ren (r++[C]++t++t2))) (jC (r++[C]++t++t2) s2.o)) (jK (r++[C]++t++t2) s2.ns):=by
   intro t2 s2 zs ok2 hz h;replace h:=ZQ ok2 h;obtain ⟨ll,nn,e,ok3,h⟩:=h;have le:s.n<=s2.n:=by have:=ok2.len;rw [<- a.ok.len,<- this];simp only [List.length_append];omega
   have dC:jL (r++[C]++t++t2) (nm s.n)=C:=by
    have hw:wfA (r++[C]).length (nm s.n):=by rw [<- hlen];exact yE
    rw [List.append_assoc,zK hw];exact e3
   rw [e];show PopF _ _ ((jL _ _,_)::_);rw [dC];refine ⟨yX (r++[C]++t++t2) ll,jK (r++[C]++t++t2) nn,?_⟩;have a3:At E fr W A env (r++[C]++t++t2) ⟨s2.o,nn,s2.n⟩:=by rw [List.append_assoc,List.append_assoc] at ok3 ⊢;exact a.next ok3
   have ex:xs.map (V.ren r)=xs.map (V.ren (r++[C]++t++t2)):=by rw [List.append_assoc,List.append_assoc];exact (jf λx q=>a.ok.len▸hx x (.tail _ q)).symm
   have ecs:Jq r cs=Jq (r++[C]++t++t2) cs:=by rw [List.append_assoc,List.append_assoc];exact (yJ (λp hp=>a.ok.len▸hc p hp)).symm
   rw [ex,ecs];exact CTurnsF.mono (λ_ _ _ q=>q.up.up.up) (VK S a3 (λp hp=>(hc p hp).mono le) (λx q=>(hx x (.tail _ q)).mono le) hz h)
  have le1:s.n<=s1.n:=Nat.le_trans (Nat.le_succ _) (ok0.le ok1);refine Ift.lift (zEX S ((a0.next ok1).world G2) h) λt2 b s2 ok2 h=>?_;have le2:s.n<=s2.n:=Nat.le_trans le1 (ok1.le ok2);have ey:∀ u,ys.map (V.ren (r++u))=ys.map (V.ren r):=λu=>jf λx q=>a.ok.len▸hy x q;refine brS.br (zc h) (λh W3 G3=>Ev.lift (S.e h W3 A cenv _ (((a0.next ok1).next ok2).world G3)) λt3 y s3 ok3 wy h=>?_) (λh=>?_)
  ·have le3:=Nat.le_trans le2 (ok2.le ok3);rw [List.append_assoc] at ok3 ⊢;have q:=fin (t2:=t2++t3) (zs:=y::ys) ok3 (λz hz=>by
    rcases List.mem_cons.mp hz with rfl | hz
    ·exact wy
    ·exact (hy z hz).mono le3) h
   rw [List.map_cons,List.append_assoc,List.append_assoc,ey] at q;rw [List.append_assoc,List.append_assoc];exact q
  ·have q:=fin (t2:=t2) (zs:=ys) ok2 (λz hz=>(hy z hz).mono le2) h;rw [List.append_assoc,List.append_assoc,ey] at q;rw [List.append_assoc,List.append_assoc];exact q
end
section
variable {E:Est} {fr:Fr} {W W':Wd} {A:Around} {env:Env} {r:List Addr} {s:SS}
theorem zO3 {α:Type}:∀ l:List α,(two l).elim True λp=>l=[p.1,p.2]
 | [_,_]=>rfl
 | []=>trivial
 | [_]=>trivial
 | _::_::_::_=>trivial
theorem yL {α:Type}{p:α×α}{l:List α}(h:two l=some p):l=[p.1,p.2]:=(el (zO3 l) h :)
noncomputable def zMG (W:Wd) (A:Around) (env:Env) (e:Expr) (o:jA) (n:jB) (v:V):Prop:=∀ Q:V->jA->jB->Prop,Q v o n->Ev W A env e o n Q
theorem SS.ok.same {t:List Addr}(ok:s.ok r) (ok':SS.ok (r++t) s):t=[]:=by have h1:=ok'.len;rw [List.length_append,ok.len] at h1;exact List.length_eq_zero_iff.mp (Nat.add_left_cancel (k:=0) h1)
theorem Lift.back {Q:V->jA->jB->Prop}{v x:V}{o:jA}{n:jB}(l:Lift RV r (λv' s'=>.prop (v'=v/\s'=s)) x o n) (ok:s.ok r) (q:Q (v.ren r) (jC r s.o) (jK r s.ns)):Q x o n:=l.elim λt x s' ok' _ h=>by obtain ⟨rfl,rfl⟩:=h;obtain rfl:=ok.same ok';rw [List.append_nil];exact q
theorem zIX (x:Str) (k:NameKind):(zJr E fr x s k).elim True λv=>∀ K:V->SS->Tree,(K v s).holds->(zJl E fr x s K k).holds:=by
 induction k with
 | «local»=>exact jV λp hp=>Y0 λhL=>YZ λv hv K h=>yn hp (zLf hL (yn hv h))
 | cell=>exact jV λc ec=>jV λob eo=>jV λy ey=>YZ λv hv K h=>yn ec (yn eo (yn ey (yn hv h)))
 | free=>exact Zc λhc=>jV λc ec=>jV λob eo=>jV λy ey=>YZ λv hv K h=>zLf (by rw [hc];rfl) (yn ec (yn eo (yn ey (yn hv h))))
 | globalImplicit=>exact YZ λv hv K h=>yn hv h
 | _=>exact trivial
theorem zD4 (a:At E fr W A env r s) (e:Expr):(zDZ E fr s e).elim True λv=>zMG W A env e (jC r s.o) (jK r s.ns) (v.ren r):=by refine Y3 λx p e=>?_;subst e;exact Zc λhd=>jV λk hk=>YZ λv hv Q q=>Ev.mono (VI (K:=λv' s'=>.prop (v'=v/\s'=s)) a (zLf (by rw [hd];rfl) (yn hk (el (zIX x k) hv _ ⟨rfl,rfl⟩)))) λ_ _ _ l=>l.back a.ok q
theorem zIY (e:Expr):(zDZ E fr s e).elim True λ_=>∃ y p,e = .Name y p:=Y3 λx p e=>YZ λ_ _=>⟨x,p,e⟩
theorem zMH (c:Const):(zOP c).elim True λi=>c = .int i:=by cases c<;>first | exact rfl | exact trivial
theorem JL (e:Expr):(Z3 e).elim True λi=>∃ k p,e = .Constant (.int i) k p:=ZO λc k p e=>YZ λi h=>⟨k,p,el (zMH c) h▸e⟩
theorem zIZ (e:Expr):(zD0 e).elim True λo=>∃ p,e = .BinOp o.2.1 o.1 o.2.2 p:=VD λ_ _ _ p e=>⟨p,e⟩
theorem zO4 (a:At E fr W A env r s) (e:Expr):(pAt E fr s e).elim True λq=>q.1=true->zMG W A env e (jC r s.o) (jK r s.ns) (.int q.2):=by
 unfold pAt;induction e1:Z3 e using Option.casesOn with
 | some i=>exact λ_ Q q=>(el (JL e) e1).elim λk h=>h.elim λp h=>by rw [h];exact JV q
 | none =>exact jV λv hv=>jV λi hi _=>by have:=el (zD4 a e) hv;rw [jk hi] at this;exact this
theorem VL (a:At E fr W A env r s):∀ (n:Nat) (e:Expr),(zES E fr s n e).elim True λq=>q.1=true->zMG W A env e (jC r s.o) (jK r s.ns) (.int q.2)
 | 0,_=>trivial
 | n + 1,e=>by
  show ((zD0 e).elim (pAt E fr s e) _).elim _ _;induction e1:zD0 e using Option.casesOn with
  | none=>exact zO4 a e
  | some o =>
   exact jV λx hx=>jV λy hy=>Zc λhm=>jV λz hz hq Q q=>by
    have hq:=jP hq;obtain ⟨p,rfl⟩:=el (zIZ e) e1;have hb:(zIM E o.1 (.int x.2) (.int y.2) s λv' s'=>.prop (v' = .int z.2/\s'=s)).holds:=by show (cond (zF7 o.1) _ (jS (zLm o.1 x.2 y.2) λr=>Tree.br r.1 (Tree.prop (V.int r.2 = .int z.2/\s=s)) .fail)).holds;rw [hm];refine yn hz ?_;rw [(jP hq.2).2];exact ⟨rfl,rfl⟩
    exact YU (el (VL a n _) hx hq.1 _ (el (VL a n _) hy (jP hq.2).1 _ (Bin.mono (QS (x:=.int x.2) (y:=.int y.2) a.ok hb) λ_ _ _ l=>Lift.back l a.ok q)))
noncomputable def zKG (W:Wd) (A:Around) (env:Env) (e:Expr) (o:jA) (n:jB) (b:Bool):Prop:=∀ Q:Bool->jA->jB->Prop,Q b o n->Bo W A env e o n Q
theorem zI0 (op:CmpOp):cond (zIN op) (op = .Eq) True:=by cases op<;>first | exact rfl | exact trivial
theorem zFy (a:At E fr W A env r s) (e:Expr):(zLt E fr s e).elim True λq=>q.1=true->zKG W A env e (jC r s.o) (jK r s.ns) q.2:=by refine zCO λl ops rs p e=>?_;subst e;exact jV λop e1=>jV λr0 e2=>Zc λhm=>jV λx hx=>jV λy hy=>Y0 λhe hq Q q=>by have hq:=jP hq;rw [yI e1,yI e2];refine Zm (el (VL a 8 l) hx hq.1 _ (el (VL a 8 r0) hy hq.2 _ ?_)) hm;rw [Vr (zI0 op) he];exact zNh rfl (Zo q)
theorem zI1 (x:V):x.truth.elim True λb=>∀ (o:jA) (n:jB) (Q:Bool->jA->jB->Prop),Q b o n->Tru W A (x.ren r) o n Q:=by
 induction x with
 | none=>exact λ_ _ _ q=>zEv q
 | bool b=>exact λ_ _ _ q=>Zo q
 | int i=>exact λ_ _ _ q=>zJc rfl q
 | _=>exact trivial
theorem zFz (op:BoolOp):cond (zAs op) (op = .And) True:=by cases op<;>first | exact rfl | exact trivial
theorem VM (e:Expr):(J5 e).elim True λo=>∃ p,e = .BoolOp o.1 o.2 p:=zEQ λ_ _ p e=>⟨p,e⟩
theorem zI2 (a:At E fr W A env r s) (e:Expr):(zFh E fr s e).elim True λq=>q.1=true->zKG W A env e (jC r s.o) (jK r s.ns) q.2:=by
 unfold zFh;induction eb:J5 e using Option.casesOn with
 | none=>exact zFy a e
 | some o =>
  exact Y0 λha=>jV λx hx=>jV λv hv=>jV λb hb=>jV λc hc hq Q q=>by
   obtain ⟨p,rfl⟩:=el (VM e) eb;rw [Vr (zFz o.1) ha,yL hx];have tv:=el (zD4 a x.1) hv;obtain ⟨y,p2,e1⟩:=el (zIY x.1) hv;rw [e1] at tv ⊢;refine Zn (YV (tv _ (el (zI1 v) hb _ _ _ ?_)) λ_=>rfl);induction b using Bool.casesOn with
   | false=>exact Br.f q
   | true=>exact Br.t (Zn (el (zFy a x.2) hc hq _ (by induction hc2:c.2 with | true=>rw [hc2] at q;exact Br.t (QG q) | false=>rw [hc2] at q;exact Br.f q)))
theorem SS.ok.turn {C:Addr}{t:Str}{x:V}(h:s.ok r) (hx:x.wf s.n):SS.ok (r++[C]) ⟨s.o,(nm s.n,[(t,x)])::s.ns,s.n + 1⟩:=by
 obtain ⟨q,_⟩:=h.enter (C:=C);refine ⟨q.len,q.o,λp hp=>?_⟩;rcases List.mem_cons.mp hp with rfl | hp
 ·refine ⟨yE,λq hq=>?_⟩;obtain rfl:=List.mem_singleton.mp hq;exact hx.mono (Nat.le_succ _)
 ·exact q.ns p (.tail _ hp)
theorem zGA (a:Bool×Int) (l:List (Bool×Int)) (ys:List V):((if a.1=true then V.int a.2::ys else ys).reverse++(jp l).map V.int)=ys.reverse++(jp (a::l)).map V.int:=by
 obtain ⟨b,i⟩:=a;cases b
 ·rfl
 ·show (V.int i::ys).reverse++(jp l).map V.int=ys.reverse++(i::jp l).map V.int;simp
theorem zBC {cn:List (Str×NameKind)}{cs:List (Str×Addr)}{elt c:Expr}{t:Str}{p:Pos}{C:Addr}{cenv:Env}{x:V}{u:Bool×(Bool×Int)}{P:List V->jA->jB->Prop}{ys:List V}(a:At E fr W A env r s) (hc:∀ p ∈ cs,wfA s.n p.2) (hl:cn.lookup t=some .local)
  (hx:x.wf s.n) (hu:zJs E cn cs t c elt s x=some u) (hq:u.1=true) (G:Gr W' E.K E.mg E.mb) (he:EnvAt cenv cn C (Jq r cs)) (k:P (if u.2.1=true then .int u.2.2::ys else ys) (jC r s.o) (jK r s.ns)) :
  As W' A cenv (.Name t p) (x.ren r) (jC r s.o) ((C,[])::jK r s.ns) λo n=>∀ W',Gr W' E.K E.mg E.mb->Ift W' A cenv [c] o n λb o n =>
   Br b (∀ W',Gr W' E.K E.mg E.mb->Ev W' A cenv elt o n λy o n=>PopF C (P (y::ys) o) n) (PopF C (P ys o) n):=by
 refine jH hu λb hb h=>jH h λy hy h=>?_;obtain rfl:=Option.some.inj h;have hq:=jP hq;obtain ⟨ok0,e1,e2,e3⟩:=a.ok.enter (C:=C);have ec:Jq (r++[C]) cs=Jq r cs:=yJ (λp hp=>a.ok.len▸hc p hp);have a1:At E ⟨cn,nm s.n,cs⟩ W' A cenv (r++[C]) ⟨s.o,(nm s.n,[(t,x)])::s.ns,s.n + 1⟩:=⟨G,a.R,⟨by show EnvAt cenv cn (jL (r++[C]) (nm s.n)) (Jq (r++[C]) cs);rw [e3,ec];exact he⟩,⟨yE,λp hp=>(hc p hp).mono (Nat.le_succ _)⟩,a.ok.turn hx⟩;have st:jK (r++[C]) ((nm s.n,[(t,x)])::s.ns)=(C,[(t,V.ren r x)])::jK r s.ns:=by rw [show jK (r++[C]) ((nm s.n,[(t,x)])::s.ns)=(jL (r++[C]) (nm s.n),[(t,V.ren (r++[C]) x)])::jK (r++[C]) s.ns from rfl,e3,V.ren_app (a.ok.len▸hx),a.ok.app.2]
 have so:jC (r++[C]) s.o=jC r s.o:=a.ok.app.1;refine JC (zh he hl SetL.nil λW2 G2=>?_);have tb:=el (zI2 (a1.world G2) c) hb hq.1;have ty:=λW3 (G3:Gr W3 E.K E.mg E.mb)=>el (VL (a1.world G3) 8 elt) hy hq.2;dsimp only at tb ty;rw [so,st] at tb ty;refine (tb _ ?_:Ift W2 A cenv [c] _ _ _);induction eb:b.2 using Bool.casesOn with
 | true=>rw [if_pos eb] at k;exact Br.t λW3 G3=>ty W3 G3 _ ⟨_,_,k⟩
 | false=>rw [if_neg (by rw [eb];exact Bool.false_ne_true)] at k;exact Br.f ⟨_,_,k⟩
theorem ZR {cn:List (Str×NameKind)}{cs:List (Str×Addr)}{elt c:Expr}{t:Str}{p:Pos}{Q:List V->jA->jB->Prop}(a:At E fr W A env r s) (hc:∀ p ∈ cs,wfA s.n p.2) (hl:cn.lookup t=some .local) :
  ∀ {xs:List V} {q:Bool×List (Bool×Int)} {ys:List V},(∀ x ∈ xs,x.wf s.n)->zCU E cn cs t c elt s xs=some q->q.1=true->Q (ys.reverse++(jp q.2).map V.int) (jC r s.o) (jK r s.ns) ->
   CTurnsF E.K E.mg E.mb A cn (Jq r cs) elt (.Name t p) [c] Q (xs.map (V.ren r)) ys (jC r s.o) (jK r s.ns)
 | [],q,ys,_,h,_,k=>by obtain rfl:=Option.some.inj h;have k:Q (ys.reverse++[]) _ _:=k;rwa [List.append_nil] at k
 | x::xs,q,ys,hx,h,hq,k=>jH h λu hu h=>jH h λv hv h=>by obtain rfl:=Option.some.inj h;have hq:=jP hq;exact λW' G cenv C he=>zBC (P:=CTurnsF E.K E.mg E.mb A cn (Jq r cs) elt (.Name t p) [c] Q (xs.map (V.ren r))) a hc hl (hx x (.head _)) hu hq.1 G he (ZR a hc hl (λx q=>hx x (.tail _ q)) hv hq.2 (by rw [zGA];exact k))
end
section
variable {E:Est} {F:Yv} {fr:Fr} {W W':Wd} {A:Around} {env:Env} {r t:List Addr} {s s1:SS} {o:jA} {n:jB}
theorem Y8 {cs:List (Str×Addr)}(h:∀ p ∈ cs,wfA r.length p.2):Jq (r++t) cs=Jq r cs:=yJ h
inductive CellsR (r:List Addr) (s:SS) (K:List (Str×Addr)->SS->Tree):List (Str×Addr)->jA->Prop
 | of (t:List Addr) (cs:List (Str×Addr)) (s':SS) (ok:SS.ok (r++t) s') (hc:∀ p ∈ cs,wfA s'.n p.2) (e:jK (r++t) s'.ns=jK r s.ns) (h:(K cs s').holds):CellsR r s K (Jq (r++t) cs) (jC (r++t) s'.o)
theorem yp {K:List (Str×Addr)->SS->Tree}:∀ {names:List (Str×NameKind)}{cs:List (Str×Addr)}{s:SS}{r:List Addr},s.ok r->(∀ p ∈ cs,wfA s.n p.2)->yQ names cs s K ->
  LayQ names (Jq r cs) (jC r s.o) (CellsR r s K)
 | [],cs,s,r,ok,hc,h=>by have:=CellsR.of (r:=r) (s:=s) (K:=K) [] cs s (by rwa [List.append_nil]) hc (by rw [List.append_nil]) h;rwa [List.append_nil] at this
 | (x,k)::names,cs,s,r,ok,hc,h=>by
  replace h:(cond (k==NameKind.cell) (s.newK (.cell none) λa s=>yQ names ((x,a)::cs) s K) (yQ names cs s K)).holds:=h;unfold LayQ;induction e:k==NameKind.cell using Bool.casesOn with
  | true =>
   rw [e] at h;rw [if_pos rfl];intro a;obtain ⟨ok',e1,e2,e3⟩:=ok.new (ob:=.cell none) (l:=a) nofun
   have:=yp (s:=s.new (.cell none)) ok' (λp hp=>by
    rcases List.mem_cons.mp hp with rfl | hp
    ·exact yE
    ·exact (hc p hp).mono (Nat.le_succ _)) h
   rw [e1,show Jq (r++[a]) ((x,nm s.n)::cs)=(x,a)::Jq r cs by show (x,jL (r++[a]) (nm s.n))::Jq (r++[a]) cs=_;rw [e3,Y8 (λp hp=>ok.len▸hc p hp)]] at this;refine LayQ.mono ?_ this;rintro _ _ ⟨t,cs0,s',a1,a2,a5,a6⟩;rw [List.append_assoc] at a1 a5 ⊢;exact .of ([a]++t) cs0 s' a1 a2 (a5.trans e2) a6
  | false =>rw [e] at h;rw [if_neg Bool.false_ne_true];exact yp ok hc h
theorem zr {l:Addr}{x:Ob}:∀ {o o':jA},Vx l o=some (x,o')->(jC r o).Perm (jC r o'++[(jL r l,x.ren r)])/\(l,x) ∈ o/\∀ p ∈ o',p ∈ o
 | (b,ob)::q,o',h=>by
  unfold Vx at h;induction e:Nat.beq l b using Bool.casesOn with
  | true =>
   rw [e] at h;cases h
   rw [Nat.eq_of_beq_eq_true e];exact ⟨(List.perm_append_comm (l₁:=[(jL r b,x.ren r)]) (l₂:=jC r q)),.head _,λp hp=>.tail _ hp⟩
  | false =>
   rw [e] at h;induction e2:Vx l q using Option.casesOn with
   | none=>rw [e2] at h;contradiction
   | some z =>
    rw [e2] at h;cases h
    obtain ⟨h1,h2,h3⟩:=zr (o':=z.2) (x:=z.1) e2;exact ⟨h1.cons _,.tail _ h2,List.forall_mem_cons.mpr ⟨.head _,λp hp=>.tail _ (h3 p hp)⟩⟩
inductive OverR (r:List Addr) (K:List V->Option (Addr×Ob)->SS->Tree):V->jA->jB->Prop
 | range (t:List Addr) (k:Nat) (l:Addr) (s':SS) (ok:SS.ok (r++t) s') (hk:k<=900) (hl:Has l (zU (k:Nat)) (jC (r++t) s'.o)) (h:(K (jt k) none s').holds):OverR r K (.ref l) (jC (r++t) s'.o) (jK (r++t) s'.ns)
 | list (t:List Addr) (l:Addr) (xs:List V) (s':SS) (ok:SS.ok (r++t) s') (wx:∀ x ∈ xs,x.wf s'.n) (wl:wfA s'.n l) (hz:xs.length<=900) (h:(K xs (some (l,.list xs)) s').holds) :
  OverR r K (.ref (jL (r++t) l)) (jC (r++t) s'.o++[(jL (r++t) l,.list (xs.map (V.ren (r++t))))]) (jK (r++t) s'.ns)
theorem QW {x:Str}{β:Type}{f:V->Option β}{P:β->Prop}(h:fr.names.lookup x=some .globalImplicit->∀ v,E.gl.lookup x=some v->(f v).elim True P):((fr.names.lookup x).elim none (λk=>cond (k==NameKind.globalImplicit) ((E.gl.lookup x).elim none f) none)).elim True P :=
 jV λk ek=>Y0 λe2=>jV λv hv=>h (by rw [ek,eq_of_beq e2]) v hv
inductive TyC (E:Est) (fr:Fr) (T:String) (es:List Expr):Expr->Prop
 | mk (f:Str) (p pos:Pos) (h:fr.names.lookup f=some .globalImplicit) (g:E.gl.lookup f=some (.ty T)) (q:j0 es=true):TyC E fr T es (.Call (.Name f p) es [] pos)
theorem zPw (v:V):v.ty?.elim True λT=>v = .ty T:=by cases v<;>first | exact rfl | exact trivial
theorem zEY (f:Expr) (es:List Expr) (ks:List Keyword) (pos:Pos):(zDY E fr f es ks).elim True λq=>TyC E fr q.1 q.2 (.Call f es ks pos):=by refine Y3 λx p e=>?_;subst e;exact Y0 λe1=>QW λhk v hv=>jV λT hT=>by obtain ⟨q1,q2⟩:=jP e1;rw [List.isEmpty_iff.mp q1];exact .mk x p pos hk (by rw [hv,el (zPw v) hT]) q2
theorem zGB (iter:Expr):(yd E fr iter).elim True λq=>TyC E fr q.1 q.2 iter:=Qv λf es ks pos e=>e▸zEY f es ks pos
theorem Ja {iter:Expr}{T:String}{es:List Expr}(h:yd E fr iter=some (T,es)):TyC E fr T es iter:=(el (zGB iter) h :)
theorem VN (S:jU E F) {iter:Expr}{K:List V->Option (Addr×Ob)->SS->Tree}(a:At E fr W A env r s) (h:(zAt F E fr iter s K).holds):Ev W A env iter (jC r s.o) (jK r s.ns) (OverR r K)/\VG iter=false:=by
 unfold zAt at h;induction et:yd E fr iter using Option.casesOn with
 | some p =>obtain ⟨T,es⟩:=p;rw [et] at h;obtain ⟨f,p,pos,hx,hv,hp⟩:=Ja et;refine j1 h ?_;clear h;intro q h;obtain rfl:=eq_of_beq q;replace h:=VA h;obtain ⟨e,rfl,h⟩:=h;refine ⟨?_,rfl⟩;refine JY (λQ q=>zT a hx hv q) (J1 (Ev.lift (S.e h W A env r a) λt x s1 ok wf h=>Zb ?_)) hp;replace h:=YA h;obtain ⟨i,rfl,h⟩:=h;refine j1 h ?_;clear h;intro hk h;obtain ⟨h0,h1⟩:=of_decide_eq_true hk;obtain ⟨k,rfl⟩:=Int.eq_ofNat_of_zero_le h0;replace h:=jT h;rw [Int.toNat_natCast] at h;refine Qq λl=>?_;obtain ⟨ok',e1,e2,e3⟩:=ok.new (ob:=zU (k:Nat)) (l:=l) trivial;rw [List.append_assoc] at ok' e1 e2;have:=OverR.range (K:=K) _ k l _ ok' (by omega) (by rw [e1];exact .head) h;rw [e1,e2] at this;exact this
 | none =>rw [et] at h;refine j1 h ?_;clear h;intro hs h;refine ⟨Ev.post (Ev.lift (S.e h W A env r a) λt x s1 ok wf h=>?_),(Bool.not_eq_true' _).mp hs⟩;replace h:=yP h;obtain ⟨l,rfl,h⟩:=h;refine jE h ?_;clear h;intro zz0 e h;obtain ⟨z,o'⟩:=zz0;refine jE h ?_;clear h;intro xs ex h;refine j1 h ?_;clear h;intro hz h;obtain rfl:=y5 ex;obtain ⟨p1,p2,p3⟩:=zr (r:=r++t) e;exact ⟨_,p1,.list t l xs ⟨o',s1.ns,s1.n⟩ ⟨ok.len,λp hp=>ok.o p (p3 p hp),ok.ns⟩ (ok.o _ p2).2 wf (Nat.le_of_ble_eq_true hz) h⟩
theorem Ze {p:Option (Addr×Ob)}{K:SS->Tree}(h:(QR p s K).holds):(K (QP p s)).holds:=by
 induction p using Option.casesOn with
 | none=>rw [show QP none s=s by unfold QP;rw [Option.elim_none,List.append_nil]];exact h
 | some q=>exact jT h
theorem Jr {α:Type}{R:Rn α}{K:α->SS->Tree}{x:α}{l:Addr}{ob:Ob}(hl:wfA r.length l) (ho:ob.wf r.length) (h:Lift R r (λx s=>K x (QP (some (l,ob)) s)) x o n):Lift R r K x (o++[(jL r l,ob.ren r)]) n:=by
 refine h.elim (P:=λx o n=>Lift R r K x (o++[(jL r l,ob.ren r)]) n) λt x0 s ok wf h=>?_;have le:r.length<=s.n:=by rw [<- ok.len,List.length_append];exact Nat.le_add_right ..
 refine .of' (s:=QP (some (l,ob)) s) t ⟨ok.len,λp hp=>?_,ok.ns⟩ wf rfl ?_ rfl h
 ·rcases List.mem_append.mp hp with hp | hp
  ·exact ok.o p hp
  ·obtain rfl:=List.mem_singleton.mp hp;exact ⟨hl.mono le,ho.mono le⟩
 ·show _=jC (r++t) (s.o++[(l,ob)]);unfold jC;rw [List.map_append,List.map_cons,List.map_nil,show onO (r++t) (l,ob)=(jL (r++t) l,ob.ren (r++t)) from rfl,zK hl,Ob.ren_app ho]
theorem QX {k:Nat}:(jt k).map (V.ren r)=jt k:=by unfold jt;rw [List.map_map];rfl
theorem zBD {k m:Nat}:∀ x ∈ jt k,x.wf m:=λx hx=>by obtain ⟨i,_,rfl⟩:=List.mem_map.mp hx;exact trivial
theorem zMI (iter:Expr):cond (VG iter) True (∀ (env:Env) x,foldedSetIterable iter env x=pure x):=by cases iter<;>first | exact λ_ _=>rfl | exact trivial
theorem JM {iter:Expr}(h:VG iter=false):∀ x,foldedSetIterable iter env x=pure x:=by have:=zMI iter;rw [h] at this;exact this env
theorem zEZ (S:jU E F) {target iter:Expr}{body:List Stmt}{pos:Pos}{K:Fl->SS->Tree}(a:At E fr W A env r s) (h:(zAt F E fr iter s λxs p s=>zAq F fr target body xs s λf s=>QR p s (K f)).holds) :
  Ex W A env (.For target iter body [] pos) (jC r s.o) (jK r s.ns) (Lift RF r K):=by
 replace h:=VN S a h;obtain ⟨he,hs⟩:=h;refine QJ a.G (Ev.mono he ?_) (JM hs);rintro x o n (⟨t,k,l,s',ok,hk,hl,h⟩ | ⟨t,l,xs,s',ok,wf,hl,hz,h⟩)
 ·have:=JK S (a.next ok) zBD h;rw [QX] at this;exact ForQ.rangeF a.R.handled hl (by omega) (TurnsF.mono (λ_ _ _ q=>q.up) this)
 ·have:=JK S (a.next ok) wf h;exact ForQ.listH a.R.handled (TurnsF.mono (λ_ _ _ q=>Lift.up (Jr (by rw [ok.len];exact hl) (by rw [ok.len];exact wf) (q.mono λ_ _ h=>Ze h))) this)
theorem Js:∀ {names:List (Str×NameKind)}{acc cl cells:List (Str×Addr)},yb cells names acc=some cl->yb (Jq r cells) names (Jq r acc)=some (Jq r cl)
 | [],acc,cl,cells,e=>by obtain rfl:=Option.some.inj e;rfl
 | (x,k)::names,acc,cl,cells,e=>by
  unfold yb at e ⊢;by_cases hk:(k==NameKind.free)=true
  ·rw [if_pos hk] at e ⊢;obtain ⟨a,ha,e⟩:=Option.bind_eq_some_iff.mp e;rw [show (Jq r cells).lookup x=some (jL r a) from JJ ha];exact Js (acc:=(x,a)::acc) e
  ·rw [if_neg hk] at e ⊢;exact Js e
theorem Y9 {m:Nat}{cells:List (Str×Addr)}(hc:∀ p ∈ cells,wfA m p.2):∀ {names:List (Str×NameKind)}{acc cl:List (Str×Addr)},(∀ p ∈ acc,wfA m p.2)->yb cells names acc=some cl->∀ p ∈ cl,wfA m p.2
 | [],acc,cl,ha,e=>by obtain rfl:=Option.some.inj e;exact ha
 | (x,k)::names,acc,cl,ha,e=>by
  unfold yb at e;by_cases hk:(k==NameKind.free)=true
  ·rw [if_pos hk] at e;obtain ⟨a,h1,e⟩:=Option.bind_eq_some_iff.mp e;refine Y9 hc (λp hp=>?_) e;rcases List.mem_cons.mp hp with rfl | hp
   ·exact hc _ (JE h1)
   ·exact ha p hp
  ·rw [if_neg hk] at e;exact Y9 hc ha e
theorem zO5 (x:Option NameKind):cond (zFi x) (x=some .local) True:=by
 induction x using Option.casesOn with
 | none=>exact trivial
 | some k=>cases k<;>first | exact rfl | exact trivial
theorem zGC {x:Option NameKind}(h:zFi x=true):x=some .local:=Vr (zO5 x) h
theorem zMJ (t:Expr):(J6 t).elim True λn=>∃ p,t = .Name n p:=Y3 λ_ p e=>⟨p,e⟩
theorem VP {t:Expr}{n:Str}(h:J6 t=some n):∃ p,t = .Name n p:=(el (zMJ t) h :)
theorem CTurnsF.ups {K:Frag}{mg mb:Str->Option Value}{cn:List (Str×NameKind)}{cs:List (Str×Addr)}{elt target:Expr}{ifs:List Expr}{KK:List V->SS->Tree}{xs ys:List V}(h:CTurnsF K mg mb A cn cs elt target ifs (Lift RVs (r++t) KK) xs ys o n):CTurnsF K mg mb A cn cs elt target ifs (Lift RVs r KK) xs ys o n:=CTurnsF.mono (λ_ _ _ q=>q.up) h
theorem zE0 (S:jU E F) {elt target:Expr}{ifs:List Expr}{cn:List (Str×NameKind)}{cs:List (Str×Addr)}{K:List V->SS->Tree}{xs:List V}(a:At E fr W A env r s) (hc:∀ p ∈ cs,wfA s.n p.2) (wf:∀ x ∈ xs,x.wf s.n)
  (h:(lcB F E cn elt target ifs cs xs s K).holds):CTurnsF E.K E.mg E.mb A cn (Jq r cs) elt target ifs (Lift RVs r K) (xs.map (V.ren r)) [] (jC r s.o) (jK r s.ns):=by
 unfold lcB at h;induction e1:one ifs using Option.casesOn with
 | none =>rw [e1] at h;exact VK S a hc wf (λ_ h=>absurd h List.not_mem_nil) h
 | some c =>rw [e1] at h;obtain rfl:=yI e1;refine jE h λn en h=>j1 h λhl h=>jE h λq eq h'=>?_;obtain ⟨q1,h'⟩:=zF3 h';obtain ⟨p0,rfl⟩:=VP en;refine ZR (elt:=elt) (p:=p0) (ys:=[]) (Q:=Lift RVs r K) a hc (zGC hl) wf eq q1 ?_;have h2:=Lift.mk (R:=RVs) (K:=K) (x:=(jp q.2).map V.int) a.ok (λx hx=>by obtain ⟨i,_,rfl⟩:=List.mem_map.mp hx;exact trivial) h';rw [show RVs.ren r ((jp q.2).map V.int)=(jp q.2).map V.int from j2] at h2;exact h2
theorem QY (S:jU E F) {elt target:Expr}{ifs:List Expr}{cn:List (Str×NameKind)}{cl:List (Str×Addr)}{K:List V->SS->Tree}{xs:List V}(a:At E fr W A env r s) (hc:∀ p ∈ cl,wfA s.n p.2) (wf:∀ x ∈ xs,x.wf s.n)
  (h:(lcC F E fr cn elt target ifs cl xs s K).holds):LayQ cn (Jq r cl) (jC r s.o) λcs o=>CTurnsF E.K E.mg E.mb A (y4 cn fr.names) cs elt target ifs (Lift RVs r K) (xs.map (V.ren r)) [] o (jK r s.ns) :=
 LayQ.mono (λ_ _ q=>q.casesOn λt cs s2 ok2 hc2 e h=>by have:=zE0 S (a.next ok2) hc2 (λx hx=>(wf x hx).mono (a.ok.le ok2)) h;rw [e,jf (λx hx=>a.ok.len▸wf x hx)] at this;exact this.ups) (yp a.ok hc h)
structure LcR (E:Est) (fr:Fr) (W:Wd) (A:Around) (env:Env) (r:List Addr) (s:SS) (elt target iter:Expr) (ifs:List Expr) (scope:Scope) (K:V->SS->Tree) (cl:List (Str×Addr)):Prop where
 c:yb (Jq r fr.cells) scope.names []=some cl
 k:scope.kind = .function
 n:∀ x ∈ scope.names,x.2 = .local->scope.names.lookup x.1=some .local
 i:VG iter=false
 q:Ev W A env iter (jC r s.o) (jK r s.ns) λx o n=>CompQ W E.K E.mg E.mb A scope.names fr.names cl elt target ifs x o n λys o n=>∀ D,Lift RV r K (.ref D) ((D,.list ys)::o) n
theorem ZA {K:V->SS->Tree}{ys:List V}{D:Addr}(h:Lift RVs r (λys s=>s.mkK (.list ys) K) ys o n):Lift RV r K (.ref D) ((D,.list ys)::o) n :=
 Lift.elim (P:=λys o n=>Lift RV r K (.ref D) ((D,.list ys)::o) n) h λ_ x0 _ ok wf h=>Lift.up (yR (ob:=.list x0) ok wf h)
theorem zE1 (S:jU E F) {elt target iter:Expr}{ifs:List Expr}{scope:Scope}{K:V->SS->Tree}(a:At E fr W A env r s) (h:zOU F E fr elt target iter ifs scope s K):∃ cl,LcR E fr W A env r s elt target iter ifs scope K cl:=by
 refine jE h λcl hcl h=>j1 h λq h=>?_;obtain ⟨q1,q⟩:=jP q;obtain ⟨q2,q3⟩:=jP q;obtain ⟨he,hs⟩:=VN S a h;have hcw:=Y9 a.hf.2 (λ_ h=>absurd h List.not_mem_nil) hcl;refine ⟨_,Js hcl,eq_of_beq q1,λx hx hk=>?_,hs,Ev.mono he ?_⟩
 ·have:=List.all_eq_true.mp q2 x hx;rw [hk] at this;exact eq_of_beq (by simpa using this)
 rintro x o n (⟨t,k,l,s',ok,hk,hl,h⟩ | ⟨t,l,xs,s',ok,wf,hl,hz,h⟩)
 ·have:=QY S (a.next ok) (λp hp=>(hcw p hp).mono (a.ok.le ok)) zBD h;rw [QX,Y8 (λp hp=>a.ok.len▸hcw p hp)] at this;exact CompQ.rangeF a.R.handled hl (by omega) (LayQ.mono (λ_ _ q=>CTurnsF.mono (λys o n q D=>Lift.up (ZA q)) q) this)
 ·have:=QY S (a.next ok) (λp hp=>(hcw p hp).mono (a.ok.le ok)) wf h;rw [Y8 (λp hp=>a.ok.len▸hcw p hp)] at this;refine CompQ.listH a.R.handled (by rw [List.length_map];omega) (Nat.le_of_ble_eq_true q3) (LayQ.mono (λ_ _ q=>CTurnsF.mono (λys o n q D=>Lift.up (ZA (Jr (by rw [ok.len];exact hl) (by rw [ok.len];exact wf) (q.mono λ_ _ h=>Ze h)))) q) this)
theorem TurnsZF.mono {K:Frag}{mg mb:Str->Option Value}{target:Expr}{body:List Stmt}{Q Q':Fl->jA->jB->Prop}(k:∀ f o n,Q f o n->Q' f o n) :
  ∀ {zs:List (V×V)} {o:jA} {n:jB},TurnsZF K mg mb A env target body Q zs o n->TurnsZF K mg mb A env target body Q' zs o n
 | [],_,_,h=>k _ _ _ h
 | x::r,_,_,h=>λT W' G v hv=>Tr.mono (h T W' G v hv) λ_ _ _ q W' G=>Tr.mono (q W' G) λ_ _ _ q=>q.mono λy q=>by
  induction y with
  | next=>exact TurnsZF.mono k q
  | ret z=>exact k _ _ _ q
noncomputable def zC1 (r:List Addr) (zs:List (V×V)):List (V×V):=zs.map λz=>(z.1.ren r,z.2.ren r)
theorem zGD {zs:List (V×V)}(h:∀ z ∈ zs,z.1.wf r.length/\z.2.wf r.length):zC1 (r++t) zs=zC1 r zs:=List.map_congr_left λz hz=>by rw [V.ren_app (h z hz).1,V.ren_app (h z hz).2]
theorem Ya {r:List Addr}{is:List Int}:(is.map V.int).map (V.ren r)=is.map V.int:=by rw [List.map_map];exact List.map_congr_left λ_ _=>rfl
theorem CTurnsE.mono {K:Frag}{mg mb:Str->Option Value}{cn:List (Str×NameKind)}{cs:List (Str×Addr)}{elt target:Expr}{need:jA->Prop}{Q Q':List V->jA->jB->Prop}(k:∀ f o n,Q f o n->Q' f o n) :
  ∀ {xs:List (Nat×V)} {ys:List V} {o:jA} {n:jB},CTurnsE K mg mb A cn cs elt target [] need Q xs ys o n->CTurnsE K mg mb A cn cs elt target [] need Q' xs ys o n
 | [],_,_,_,h=>⟨h.1,k _ _ _ h.2⟩
 | x::r,_,_,_,h=>⟨h.1,λW' G T cenv C he v hv=>Tr.mono (h.2 W' G T cenv C he v hv) λ_ o n q=>Br.imp q (λq=>Ev.mono q λy o n q=>q.casesOn λll n' o' s q=>⟨ll,n',o',s,CTurnsE.mono k q⟩) λq=>q.casesOn λll n' o' s q=>⟨ll,n',o',s,CTurnsE.mono k q⟩⟩
theorem zGE (t:Expr):cond (Y5 t) (∃ elts c tp,t = .Tuple elts c tp) True:=by cases t<;>first | exact ⟨_,_,_,rfl⟩ | exact trivial
theorem zGF {l:Addr}{is:List Int}{T:Tree}(h:(zLu l is s T).holds):Has (jL r l) (.list (is.map V.int)) (jC r s.o)/\T.holds:=by refine jE h λob eo h=>jE h λxs el h=>jE h λjs ej h=>j1 h λq h=>⟨?_,h⟩;have:=j7 (r:=r) eo;rw [y5 el,z6 ej,eq_of_beq q,show Ob.ren r (.list (is.map V.int)) = .list ((is.map V.int).map (V.ren r)) from rfl,Ya] at this;exact this
theorem ZS (S:jU E F) {cn:List (Str×NameKind)}{elt target:Expr}{K:List V->SS->Tree}{cs:List (Str×Addr)}{l:Addr}{is:List Int}:∀ {zs:List (Nat×Int)}{ys:List V}{s:SS}{r:List Addr},At E fr W A env r s->(∀ p ∈ cs,wfA s.n p.2)->wfA s.n l->(∀ x ∈ ys,x.wf s.n)->(zFj F cn cs elt target l is zs ys s K).holds ->
  CTurnsE E.K E.mg E.mb A cn (Jq r cs) elt target [] (λo=>Has (jL r l) (.list (is.map V.int)) o) (Lift RVs r K) (zs.map λz=>(z.1,.int z.2)) (ys.map (V.ren r)) (jC r s.o) (jK r s.ns)
 | [],ys,s,r,a,_,_,hy,h=>by obtain ⟨hh,h⟩:=zGF (r:=r) h;refine ⟨hh,?_⟩;show Lift RVs r K (ys.map (V.ren r)).reverse _ _;rw [<- List.map_reverse];exact Lift.mk (R:=RVs) (x:=ys.reverse) a.ok (λx q=>hy x (List.mem_reverse.mp q)) (jT h)
 | z::zs,ys,s,r,a,hc,hl,hy,h=>by
  obtain ⟨hh,h⟩:=zGF (r:=r) h;refine ⟨hh,λW' G T cenv C he=>?_⟩;obtain ⟨ok0,e1,e2,e3⟩:=a.ok.enter (C:=C);have hlen:s.enter.n=(r++[C]).length:=ok0.len.symm;have ec:Jq (r++[C]) cs=Jq r cs:=yJ (λp hp=>a.ok.len▸hc p hp);have a0:At E ⟨cn,nm s.n,cs⟩ W' A cenv (r++[C]) s.enter:=⟨G,a.R,⟨by show EnvAt cenv cn (jL (r++[C]) (nm s.n)) (Jq (r++[C]) cs);rw [e3,ec];exact he⟩,⟨yE,λp hp=>(hc p hp).mono (Nat.le_succ _)⟩,ok0⟩;have wo:Ob.wf s.enter.n (.tup [.int (z.1:Int),.int z.2]):=λx hx=>by
   rcases List.mem_cons.mp hx with rfl | hx
   ·trivial
   ·obtain rfl:=List.mem_singleton.mp hx;trivial
  obtain ⟨ok1,f1,f2,f3⟩:=ok0.new (l:=T) wo;have a1:=a0.next ok1;have hA:=S.a (s:=s.enter.new (.tup [.int (z.1:Int),.int z.2])) (x:=.ref (nm s.enter.n)) h W' A cenv _ a1 yE;rw [f1,f2,e1,e2,show V.ren (r++[C]++[T]) (.ref (nm s.enter.n)) = .ref T from congrArg V.ref f3] at hA;refine As.lift hA λt s1 ok2 h=>Br.t (Ev.lift (S.e h W' A cenv _ (a1.next ok2)) λt2 y s2 ok3 wy h=>?_);replace h:=ZQ ok3 h;obtain ⟨ll,nn,e,ok4,h⟩:=h;have l0:s.n<=s.enter.n:=Nat.le_succ _;have le:s.n<=s2.n:=Nat.le_trans l0 (Nat.le_trans (Nat.le_succ _) (Nat.le_trans (ok1.le ok2) (ok2.le ok3)));have dC:jL (r++[C]++[T]++t++t2) (nm s.n)=C:=by
   have hw:wfA (r++[C]).length (nm s.n):=by rw [<- hlen];exact yE
   rw [List.append_assoc,List.append_assoc,zK hw];exact e3
  rw [e];show PopNs _ _ _ ((jL _ _,_)::_);rw [dC];refine ⟨yX (r++[C]++[T]++t++t2) ll,jK (r++[C]++[T]++t++t2) nn,_,Sel.refl _,?_⟩;have a3:At E fr W A env (r++[C]++[T]++t++t2) ⟨s2.o,nn,s2.n⟩:=by rw [List.append_assoc,List.append_assoc,List.append_assoc] at ok4 ⊢;exact a.next ok4
  have ecs:Jq (r++[C]++[T]++t++t2) cs=Jq r cs:=by rw [List.append_assoc,List.append_assoc,List.append_assoc];exact yJ (λp hp=>a.ok.len▸hc p hp)
  have el:jL (r++[C]++[T]++t++t2) l=jL r l:=by rw [List.append_assoc,List.append_assoc,List.append_assoc];exact zK (a.ok.len▸hl)
  have eys:(y::ys).map (V.ren (r++[C]++[T]++t++t2))=y.ren (r++[C]++[T]++t++t2)::ys.map (V.ren r):=by rw [List.map_cons,List.append_assoc,List.append_assoc,List.append_assoc,jf λx q=>a.ok.len▸hy x q]
  have:=ZS S a3 (λp hp=>(hc p hp).mono le) (hl.mono le) (λx hx=>(List.mem_cons.mp hx).elim (λq=>q▸wy) λq=>(hy x q).mono le) h;rw [ecs,el,eys] at this;exact CTurnsE.mono (λ_ _ _ q=>q.up.up.up.up) this
theorem zMK {is:List Int}:((List.range is.length).zip is).map (λz=>(z.1,V.int z.2))=(is.map V.int).mapIdx λi y=>(i,y):=by refine List.ext_getElem (by simp) λi h1 h2=>?_;simp
theorem zE2 (S:jU E F) {elt target iter:Expr}{ifs:List Expr}{scope:Scope}{K:V->SS->Tree}(a:At E fr W A env r s) (he:(yd E fr iter).elim false zCV=true) (h:(enS F E fr elt target iter ifs scope s K).holds):∃ cl,LcR E fr W A env r s elt target iter ifs scope K cl:=by
 refine jE h λp ep h=>jE h λe1 e1e h=>jE h λcl hcl h=>j1 h λq hE=>?_;rw [ep] at he;have he':p.1="enumerate":=eq_of_beq he;obtain ⟨T,es⟩:=p;subst he';obtain ⟨f,fp,pos,hx,hv,hp⟩:=Ja ep;obtain rfl:es=[e1]:=yI e1e;obtain ⟨q1,q⟩:=jP q;obtain ⟨q2,q⟩:=jP q;obtain ⟨q3,q⟩:=jP q;obtain ⟨q4,q5⟩:=jP q;obtain ⟨elts,c,tp,rfl⟩:=Vr (zGE target) q1;obtain rfl:=List.isEmpty_iff.mp q2;have hcw:=Y9 a.hf.2 (λ_ h=>absurd h List.not_mem_nil) hcl;refine ⟨_,Js hcl,eq_of_beq q3,λx hx hk=>?_,rfl,JY (λQ q=>zT a hx hv q) (J1 (Ev.lift (S.e hE W A env r a) λt x s1 ok wx hF=>Zb ?_)) hp⟩
 ·have:=List.all_eq_true.mp q4 x hx;rw [hk] at this;exact eq_of_beq (by simpa using this)
 refine jE hF λl el hG=>?_;obtain rfl:=jg el;refine jE hG λob eo h=>jE h λxs exs h=>jE h λis ei h=>j1 h λhz h=>?_;have hh:Has (jL (r++t) l) (.list (is.map V.int)) (jC (r++t) s1.o):=by have:=j7 (r:=r++t) eo;rw [y5 exs,z6 ei,show Ob.ren (r++t) (.list (is.map V.int)) = .list ((is.map V.int).map (V.ren (r++t))) from rfl,Ya] at this;exact this
 have cE:=ZS S (a.next ok) (λp hp=>(hcw p hp).mono (a.ok.le ok)) wx (λ_ h=>absurd h List.not_mem_nil) h;rw [zMK,Y8 (λp hp=>a.ok.len▸hcw p hp)] at cE;exact zL3 hh λe I=>CompQ.enumL a.R.handled .head .head (by rw [List.length_map];exact Nat.le_trans (Nat.le_of_ble_eq_true hz) (by decide)) (zDQ rfl).1 (zDQ rfl).2 q5 (CTurnsE.mono (λys o n q D=>Lift.up (ZA q)) cE)
theorem zBE (S:jU E F) {elt target iter:Expr}{ifs:List Expr}{scope:Scope}{K:V->SS->Tree}(a:At E fr W A env r s) (h:lcS F E fr elt target iter ifs scope s K):∃ cl,LcR E fr W A env r s elt target iter ifs scope K cl:=by
 unfold lcS at h;induction e:(yd E fr iter).elim false zCV using Bool.casesOn with
 | true=>rw [e] at h;exact zE2 S a e h
 | false=>rw [e] at h;exact zE1 S a h
theorem ZT (S:jU E F) {target:Expr}{body:List Stmt}{K:Fl->SS->Tree}:∀ {zs:List (V×V)}{s:SS}{r:List Addr},At E fr W A env r s->(∀ z ∈ zs,z.1.wf s.n/\z.2.wf s.n)->zFg F fr target body zs s K ->
  TurnsZF E.K E.mg E.mb A env target body (Lift RF r K) (zC1 r zs) (jC r s.o) (jK r s.ns)
 | [],s,r,a,_,h=>Lift.mk (R:=RF) (x:=.next) a.ok trivial h
 | (x,y)::zs,s,r,a,hx,h=>λT W' G=>by
  obtain ⟨wx,wy⟩:=hx _ (.head _);have wo:Ob.wf s.n (.tup [x,y]):=λz hz=>by
   rcases List.mem_cons.mp hz with rfl | hz
   ·exact wx
   ·obtain rfl:=List.mem_singleton.mp hz;exact wy
  obtain ⟨ok',e1,e2,e3⟩:=a.ok.new (l:=T) wo;have a2:=(a.world G).next ok'
  have:=S.a (s:=s.new (.tup [x,y])) (x:=.ref (nm s.n)) h W' A env _ a2 yE;rw [e1,e2,show V.ren (r++[T]) (.ref (nm s.n)) = .ref T from congrArg V.ref e3] at this;refine As.lift this λt s1 ok h W2 G2=>Es.lift (S.ss h W2 A env _ ((a2.next ok).world G2)) λt2 f s2 ok2 wf h=>?_;induction f with
  | next =>
   have le:s.n<=s2.n:=Nat.le_trans (Nat.le_succ _) (Nat.le_trans (ok'.le ok) (ok.le ok2));have e:zC1 r zs=zC1 (r++[T]++t++t2) zs:=by rw [List.append_assoc,List.append_assoc];exact (zGD λx q=>a.ok.len▸hx x (.tail _ q)).symm
   show TurnsZF E.K E.mg E.mb A env target body (Lift RF r K) (zC1 r zs) _ _;rw [e];exact TurnsZF.mono (λ_ _ _ q=>q.up.up.up) (ZT S ((((a.next ok').next ok).next ok2)) (λx q=>⟨(hx x (.tail _ q)).1.mono le,(hx x (.tail _ q)).2.mono le⟩) h)
  | ret v=>exact Lift.up (Lift.up (Lift.up (Lift.mk (R:=RF) (x:=.ret v) ok2 wf h)))
theorem zBF:∀ {xs ys:List V},zC1 r (xs.zip ys)=(xs.map (V.ren r)).zip (ys.map (V.ren r))
 | [],_=>rfl
 | _::_,[]=>rfl
 | x::xs,y::ys=>congrArg (_::·) (zBF (xs:=xs) (ys:=ys))
theorem zC2 (S:jU E F) {elts:List Expr}{c:Nat}{tp:Pos}{body:List Stmt}{l m:Addr}{xs ys:List V}{K:Fl->SS->Tree}{it:V}{z TI TO i1 i2:Addr}(a:At E fr W A env r s) (wl:wfA s.n l) (wm:wfA s.n m) (wx:∀ v ∈ xs,v.wf s.n) (wy:∀ v ∈ ys,v.wf s.n) (hl:xs.length=ys.length)
  (h:(zOV F fr (.Tuple elts c tp) body l m xs ys s K).holds) {Q:Fl->jA->jB->Prop} (kq:∀ f o n,Lift RF r K f o n->Q f o n) :
  ForQ W E.K E.mg E.mb A env (.Tuple elts c tp) body (.ref z) (Zq (jL r l) (jL r m) z TI TO i1 i2++(jC r s.o++[(jL r m,Ob.list (ys.map (V.ren r)))]++[(jL r l,Ob.list (xs.map (V.ren r)))])) (jK r s.ns) Q:=by
 have lp:=ZT S a (λz hz=>⟨wx _ (List.of_mem_zip hz).1,wy _ (List.of_mem_zip hz).2⟩) (jT h);rw [zBF] at lp;refine ForQ.zip a.R.handled (by rw [List.length_map,List.length_map];exact hl) (TurnsZF.turns (λo=>⟨.of_mem (by simp),.of_mem (by simp)⟩) (TurnsZF.mono (λf o n q=>?_) lp));exact kq _ _ _ (Jr (R:=RF) (by rw [a.ok.len];exact wl) (by rw [a.ok.len];exact wx) (Jr (R:=RF) (K:=λx s=>K x (QP (some (l,.list xs)) s)) (by rw [a.ok.len];exact wm) (by rw [a.ok.len];exact wy) (q.mono λ_ _ h=>Ze (Ze h))))
theorem zC3 (S:jU E F) {elts:List Expr}{c:Nat}{tp:Pos}{body:List Stmt}{l m:Addr}{K:Fl->SS->Tree}(a:At E fr W A env r s) (wl:wfA s.n l) (wm:wfA s.n m) (h:(zOW F fr (.Tuple elts c tp) body l m s K).holds) {Q:Fl->jA->jB->Prop}(kq:∀ f o n,Lift RF r K f o n->Q f o n) :
  Cl W A (.type "zip") [.ref (jL r l),.ref (jL r m)] (jC r s.o) (jK r s.ns) λit o n=>∃ o',o.Perm o'/\ForQ W E.K E.mg E.mb A env (.Tuple elts c tp) body it o' n Q:=by
 refine jE h ?_;clear h;intro q d1 h;refine jE h ?_;clear h;intro xs ex h;refine jE h ?_;clear h;intro q' d2 h;refine jE h ?_;clear h;intro ys ey h;refine j1 h ?_;clear h;intro qq h;obtain ⟨p1,m1,k1⟩:=zr (r:=r) d1;obtain ⟨p2,m2,k2⟩:=zr (r:=r) d2;rw [y5 ex] at p1 m1;rw [y5 ey] at p2 m2;have wxs:∀ v ∈ xs,v.wf s.n:=(a.ok.o _ m1).2;have wys:∀ v ∈ ys,v.wf s.n:=(a.ok.o _ (k1 _ m2)).2;have pp:=p1.trans (p2.append_right _);have ok3:SS.ok r ⟨q'.2,s.ns,s.n⟩:=⟨a.ok.len,λp hp=>a.ok.o p (k1 _ (k2 _ hp)),a.ok.ns⟩;exact zNt (.of_mem (pp.symm.subset (List.mem_append_right _ (.head _)))) (.of_mem (pp.symm.subset (List.mem_append_left _ (List.mem_append_right _ (.head _))))) λz TI TO i1 i2=>⟨_,pp.append_left (Zq (jL r l) (jL r m) z TI TO i1 i2),zC2 S (it:=.none) (a.put ok3) wl wm wxs wys (Nat.eq_of_beq_eq_true (jP qq).1) h kq⟩
theorem zAA (S:jU E F) {target e e':Expr}{f:Str}{body:List Stmt}{p ps pos:Pos}{K:Fl->SS->Tree}(a:At E fr W A env r s) (hx:fr.names.lookup f=some .globalImplicit) (hv:E.gl.lookup f=some (.ty "zip")) (hp:j0 [e,e']=true) (h:(zFk F fr target e e' body s K).holds) :
  Ex W A env (.For target (.Call (.Name f p) [e,e'] [] ps) body [] pos) (jC r s.o) (jK r s.ns) (Lift RF r K):=by
 refine j1 h ?_;clear h;intro ht h;obtain ⟨elts,c,tp,rfl⟩:=Vr (zGE target) ht;refine QJ a.G (Ev.post (JY (λQ q=>zT a hx hv q) (J1 (Ev.lift (S.e h W A env r a) λt x s1 ok wx h1=>J1 (Ev.lift (S.e h1 W A env _ (a.next ok)) λt2 y s2 ok2 wy h2=>Zb ?_))) hp)) (λ_=>rfl);clear h h1;refine jE h2 ?_;clear h2;intro l el h;refine jE h ?_;clear h;intro m em h;obtain rfl:=jg el;obtain rfl:=jg em;rw [show V.ren (r++t) (.ref l) = .ref (jL (r++t++t2) l) from congrArg V.ref (zK (ok.len▸wx)).symm];exact zC3 S ((a.next ok).next ok2) (V.wf.mono (x:=.ref l) wx (ok.le ok2)) wy h λ_ _ _ q=>q.up.up
theorem TurnsF.toB {K:Frag}{mg mb:Str->Option Value}{target:Expr}{body:List Stmt}{Q:Fl->jA->jB->Prop}:∀ {xs:List V}{o:jA}{n:jB},TurnsF K mg mb A env target body Q xs o n->Ql K mg mb A env target body Q xs o n
 | [],_,_,h=>h
 | x::r,_,_,h=>λW' G v hv=>Tr.mono (h W' G v hv) λ_ _ _ q=>Tr.mono (q W' G) λ_ _ _ q=>q.mono λy q=>by
  induction y with
  | next=>exact ⟨_,Sel.refl _,TurnsF.toB q⟩
  | ret z=>exact q
inductive COv (E:Est) (fr:Fr) (is:List Int):Expr->Prop
 | mk (x:Str) (p:Pos) (l:Addr) (h:fr.names.lookup x=some .globalImplicit) (g:E.gl.lookup x=some (.ref l)) (q:E.bt.lookup l=some is):COv E fr is (.Name x p)
theorem zBG (iter:Expr):(Jn E fr iter).elim True λis=>COv E fr is iter:=Y3 λx p e=>QW λhk v hv=>jV λl el=>YZ λis h=>e▸.mk x p l hk (by rw [hv,jg el]) h
theorem VQ {iter:Expr}{is:List Int}(h:Jn E fr iter=some is):COv E fr is iter:=(el (zBG iter) h :)
theorem zC4 (S:jU E F) {target iter:Expr}{body:List Stmt}{pos:Pos}{K:Fl->SS->Tree}(a:At E fr W A env r s) (h:(zLv F E fr target iter body s K).holds) :
  Ex W A env (.For target iter body [] pos) (jC r s.o) (jK r s.ns) (Lift RF r K):=by
 unfold zLv at h;induction e:Jn E fr iter using Option.casesOn with
 | none=>rw [e] at h;exact zEZ S a h
 | some is =>rw [e] at h;obtain ⟨x,p,l,hx,hv,hl⟩:=VQ e;obtain ⟨o,n,vs,h1,h2,h3,h4⟩:=E.hbt _ _ hl;refine QJ a.G (zT a hx hv ?_) (λ_=>rfl);have:=JK S a (λx hx=>by obtain ⟨i,_,rfl⟩:=List.mem_map.mp hx;exact trivial) (jT h);rw [j2] at this;exact ForQ.btup a.R.handled ⟨_,a.G.kin _ _ h1,h2,_,h3⟩ h4 this.toB
theorem zC5 (S:jU E F) {target iter:Expr}{body:List Stmt}{pos:Pos}{K:Fl->SS->Tree}(a:At E fr W A env r s) (h:(zLw F E fr target iter body s K).holds) :
  Ex W A env (.For target iter body [] pos) (jC r s.o) (jK r s.ns) (Lift RF r K):=by
 unfold zLw at h;induction e:(yd E fr iter).elim false λp=>p.1=="zip" using Bool.casesOn with
 | false=>rw [e] at h;exact zC4 S a h
 | true =>rw [e] at h;refine jE h ?_;clear h;intro zz0 et h;obtain ⟨T,es⟩:=zz0;refine jE h ?_;clear h;intro q eq h;rw [et] at e;obtain rfl:=eq_of_beq e;obtain rfl:=yL eq;obtain ⟨f,p,ps,hx,hv,hp⟩:=Ja et;exact zAA S a hx hv hp h
end
theorem zML (e:Expr):cond (y6 e) (∀ (name:Str) (env:Env) w,attributeBase e name env w=w) True:=by cases e<;>first | exact λ_ _ _=>rfl | exact trivial
theorem Yb {e:Expr}(name:Str) {apos pos:Pos}{es:List Expr}{env:Env}(h:y6 e=true) (hp:j0 es=true) (hn:Nat.blt es.length 30=true) (hl:(apos.endLine==pos.line)=true):∃ pl,eval (.Call (.Attribute e name apos) es [] pos) env=(do
   let ov <- eval e env
   standAt apos.atName
   let (f,first) <- holding [ov] (getMethod ov name pl)
   callWith pos f first (backTo pos (starEach es env)) (backToKw pos (keywordEach [] env))):=by
 have hf:methodCallForm (es.length + ([]:List Keyword).length) (backTo pos (starEach es env)) (backToKw pos (keywordEach [] env))=true:=by unfold methodCallForm;have h1:=zp (pos:=pos) (env:=env) hp;rw [show (backTo pos (starEach es env)).all (λx=>!x.1)=true by rw [List.all_eq_not_any_not];simp only [Bool.not_not];rw [h1];rfl];show (true&&true&&decide (es.length + 0 + (if [].isEmpty=true then 0 else 1) < 30))=true;have:=Nat.blt_eq.mp hn;simp;omega
 have hm:∀ e,methodCallPos true e env apos pos=pure pos:=λe=>by unfold methodCallPos;rw [hl];rfl
 refine ⟨do return (<- importBound e env).getD true,?_⟩;have key:∀ ov,methodCall e name apos pos env ov (es.length + ([]:List Keyword).length) (backTo pos (starEach es env)) (backToKw pos (keywordEach [] env))=(do
   let (f,first) <- holding [ov] (getMethod ov name (do return (<- importBound e env).getD true))
   callWith pos f first (backTo pos (starEach es env)) (backToKw pos (keywordEach [] env))):=λov=>by
  unfold methodCall calleeOf;rw [hf];simp only [hm];rfl
 have e1:eval (.Call (.Attribute e name apos) es [] pos) env=(do
   let ov <- attributeBase e name env (eval e env)
   standAt apos.atName
   methodCall e name apos pos env ov (es.length + ([]:List Keyword).length) (backTo pos (starEach es env)) (backToKw pos (keywordEach [] env))):=rfl
 rw [e1];simp only [key];rw [Vr (zML e) h name env]
section
variable {E:Est} {F:Yv} {C:zAp} {fr:Fr} {W W':Wd} {A:Around} {env:Env} {r t:List Addr} {s s1:SS} {o:jA} {n:jB}
theorem SS.ok.ren {x:V}(ok:s.ok r) (h:x.wf s.n):x.ren (r++t)=x.ren r:=V.ren_app (ok.len▸h)
theorem Tru.lift {x:V}{K:Bool->SS->Tree}{Q:Bool->jA->jB->Prop}(h:Tru W A x o n (Lift RB r K)) (k:∀ t x s,SS.ok (r++t) s->K x s->Q x (jC (r++t) s.o) (jK (r++t) s.ns)):Tru W A x o n Q :=
 Tru.mono h λ_ _ _ q=>q.elim λt _ s ok _=>k t _ s ok
theorem zMM (v:Expr):cond (Jm v) (∀ o r,letTemporaryGo v o r=pure ()) True:=by cases v<;>first | exact λ_ _=>rfl | exact trivial
theorem zBH {v:Expr}(h:Jm v=true):∀ o r,letTemporaryGo v o r=pure ():=Vr (zMM v) h
theorem zE3 (S:jU E F) {e x:Expr}{apos pos:Pos}{K:V->SS->Tree}(a:At E fr W A env r s) (hb:y6 e=true) (hl:(apos.endLine==pos.line)=true) (h:(zOX F E fr e x s K).holds):Ev W A env (.Call (.Attribute e "append" apos) [x] [] pos) (jC r s.o) (jK r s.ns) (Lift RV r K):=by
 refine j1 h ?_;clear h;intro hp h;obtain ⟨pl,he⟩:=Yb (env:=env) "append" hb hp rfl hl;refine zFF (Ev.lift (S.e h _ _ _ _ a) λt x s1 ok wx h=>?_) hp he;replace h:=yP h;obtain ⟨b,rfl,h⟩:=h;refine jE h ?_;clear h;intro ob e0 h;replace h:=Zz h;obtain ⟨xs0,rfl,h⟩:=h;refine ⟨_,rfl,⟨_,j7 (x:=.list xs0) e0⟩,Ev.lift (S.e h _ _ _ _ (a.next ok)) λt2 y s2 ok2 wy h=>?_⟩;replace h:=ye ok2 h;obtain ⟨xs,eg,_,hz,hw,h⟩:=h;replace h:=zMF h;have hw:∀ u ∈ xs++[y],u.wf s2.n:=λu hu=>(List.mem_append.mp hu).elim (hw u) λhu=>by rw [List.mem_singleton.mp hu];exact wy
 obtain ⟨o',P,L⟩:=yK (y:=.list (xs++[y])) ok2 eg hw h;rw [show jL (r++t++t2) b=jL (r++t) b from zK (ok.len▸wx),show Ob.ren (r++t++t2) (.list (xs++[y])) = .list (xs.map (V.ren (r++t++t2))++[y.ren (r++t++t2)]) by show Ob.list _=_;rw [List.map_append];rfl] at P;refine ⟨xs.map (V.ren (r++t++t2)),o',by rw [List.length_map];omega,P,?_⟩;exact L.elim (P:=λ_ o n=>Lift RV r K .none o n) λt3 _ s3 ok3 _ h=>Lift.up (Lift.up (Lift.up (Lift.mk (R:=RV) (x:=.none) ok3 trivial h)))
theorem zE4 (S:jU E F) {e:Expr}{apos pos:Pos}{K:V->SS->Tree}(a:At E fr W A env r s) (hb:y6 e=true) (hl:(apos.endLine==pos.line)=true) (h:(zOY F E fr e s K).holds):Ev W A env (.Call (.Attribute e "pop" apos) [] [] pos) (jC r s.o) (jK r s.ns) (Lift RV r K):=by obtain ⟨pl,he⟩:=Yb (env:=env) (es:=[]) "pop" hb rfl rfl hl;refine zNn (Ev.lift (S.e h _ _ _ _ a) λt x s1 ok wx h=>?_) he;replace h:=yP h;obtain ⟨b,rfl,h⟩:=h;refine jE h ?_;clear h;intro q eq h;refine jE h ?_;clear h;intro ob e0 h;replace h:=Zz h;obtain ⟨xs,rfl,h⟩:=h;obtain ⟨rfl,hz⟩:=SideP.p h;replace h:=SideP.q h;have hw:=(ok.get e0).1;obtain ⟨o',P,L⟩:=yK (y:=.list q.1) ok e0 (λu hu=>hw u (List.mem_append.mpr (.inl hu))) h;rw [show Ob.ren (r++t) (.list (q.1++[q.2])) = .list (q.1.map (V.ren (r++t))++[q.2.ren (r++t)]) by show Ob.list _=_;rw [List.map_append];rfl] at P;refine ⟨_,rfl,q.1.map (V.ren (r++t)),q.2.ren (r++t),o',by rw [List.length_append] at hz;rw [List.length_map];omega,P,?_⟩;have w2:q.2.wf s1.n:=hw q.2 (List.mem_append.mpr (.inr (List.mem_singleton.mpr rfl)));refine L.elim (P:=λ_ o n=>Lift RV r K (q.2.ren (r++t)) o n) λt3 _ s3 ok3 _ h=>?_;rw [<- ok.ren (t:=t3) w2];exact Lift.up (Lift.up (Lift.mk (R:=RV) ok3 (w2.mono (ok.le ok3)) h))
theorem zE5 (CS:zBB E C) (S:jU E F) {e:Expr}{name:Str}{es:List Expr}{apos pos:Pos}{K:V->SS->Tree}(a:At E fr W A env r s) (hb:y6 e=true) (hn:Nat.blt es.length 30=true) (hl:(apos.endLine==pos.line)=true) (h:(zOZ F C E fr e name es s K).holds):Ev W A env (.Call (.Attribute e name apos) es [] pos) (jC r s.o) (jK r s.ns) (Lift RV r K):=by
 refine jE h ?_;clear h;intro f hf h;refine j1 h ?_;clear h;intro hp h;obtain ⟨m1,m2,m3,m4⟩:=E.hmt _ _ hf;obtain ⟨pl,he⟩:=Yb (env:=env) name hb hp hn hl;refine zII a.G m1 m2 m3 m4 (Ev.lift (S.e h _ _ _ _ a) λt x s1 ok wx h=>?_) hp he;replace h:=zCZ h;obtain ⟨b,d,kvs,rfl,e0,e1,h⟩:=h;refine j1 h ?_;clear h;intro hk h;refine MethAt.mk (j7 e0) (j7 e1) (by show List.lookup name (yX (r++t) kvs)=none;rw [J2,Option.isNone_iff_eq_none.mp hk];rfl) (Evs.lift (S.es h _ _ _ _ (a.next ok)) λt2 xs s2 ok2 wf h=>?_);have:=CS h W A _ a.G a.R ok2 (λx hx=>by
  rcases List.mem_cons.mp hx with rfl | hx
  ·exact wx.mono (ok.le ok2)
  ·exact wf x hx)
 rw [List.map_cons,ok.ren wx] at this;exact Cl.mono this λ_ _ _ q=>q.up.up
theorem zC6 (CS:zBB E C) (S:jU E F) {e:Expr}{name:Str}{es:List Expr}{apos pos:Pos}{K:V->SS->Tree}(a:At E fr W A env r s) (hb:(y6 e&&(Nat.blt es.length 30&&(apos.endLine==pos.line)))=true) (h:(zFl F C E fr e name es s K).holds):Ev W A env (.Call (.Attribute e name apos) es [] pos) (jC r s.o) (jK r s.ns) (Lift RV r K):=by
 obtain ⟨b1,b2⟩:=jP hb;obtain ⟨b2,b3⟩:=jP b2;unfold zFl at h;induction e1:name==("append":Str) using Bool.casesOn with
 | true =>rw [e1] at h;obtain rfl:=eq_of_beq e1;replace h:=VA h;obtain ⟨x,rfl,h⟩:=h;exact zE3 S a b1 b3 h
 | false =>
  rw [e1] at h;induction e2:name==("pop":Str) using Bool.casesOn with
  | true =>rw [e2] at h;obtain rfl:=eq_of_beq e2;refine j1 h ?_;clear h;intro q h;obtain rfl:=List.isEmpty_iff.mp q;exact zE4 S a b1 b3 h
  | false=>rw [e2] at h;exact zE5 CS S a b1 b2 b3 h
theorem zI3 (e:Expr):cond (Jm e) (∀ (name:Str) (env:Env) w,attributeBase e name env w=w) True:=by cases e<;>first | exact λ_ _ _=>rfl | exact trivial
theorem zGG {v:Expr}{attr:Str}(h:Jm v=true):∀ w,attributeBase v attr env w=w:=Vr (zI3 v) h attr env
theorem GetA.mono {x:V}{m:Str}{Q Q':V->jA->jB->Prop}(h:GetA W A x m o n Q) (k:∀ x o n,Q x o n->Q' x o n):GetA W A x m o n Q':=λa ha=>Tv.mono (h a ha) k
theorem SetA.mono {x y:V}{m:Str}{Q Q':jA->jB->Prop}(h:SetA W A x m y o n Q) (k:∀ o n,Q o n->Q' o n):SetA W A x m y o n Q':=λa b ha hb=>Tr.mono (h a b ha hb) λ_=>k
theorem VR (CS:zBB E C) (S:jU E F) {f:Str}{es:List Expr}{p pos:Pos}{K:V->SS->Tree}(a:At E fr W A env r s) (hp:j0 es=true) (h:(zAu F C E fr f es s K).holds):Ev W A env (.Call (.Name f p) es [] pos) (jC r s.o) (jK r s.ns) (Lift RV r K):=by
 refine jE h ?_;clear h;intro k hx h;refine j1 h ?_;clear h;intro hk h;obtain rfl:=eq_of_beq hk;refine jE h ?_;clear h;intro v hv h;refine j1 h ?_;clear h;intro hc h;have key:Evs W A env es (jC r s.o) (jK r s.ns) λxs o n=>∃ fv,zO2 v=some fv/\Cl W A fv xs o n (Lift RV r K) :=
  Evs.lift (S.es h _ _ _ _ a) λt xs s1 ok wf h=>by obtain ⟨fv,e,c⟩:=zC0 CS a.G a.R ok wf h;exact ⟨fv,e,Cl.mono c λ_ _ _ q=>q.up⟩
 induction v with
 | ref f=>exact JD a.G (λQ q=>zT a hx hv q) (E.hfn _ hc) (Evs.mono key λ_ _ _ ⟨fv,e,c⟩=>by obtain rfl:=Option.some.inj e;exact c) hp
 | bi f=>exact zA6 (λQ q=>zT a hx hv q) (Evs.mono key λ_ _ _ ⟨fv,e,c⟩=>by obtain rfl:=Option.some.inj e;exact c) hp
 | ty f=>exact JY (λQ q=>zT a hx hv q) (Evs.mono key λ_ _ _ ⟨fv,e,c⟩=>by obtain rfl:=Option.some.inj e;exact c) hp
 | _=>contradiction
theorem zBI (CS:zBB E C) (S:jU E F) {f:Expr}{es:List Expr}{pos:Pos}{K:V->SS->Tree}(a:At E fr W A env r s) (h:(zJu F C E fr f es pos s K).holds):Ev W A env (.Call f es [] pos) (jC r s.o) (jK r s.ns) (Lift RV r K):=by
 induction f using Expr.casesOn with
 | Name f p=>exact VR CS S a (Vv h).1 (Vv h).2
 | Attribute o name apos=>exact zC6 CS S a (Vv h).1 (Vv h).2
 | _=>exact False.elim h
theorem zI4 (e:Expr):(Zd e).elim True λq=>∃ p,e = .Slice q.1 q.2 none p:=zAm λa b c p e=>by
 induction c using Option.casesOn with
 | none=>exact ⟨p,e⟩
 | some _=>exact trivial
theorem zC7 {e:Expr}{q:Option Expr×Option Expr}(h:Zd e=some q):∃ p,e = .Slice q.1 q.2 none p:=(el (zI4 e) h :)
theorem zE6 (S:jU E F) {v:Expr}{lo up:Option Expr}{p pos:Pos}{K:V->SS->Tree}(a:At E fr W A env r s) (h:(zLx F E fr v lo up s K).holds):Ev W A env (.Subscript v (.Slice lo up none p) pos) (jC r s.o) (jK r s.ns) (Lift RV r K):=by
 refine jE h ?_;clear h;intro u rfl h;refine jE h ?_;clear h;intro b eb h;obtain ⟨k,p2,rfl⟩:=el (JL _) eb;induction lo using Option.casesOn with
 | none =>refine j1 h ?_;clear h;intro q h;refine zFY (Ev.lift (S.e h _ _ _ _ a) λt x s1 ok wx h=>?_) (of_decide_eq_true q);replace h:=yP h;obtain ⟨l,rfl,h⟩:=h;replace h:=ye ok h;obtain ⟨xs,_,hl,hz,hw,h⟩:=h;refine SlToAt.mk hl (by rw [List.length_map];omega) rfl λc=>?_;rw [<- List.map_take];exact Lift.up (yR (ob:=.list (xs.take b.toNat)) ok (λx hx=>hw x (List.mem_of_mem_take hx)) (jT h))
 | some w =>refine jE h ?_;clear h;intro b0 e0 h;obtain ⟨k0,p0,rfl⟩:=el (JL _) e0;refine j1 h ?_;clear h;intro q h;obtain ⟨q1,q2⟩:=jP q;have q1:=of_decide_eq_true q1;refine zIJ (Ev.lift (S.e h _ _ _ _ a) λt x s1 ok wx h=>?_) q1.1 q1.2 (zBH q2);replace h:=yP h;obtain ⟨l,rfl,h⟩:=h;replace h:=ye ok h;obtain ⟨xs,_,hl,hz,hw,h⟩:=h;refine j1 h ?_;clear h;intro hb h;refine SlAtAt.mk hl (by rw [List.length_map];omega) (by rw [List.length_map];exact of_decide_eq_true hb) rfl λc=>?_;rw [<- List.map_drop,<- List.map_take];exact Lift.up (yR (ob:=.list ((xs.drop b0.toNat).take (b.toNat - b0.toNat))) ok (λx hx=>hw x (List.mem_of_mem_drop (List.mem_of_mem_take hx))) (jT h))
theorem zBJ {x:V}{K:Bool->SS->Tree}(h:(Qu x s K).holds):(Qu x s λb s=>.side (x.truth=some b) (K b s)).holds:=jE h λb eb h=>yn eb ⟨eb,h⟩
theorem zGH {x:V}(h:x.truth=some false):x.unT=x:=by cases x<;>first | rfl | exact congrArg V.bool (Option.some.inj h).symm
theorem zBK (S:jU E F) {op:BoolOp}{p:Pos}{K:V->SS->Tree}(a:At E fr W A env r s):∀ {es:List Expr},(zJw F fr op p es s K).holds->Ev W A env (.BoolOp op es p) (jC r s.o) (jK r s.ns) (Lift RV r K)
 | [],h=>False.elim h
 | [e],h=>zEt (S.e h _ _ _ _ a)
 | e::e2::r',h=>by
  replace h:(F.e fr e s λx s=>Qu x s λb s=>zJv F fr op p (e2::r') K x b s).holds:=h;have key:=Ev.lift (Q:=λx o n=>Tru W A x o n λb o n=>match op with
   | .And=>Br b (Ev W A env (.BoolOp .And (e2::r') p) o n (Lift RV r K)) (Lift RV r K x o n)
   | .Or=>Br b (Lift RV r K x o n) (Ev W A env (.BoolOp .Or (e2::r') p) o n (Lift RV r K))) (S.e h _ _ _ _ a) λt x s1 ok wx h=>Tru.lift (Jp ok (zBJ h)) λt2 b s2 ok2 h=>yY h λeb h=>by
    have k1:(K x s2).holds->Lift RV r K (x.ren (r++t)) (jC (r++t++t2) s2.o) (jK (r++t++t2) s2.ns):=λh=>by rw [<- ok.ren (t:=t2) wx];exact Lift.up (Lift.up (Lift.mk (R:=RV) ok2 (wx.mono (ok.le ok2)) h))
    have k2:∀ {e:Expr},(F.e fr e s2 K).holds->Ev W A env e (jC (r++t++t2) s2.o) (jK (r++t++t2) s2.ns) (Lift RV r K):=λh=>Ev.mono (S.e h _ _ _ _ ((a.next ok).next ok2)) λ_ _ _ q=>q.up.up;cases op with
    | And=>cases b with
     | true=>exact Br.t (k2 h)
     | false=>exact Br.neg rfl (k1 (zGH eb▸h))
    | Or=>exact brS.br (zc h) k1 k2
  cases op with
  | And=>exact zJa key
  | Or=>exact zPi key
theorem VS (S:jU E F) {l:Expr}{ops:List CmpOp}{rs:List Expr}{K:V->SS->Tree}(a:At E fr W A env r s) (h:(zLy F E fr l ops rs s K).holds):∃ op r0,ops=[op]/\rs=[r0]/\behindInMarks op r0=false /\
  Ev W A env l (jC r s.o) (jK r s.ns) λx o n=>Ev W A env r0 o n λy o n=>Cmp W A op x y o n (Lift RV r K):=by
 replace h:=VA h;obtain ⟨op,rfl,h⟩:=h;replace h:=VA h;obtain ⟨r0,rfl,h⟩:=h;refine j1 h ?_;clear h;intro hm h;refine ⟨op,r0,rfl,rfl,(Bool.not_eq_true' _).mp hm,Ev.lift (S.e h _ _ _ _ a) λt x s1 ok wx h=>Ev.lift (S.e h _ _ _ _ (a.next ok)) λt2 y s2 ok2 wy h=>?_⟩;rw [<- ok.ren (t:=t2) wx];exact Cmp.mono (zEU a.G a.R ok2 h) λ_ _ _ q=>q.up.up
theorem zMN (c:Const):(zOQ c).elim True λi=>c = .str i:=by cases c<;>first | exact rfl | exact trivial
theorem zMO (e:Expr):(zOR e).elim True λi=>∃ k p,e = .Constant (.str i) k p:=ZO λc k p e=>YZ λi h=>⟨k,p,el (zMN c) h▸e⟩
theorem QZ:∀ keys:List (Option Expr),(Y6 keys).elim True λks=>ZL keys ks
 | []=>.nil
 | none::_=>trivial
 | some e::r=>jV λk hk=>jV λl hl=>(el (zMO e) hk).elim λn h=>h.elim λp h=>by rw [h];exact .cons (el (QZ r) hl)
theorem VT {keys:List (Option Expr)}{ks:List Str}(h:Y6 keys=some ks):ZL keys ks:=(el (QZ keys) h :)
theorem Q0:∀ keys:List (Option Expr),(Y7 keys).elim True λks=>ZM keys ks
 | []=>.nil
 | none::_=>trivial
 | some e::r=>jV λk hk=>jV λl hl=>(el (JL e) hk).elim λn h=>h.elim λp h=>by rw [h];exact .cons (el (Q0 r) hl)
theorem VU {keys:List (Option Expr)}{ks:List Int}(h:Y7 keys=some ks):ZM keys ks:=(el (Q0 keys) h :)
theorem zBL {α:Type} [BEq α] [LawfulBEq α]:∀ {l:List α},zCT l=true->l.Nodup
 | [],_=>.nil
 | x::r,h=>by obtain ⟨h1,h2⟩:=jP h;exact List.nodup_cons.mpr ⟨λq=>(by rw [List.contains_iff_mem.mpr q] at h1;cases h1),zBL h2⟩
theorem zMP (ob:Ob):cond (zLz ob) (ob = .sdict []) True:=by
 cases ob with
 | sdict l=>cases l<;>first | exact rfl | exact trivial
 | _=>exact trivial
theorem zI5 (ob:Ob) (h:zLz ob=true):ob = .sdict []:=Vr (zMP ob) h
theorem zMQ (ob:Ob):cond (zMA ob) (ob = .idict []) True:=by
 cases ob with
 | idict l=>cases l<;>first | exact rfl | exact trivial
 | _=>exact trivial
theorem zI6 (ob:Ob) (h:zMA ob=true):ob = .idict []:=Vr (zMQ ob) h
theorem ZU {α:Type} [BEq α] [LawfulBEq α] (S:jU E F) {mk:List (α×V)->Ob}{isN:Ob->Bool}(hN:∀ ob,isN ob=true->ob=mk []) (hm:∀ r l,(mk l).ren r=mk (l.map λp=>(p.1,p.2.ren r))) (hw:∀ n l,(∀ p ∈ l,p.2.wf n)->(mk l).wf n) {ks:List α}{values:List Expr}{K:V->SS->Tree}(a:At E fr W A env r s) (h:(zFm F fr mk isN ks values s K).holds) :
  ks.Nodup/\ks.length=values.length/\ks≠[]/\ks.length<=15/\∀ d,Evs W A env values ((d,mk [])::jC r s.o) (jK r s.ns) λxs o n=>∃ o',Put d (mk []) (mk (ks.zip xs)) o o'/\Lift RV r K (.ref d) o' n:=by
 refine j1 h ?_;clear h;intro q h;obtain ⟨q1,q⟩:=jP q;obtain ⟨q2,q⟩:=jP q;obtain ⟨q3,q4⟩:=jP q;refine ⟨zBL q1,Nat.eq_of_beq_eq_true q2,λe=>(by rw [e] at q3;cases q3),Nat.le_of_ble_eq_true q4,λd=>?_⟩;obtain ⟨ok',e1,e2,e3⟩:=a.ok.new (ob:=mk []) (l:=d) (hw _ _ (λ_ h=>absurd h List.not_mem_nil));have hm0:(mk []).ren r=mk []:=hm r [];rw [hm0] at e1;rw [<- e1,<- e2];refine Evs.lift (S.es (s:=s.new (mk [])) h _ _ _ _ (a.next ok')) λt xs s1 ok wf h=>?_;refine jE h ?_;clear h;intro ob eo h;refine j1 h ?_;clear h;intro qn h;have wz:∀ p ∈ ks.zip xs,p.2.wf s1.n:=λp hp=>wf _ (List.of_mem_zip hp).2;obtain ⟨o',P,L⟩:=yK (y:=mk (ks.zip xs)) ok eo (hw _ _ wz) (jT h);have hd:jL (r++[d]++t) (nm s.n)=d:=by rw [zK (ok'.len.symm▸yE)];exact e3
 rw [hd,hm,show ((ks.zip xs).map λp=>(p.1,p.2.ren (r++[d]++t)))=ks.zip (xs.map (V.ren (r++[d]++t))) from (List.zip_map_right ..).symm] at P;rw [hN _ qn,show (mk []).ren (r++[d]++t)=mk [] from hm _ []] at P;refine ⟨o',P,?_⟩
 ·refine L.elim (P:=λ_ o n=>Lift RV r K (.ref d) o n) λt3 _ s3 ok3 _ h=>?_;have hd3:jL (r++[d]++t++t3) (nm s.n)=d:=by rw [zK (ok.len.symm▸wfA.mono yE (ok'.le ok))];exact hd
  have:=Lift.up (Lift.up (Lift.up (Lift.mk (R:=RV) (x:=.ref (nm s.n)) ok3 (wfA.mono yE (Nat.le_trans (ok'.le ok) (ok.le ok3))) h)));rw [show RV.ren (r++[d]++t++t3) (.ref (nm s.n)) = .ref d from congrArg V.ref hd3] at this;exact this
theorem zBM (S:jU E F) {keys:List (Option Expr)}{values:List Expr}{pos:Pos}{K:V->SS->Tree}(a:At E fr W A env r s) (h:(zFn F fr keys values s K).holds):Ev W A env (.Dict keys values pos) (jC r s.o) (jK r s.ns) (Lift RV r K):=by
 unfold zFn at h;induction e:Y6 keys using Option.casesOn with
 | some ks =>rw [e] at h;replace h:=ZU S (mk:=.sdict) zI5 (λ_ _=>rfl) (λ_ _ h=>h) a h;obtain ⟨h1,h2,h3,h4,h⟩:=h;have hl:=(QH (VT e)).2;exact zHq a.G (VT e) h1 (hl.trans h2) (λq=>h3 (List.length_eq_zero_iff.mp (by rw [<- hl,q];rfl))) (by omega) h
 | none =>
  rw [e] at h;induction e:Y7 keys using Option.casesOn with
  | none=>rw [e] at h;exact False.elim h
  | some ks =>rw [e] at h;replace h:=ZU S (mk:=.idict) zI6 (λ_ _=>rfl) (λ_ _ h=>h) a h;obtain ⟨h1,h2,h3,h4,h⟩:=h;have hl:=(QI (VU e)).2;exact zHr a.G (VU e) h1 (hl.trans h2) (λq=>h3 (List.length_eq_zero_iff.mp (by rw [<- hl,q];rfl))) (by omega) h
theorem Q1 {g:List Comprehension}{p:Expr×Expr×List Expr}(h:zCS g=some p):g=[⟨p.1,p.2.1,p.2.2,0⟩]:=by
 exact jH h λc e k=>by
  rw [yI e];clear e;induction c using Comprehension.casesOn with
  | mk t i f a =>
   induction q:a==0 using Bool.casesOn with
   | false=>replace k:cond (a==0) (some (t,i,f)) none=some p:=k;rw [q] at k;contradiction
   | true =>replace k:cond (a==0) (some (t,i,f)) none=some p:=k;rw [q] at k;obtain rfl:=Option.some.inj k;rw [eq_of_beq q]
theorem zBN (CS:zBB E C) (S:jU E F) {e:Expr}{K:V->SS->Tree}(a:At E fr W A env r s) (h:(zJx F C E fr e s K).holds):Ev W A env e (jC r s.o) (jK r s.ns) (Lift RV r K):=by
 have ha:=a.he.h;induction e using Expr.casesOn with
 | Name=>exact VI a h
 | Constant=>exact zAv a h
 | BinOp l op r0 p =>refine YU (Ev.lift (S.e h _ _ _ _ a) λt x s1 ok wx h=>Ev.lift (S.e h _ _ _ _ (a.next ok)) λt2 y s2 ok2 wy h=>?_);rw [<- ok.ren (t:=t2) wx];exact Bin.mono (QS ok2 h) λ_ _ _ q=>q.up.up
 | Compare l ops rs p =>replace h:=VS S a h;obtain ⟨op,r0,rfl,rfl,hm,h⟩:=h;exact QF h hm
 | BoolOp op es p=>exact zBK S a h
 | IfExp t b e p =>exact zDE (Bo.lift (S.b h _ _ _ _ a) λt b s1 ok h=>brS.br (zc h) (λh=>Ev.mono (S.e h _ _ _ _ (a.next ok)) λ_ _ _ q=>q.up) (λh=>Ev.mono (S.e h _ _ _ _ (a.next ok)) λ_ _ _ q=>q.up))
 | Tuple es c p =>refine j1 h ?_;clear h;intro q h;obtain ⟨q1,q2⟩:=jP q;exact zDF (Evs.lift (S.es h _ _ _ _ a) λt xs s1 ok wf h b=>Lift.up (yR (ob:=.tup xs) ok wf h)) q1 (by have:=Nat.le_of_ble_eq_true q2;omega)
 | List es c =>refine j1 h ?_;clear h;intro q h;obtain ⟨q1,q2⟩:=jP q;exact zBv (Evs.lift (S.es h _ _ _ _ a) λt xs s1 ok wf h b=>Lift.up (yR (ob:=.list xs) ok wf h)) q1 (by have:=Nat.le_of_ble_eq_true q2;omega)
 | Subscript v i p =>
  replace h:(cond (Y4 i) (jS (Zd i) λp=>zLx F E fr v p.1 p.2 s K) (F.e fr v s λx s=>F.e fr i s λj s=>zFa E x j s K)).holds:=h;induction hi:Y4 i using Bool.casesOn with
  | true =>rw [hi] at h;refine jE h ?_;clear h;intro q eq h;obtain ⟨p,rfl⟩:=zC7 eq;exact zE6 S a h
  | false =>rw [hi] at h;refine zJd (Ev.lift (S.e h _ _ _ _ a) λt x s1 ok wx h=>Ev.lift (S.e h _ _ _ _ (a.next ok)) λt2 y s2 ok2 wy h=>?_);rw [<- ok.ren (t:=t2) wx];exact Sub.mono (zCY ok2 hi h) λ_ _ _ q=>q.up.up
 | Call f es ks pos =>refine j1 h ?_;clear h;intro q h;obtain rfl:=List.isEmpty_iff.mp q;exact zBI CS S a h
 | Attribute o name p =>refine j1 h ?_;clear h;intro hn h;exact zCC (Ev.lift (S.e h _ _ _ _ a) λt y s1 ok wy h=>GetA.mono (Vz a.G ok h) λ_ _ _ q=>q.up) (zGG hn) (zBH hn)
 | ListComp elt gens scope p =>refine jE h ?_;clear h;intro g eg h;obtain rfl:=Q1 eg;obtain ⟨cl,h1,h2,h3,h4,h5⟩:=zBE S a h;exact zHv a.G ha h1 h5 h2 h3 (JM h4)
 | Dict keys values p=>exact zBM S a h
 | _=>exact False.elim h
end
section
variable {E:Est} {F:Yv} {C:zAp} {fr:Fr} {W W':Wd} {A:Around} {env:Env} {r t:List Addr} {s s1:SS} {o:jA} {n:jB}
theorem Bo.mono {e:Expr}{Q Q':Bool->jA->jB->Prop}(h:Bo W A env e o n Q) (k:∀ x o n,Q x o n->Q' x o n):Bo W A env e o n Q':=Tr.mono h k
theorem Yc (S:jU E F) {e:Expr}{K:Bool->SS->Tree}(a:At E fr W A env r s) (h:F.e fr e s λz s=>Qu z s K) (he:∀ whole,isTrue e env whole=(do let v <- whole;standAt e.pos;holding [v] (truthy v))):Bo W A env e (jC r s.o) (jK r s.ns) (Lift RB r K) :=
 YV (Ev.lift (S.e h _ _ _ _ a) λt x s1 ok wx h=>Tru.mono (Jp ok h) λ_ _ _ q=>q.up) he
theorem zBO (S:jU E F) {e:Expr}{K:Bool->SS->Tree}(a:At E fr W A env r s) (h:(zJy F E fr e s K).holds):Bo W A env e (jC r s.o) (jK r s.ns) (Lift RB r K):=by
 induction e using Expr.casesOn with
 | Compare l ops rs p =>replace h:=VS S a h;obtain ⟨op,r0,rfl,rfl,hm,h⟩:=h;exact Zm (Ev.mono h λ_ _ _ q=>Ev.mono q λ_ _ _ q=>Cmp.mono q λ_ _ _ q=>q.elim (P:=λx o n=>Tru W A x o n (Lift RB r K)) λt z s1 ok wz h=>Tru.mono (Jp ok h) λ_ _ _ q=>q.up) hm
 | UnaryOp op x p=>induction op with
  | Not=>exact zBt (Bo.lift (S.b h _ _ _ _ a) λt b s1 ok h=>Lift.up (J8 ok h))
  | _=>exact False.elim h
 | BoolOp op es p=>induction es using List.casesOn with
  | nil=>induction op with
   | And=>exact QG (J8 a.ok h)
   | Or=>exact zEs (J8 a.ok h)
  | cons x r0=>induction op with
   | And=>exact Zn (Bo.lift (S.b h _ _ _ _ a) λt b s1 ok h=>brS.br (zc h) (λh=>Bo.mono (S.b h _ _ _ _ (a.next ok)) λ_ _ _ q=>q.up) λh=>Lift.up (J8 ok h))
   | Or=>exact zN8 (Bo.lift (S.b h _ _ _ _ a) λt b s1 ok h=>brS.br (zc h) (λh=>Lift.up (J8 ok h)) λh=>Bo.mono (S.b h _ _ _ _ (a.next ok)) λ_ _ _ q=>q.up)
 | Name=>exact Yc S a h λ_=>rfl
 | BinOp=>exact Yc S a h λ_=>rfl
 | Call=>exact Yc S a h λ_=>rfl
 | Subscript=>exact Yc S a h λ_=>rfl
 | Attribute=>exact Yc S a h λ_=>rfl
 | _=>exact False.elim h
theorem zAB (S:jU E F) {es:List Expr}{K:List V->SS->Tree}(a:At E fr W A env r s) (h:(zFo F fr es s K).holds):Evs W A env es (jC r s.o) (jK r s.ns) (Lift RVs r K):=by
 induction es using List.casesOn with
 | nil=>exact Zb (Lift.mk (R:=RVs) (x:=[]) a.ok (λ_ h=>absurd h List.not_mem_nil) h)
 | cons e es =>refine J1 (Ev.lift (S.e h _ _ _ _ a) λt x s1 ok wx h=>Evs.lift (S.es h _ _ _ _ (a.next ok)) λt2 xs s2 ok2 wf h=>?_);rw [<- ok.ren (t:=t2) wx];exact Lift.up (Lift.up (Lift.mk (R:=RVs) (x:=x::xs) ok2 (List.forall_mem_cons.mpr ⟨wx.mono (ok.le ok2),wf⟩) h))
theorem zBP (S:jU E F) {e:Expr}{x:V}{K:Unit->SS->Tree}(a:At E fr W A env r s) (hx:x.wf s.n) (h:(zJz F E fr e x s K).holds):As W A env e (x.ren r) (jC r s.o) (jK r s.ns) λo n=>Lift RU r K () o n:=by
 induction e using Expr.casesOn with
 | Name=>exact JC (ZP a.he a.ok hx h)
 | Subscript o i p =>
  refine zHp (Ev.lift (S.e h _ _ _ _ a) λt y s1 ok wy h=>Ev.lift (S.e h _ _ _ _ (a.next ok)) λt2 j s2 ok2 wj h=>?_);rw [<- ok.ren (t:=t2) wy];have e:x.ren r=x.ren (r++t++t2):=by rw [List.append_assoc];exact (a.ok.ren hx).symm
  rw [e];exact SetI.mono (Vy ok2 (hx.mono (Nat.le_trans (a.ok.le ok) (ok.le ok2))) h) λ_ _ q=>q.up.up
 | Attribute o m p =>refine YW (Ev.lift (S.e h _ _ _ _ a) λt y s1 ok wy h=>?_);rw [<- a.ok.ren (t:=t) hx];exact SetA.mono (QA a.G ok (hx.mono (a.ok.le ok)) h) λ_ _ q=>q.up
 | Tuple ts c p =>refine j1 h ?_;clear h;intro hp h;replace h:=yP h;obtain ⟨T,rfl,h⟩:=h;refine jE h ?_;clear h;intro ob e h;replace h:=zOI h;obtain ⟨xs,rfl,h⟩:=h;refine j1 h ?_;clear h;intro hl h;exact zHy a.R.handled (j7 (x:=.tup xs) e) (by rw [List.length_map];exact Nat.eq_of_beq_eq_true hl) (QU S a (a.ok.get e).1 h) hp
 | _=>exact False.elim h
theorem CompQ.mono {K:Frag}{mg mb:Str->Option Value}{cn names:List (Str×NameKind)}{cl:List (Str×Addr)}{elt target:Expr}{ifs:List Expr}{x:V}{Q Q':List V->jA->jB->Prop}(k:∀ ys o n,Q ys o n->Q' ys o n) (h:CompQ W K mg mb A cn names cl elt target ifs x o n Q):CompQ W K mg mb A cn names cl elt target ifs x o n Q':=by obtain ⟨o1,cnt,need,Val,hi,hc,hl⟩:=h;exact ⟨o1,cnt,need,Val,hi,hc,LayQ.mono (λcs o ⟨Inv,a,b,c⟩=>⟨Inv,a,b,λys o n q=>⟨(c ys o n q).1,k _ _ _ (c ys o n q).2⟩⟩) hl⟩
theorem zGI {scope:Scope}{elt:Expr}{gens:List Comprehension}{x:Str}{px p:Pos}{ln:Nat}{names:List (Str×NameKind)}{L:Addr}{cells:List (Str×Addr)}(he:EnvAt env names L cells) :
  ∃ b,swapsWith (.ListComp elt gens scope p) (some (.Name x px)) ln env=pure b:=by
 have hb:env.blockKind = .function:=by unfold Env.blockKind;rw [he.kind];rfl
 have hk:env.kindOf x=names.lookup x:=by unfold Env.kindOf;rw [he.names]
 unfold swapsWith;simp only [hb,hk];exact ⟨_,rfl⟩
theorem ZV (S:jU E F) {t:Expr}{x:V}{K:Fl->SS->Tree}(a:At E fr W A env r s) (hx:x.wf s.n) (h:(J7 F fr t K x s).holds):As W A env t (x.ren r) (jC r s.o) (jK r s.ns) (Lift RF r K .next) :=
 As.lift (S.a h _ _ _ _ a hx) λt2 s2 ok2 h=>Lift.up (Lift.mk (R:=RF) (x:=.next) ok2 trivial h)
theorem zt (S:jU E F) {v t:Expr}{K:Fl->SS->Tree}(a:At E fr W A env r s) (h:(F.e fr v s (J7 F fr t K)).holds):Ev W A env v (jC r s.o) (jK r s.ns) λx o n=>As W A env t x o n (Lift RF r K .next) :=
 Ev.lift (S.e h _ _ _ _ a) λt2 x s1 ok wx h=>(λv hv=>Tr.mono (ZV S (a.next ok) wx h v hv) λ_ _ _ q=>q.up)
theorem zC8 (S:jU E F) {elt target iter:Expr}{ifs:List Expr}{scope:Scope}{tx:Str}{tp p pos:Pos}{K:Fl->SS->Tree}(a:At E fr W A env r s) (h:(lcS F E fr elt target iter ifs scope s (J7 F fr (.Name tx tp) K)).holds) :
  Ex W A env (.Assign [.Name tx tp] (.ListComp elt [⟨target,iter,ifs,0⟩] scope p) pos) (jC r s.o) (jK r s.ns) (Lift RF r K):=by
 have ha:=a.he.h;have nxt:∀ {x:V} {o:jA} {n:jB},Lift RV r (J7 F fr (.Name tx tp) K) x o n->∀ W',Gr W' E.K E.mg E.mb->As W' A env (.Name tx tp) x o n (Lift RF r K .next):=by intro x o n q W' G';exact q.elim (P:=λx o n=>As W' A env (.Name tx tp) x o n (Lift RF r K .next)) λt x0 s' ok wf h v hv=>Tr.mono (ZV S ((a.next ok).world G') wf h v hv) λ_ _ _ q=>q.up
 obtain ⟨cl,h1,h2,h3,h4,h5⟩:=zBE S a h;obtain ⟨b,hb⟩:=zGI (scope:=scope) (elt:=elt) (gens:=[⟨target,iter,ifs,0⟩]) (x:=tx) (px:=tp) (p:=p) (ln:=pos.line) ha;induction b using Bool.casesOn with
 | true=>exact zLU a.G ha h1 hb (Ev.mono h5 λ_ _ _ q=>CompQ.mono (λys o n q W' G' D=>nxt (q D) W' G') q) h2 h3 (JM h4)
 | false=>exact zY (zHv a.G ha h1 (Ev.mono h5 λ_ _ _ q=>CompQ.mono (λys o n q D=>nxt (q D) W a.G) q) h2 h3 (JM h4)) hb rfl rfl
theorem zC9 (S:jU E F) {ns:List Str}{vs:List Expr}{K:Fl->SS->Tree}(a:At E fr W A env r s) (hl:vs.length=ns.length) (hne:ns≠[]) (h:(zKA F fr ns vs s K).holds) :
  Evs W A env vs (jC r s.o) (jK r s.ns) λxs o n=>xs.length=ns.length/\∀ T,BindQ W A env ns.reverse xs.reverse ((T,.tup xs)::o) n (Lift RF r K .next):=by
 refine Evs.mono (Qj (Evs.lift (Q:=λxs o n=>∀ T,BindQ W A env ns.reverse xs.reverse ((T,.tup xs)::o) n (Lift RF r K .next)) (S.es h _ _ _ _ a) λt xs s1 ok wf h T=>?_)) λxs o n q=>⟨q.1.trans hl,q.2⟩;replace h:=jT (jT h);obtain ⟨ok',e1,e2,e3⟩:=ok.new (ob:=.tup xs) (l:=T) wf;have a2:=(a.next ok).next ok'
 have:=YL (W:=W) (A:=A) a2.he a2.hf a2.ok (λv hv=>(wf v (List.mem_reverse.mp hv)).mono (Nat.le_succ _)) h;rw [e1,e2,jf (λv hv=>ok.len▸wf v (List.mem_reverse.mp hv)),List.map_reverse] at this;exact BindQ.mono (λo n q=>q.elim (P:=λ_ o n=>Lift RF r K .next o n) λt2 _ s2 ok2 _ h=>Lift.up (Lift.up (Lift.up (Lift.mk (R:=RF) (x:=.next) ok2 trivial h)))) this
theorem zBQ (S:jU E F) {t:Expr}{vs:List Expr}{k:Nat}{p pos:Pos}{K:Fl->SS->Tree}(a:At E fr W A env r s) (hp:j0 vs=true) (hz:vs.length<=1000) (h:(zKB F fr t (.Tuple vs k p) vs s K).holds):Ex W A env (.Assign [t] (.Tuple vs k p) pos) (jC r s.o) (jK r s.ns) (Lift RF r K):=by
 induction t using Expr.casesOn with
 | Tuple ts c tp =>
  refine jE h ?_;clear h;intro o hsw h;induction o using Option.casesOn with
  | none=>exact zL4 a.he.h (zFw hsw) (zt S a h)
  | some ns =>
   refine j1 h ?_;clear h;intro he h;obtain ⟨h1,h2⟩:=jP he;have hne:ns≠[]:=λq=>by rw [q] at h2;contradiction
   exact zFJ a.he.h a.R.handled (zFw hsw) (zC9 S a (Nat.eq_of_beq_eq_true h1) hne h) hp hz
 | Name=>exact zY (zt S a h) rfl rfl rfl
 | Subscript=>exact zY (zt S a h) rfl rfl rfl
 | _=>exact False.elim h
theorem zO6 (v:Expr):cond (yc v) (∀ t ln env,swapsWithSole [t] v ln env=pure false) True:=by cases v<;>first | exact λ_ _ _=>rfl | exact trivial
theorem zKH (t:Expr):cond (zDX t) (∀ env,assignEach [t] env=[(false,assign t env)]) True:=by cases t<;>first | exact λ_=>rfl | exact trivial
theorem zO7 (v:Expr):cond (yc v) (∀ a b c env,swappedStores [.Tuple a b c] v env=pure none) True:=by cases v<;>first | exact λ_ _ _ _=>rfl | exact trivial
theorem zO8 (v:Expr):cond (yc v) (∀ a b env,swappedStores [.List a b] v env=pure none) True:=by cases v<;>first | exact λ_ _ _=>rfl | exact trivial
theorem zE7 {t v:Expr}(h:yc v=true):swappedStores [t] v env=pure none:=by
 cases t with
 | Tuple a b c=>exact Vr (zO7 v) h _ _ _ _
 | List a b=>exact Vr (zO8 v) h _ _ _
 | _=>rfl
theorem zE8 (S:jU E F) {t v:Expr}{pos:Pos}{K:Fl->SS->Tree}(a:At E fr W A env r s) (h:(zMD F E fr t v s K).holds):Ex W A env (.Assign [t] v pos) (jC r s.o) (jK r s.ns) (Lift RF r K):=by
 unfold zMD at h;induction hp:yc v&&zDX t using Bool.casesOn with
 | true =>
  rw [hp] at h;obtain ⟨h1,h2⟩:=jP hp;refine zY (zt S a h) ?_ ?_ ?_
  ·exact Vr (zO6 v) h1 _ _ _
  ·exact zE7 h1
  ·exact Vr (zKH t) h2 _
 | false =>
  rw [hp] at h;clear hp;induction v using Expr.casesOn with
  | Tuple vs k p =>refine j1 h ?_;clear h;intro q h;obtain ⟨q1,q2⟩:=jP q;exact zBQ S a q1 (by have:=Nat.le_of_ble_eq_true q2;omega) h
  | ListComp elt gens scope p =>
   refine jE h ?_;clear h;intro g eg h;obtain rfl:=Q1 eg;induction t using Expr.casesOn with
   | Name=>exact zC8 S a h
   | Subscript=>exact zY (zt S a h) rfl rfl rfl
   | _=>exact False.elim h
  | Dict keys values p =>
   refine j1 h ?_;clear h;intro q h;refine zFX (λe he=>?_) ?_
   ·rw [he];exact zt S a h
   ·exact Vr (zKH t) q _
  | _=>exact False.elim h
theorem zBR (S:jU E F) {e:Stmt}{K:Fl->SS->Tree}(a:At E fr W A env r s) (h:(zKC F E fr e s K).holds):Ex W A env e (jC r s.o) (jK r s.ns) (Lift RF r K):=by
 cases e with
 | Return v p =>refine jE h ?_;clear h;intro e rfl h;exact JW (Ev.lift (S.e h _ _ _ _ a) λt x s1 ok wx h=>Lift.up (Lift.mk (R:=RF) (x:=.ret x) ok wx h))
 | If t b e p =>exact zHo (Bo.lift (S.b h _ _ _ _ a) λt b s1 ok h=>brS.br (zc h) (λh=>Tr.mono (S.ss h _ _ _ _ (a.next ok)) λ_ _ _ ⟨f,i,q⟩=>⟨f,i,q.up⟩) (λh=>Tr.mono (S.ss h _ _ _ _ (a.next ok)) λ_ _ _ ⟨f,i,q⟩=>⟨f,i,q.up⟩))
 | Pass p=>exact zLN (Lift.mk (R:=RF) (x:=.next) a.ok trivial h)
 | Expr v p =>refine j1 h ?_;clear h;intro hp h;refine zCD a.he.h (Ev.lift (S.e h _ _ _ _ a) λt x s1 ok wx h=>Lift.up (Lift.mk (R:=RF) (x:=.next) ok trivial h)) ?_;cases v<;>first | rfl | (cases hp;done)
 | Assign ts v p =>replace h:=VA h;obtain ⟨t,rfl,h⟩:=h;exact zE8 S a h
 | For t iter body orelse p =>
  refine j1 h ?_;clear h;intro q h;cases List.isEmpty_iff.mp q
  exact zC5 S a h
 | _=>exact False.elim h
theorem zAC (S:jU E F) {e:List Stmt}{K:Fl->SS->Tree}(a:At E fr W A env r s) (h:(zFp F fr e s K).holds):Es W A env e (jC r s.o) (jK r s.ns) (Lift RF r K):=by
 induction e using List.casesOn with
 | nil=>exact JB (Lift.mk (R:=RF) (x:=.next) a.ok trivial h)
 | cons e es =>
  refine jx (Ex.lift (S.s h _ _ _ _ a) λt f s1 ok wf h=>?_);induction f with
  | next=>exact Aft.next (Tr.mono (S.ss h _ _ _ _ (a.next ok)) λ_ _ _ ⟨f,i,q⟩=>⟨f,i,q.up⟩)
  | ret v=>exact Aft.ret (Lift.up (Lift.mk (R:=RF) (x:=.ret v) ok wf h))
theorem zCa (CS:zBB E C) (S:jU E F):jU E (zO1 F C E) :=
 ⟨λh _ _ _ _ a=>zBN CS S a h,λh _ _ _ _ a=>zBO S a h,λh _ _ _ _ a=>zAB S a h,λh _ _ _ _ a hx=>zBP S a hx h,λh _ _ _ _ a=>zBR S a h,λh _ _ _ _ a=>zAC S a h⟩
theorem zGJ {c:Code}{xs xs':List V}(hd:∀ d,c.df=some d->(∀ r,d.ren r=d)/\∀ n,d.wf n) (h:c.bind xs=some xs') (hx:∀ x ∈ xs,x.wf s.n):c.bind (xs.map (V.ren r))=some (xs'.map (V.ren r))/\∀ x ∈ xs',x.wf s.n:=by
 unfold Code.bind at h ⊢;rw [List.length_map];cases e:Nat.beq xs.length c.ys.length with
 | true=>rw [e] at h;cases h;exact ⟨rfl,hx⟩
 | false =>
  rw [e] at h;cases ed:c.df with
  | none=>rw [ed] at h;cases h
  | some d =>
   rw [ed] at h;cases e2:Nat.beq (xs.length + 1) c.ys.length with
   | false=>rw [Option.elim_some,e2] at h;cases h
   | true =>
    rw [Option.elim_some,e2] at h;cases h
    refine ⟨?_,λx hx'=>(List.mem_append.mp hx').elim (hx x) λhx'=>by rw [List.mem_singleton.mp hx'];exact (hd d ed).2 _⟩;rw [List.map_append,List.map_cons,List.map_nil,(hd d ed).1 r];rfl
theorem Bring.mid {a:Addr}{ob:Ob}{l2:jA}:∀ l1:jA,Bring a ob (l1++(a,ob)::l2) (l1++l2)
 | []=>.head
 | _::l1=>.tail (Bring.mid l1)
theorem Sel.of_perm:∀ {r l l':jA},l.Perm (r++l')->Sel r l
 | [],_,_,_=>.nil
 | (a,ob)::r,l,l',p=>by obtain ⟨l1,l2,rfl⟩:=List.append_of_mem (p.symm.subset (List.mem_cons_self .. : (a,ob) ∈ (a,ob)::(r++l')));exact .cons (Bring.mid l1) (Sel.of_perm (l':=l') (List.Perm.cons_inv ((List.perm_middle (a:=(a,ob)) (l₁:=l1) (l₂:=l2)).symm.trans p)))
theorem Sel.trans {a b c:jA}(h:Sel a b) (k:Sel b c):Sel a c:=by replace h:=Cx.sel' h;obtain ⟨x,h⟩:=h;obtain ⟨y,k⟩:=Cx.sel' k;exact Sel.of_perm (l':=x++y) (by rw [<- List.append_assoc];exact k.trans (h.append_right y))
noncomputable def inG (c:Code) (xs:List V) (s:SS) (L:Fr->SS->Tree):Tree:=yQ c.names [] s λcs s1=>s1.frameK λA s1=>zAf ⟨c.names,A,cs⟩ c.ys xs s1 λ_ s2=>L ⟨c.names,A,cs⟩ s2
theorem zI7 {f:Addr}{c:Code}{xs xs':List V}{Q:V->jA->Prop}{L:Fr->SS->Tree}(hc:EnterOk E.K E.mg E.mb f c) (ok:s.ok r) (hx:∀ x ∈ xs,x.wf s.n) (hb:c.bind xs=some xs') (h:(inG c xs' s L).holds)
  (k:∀ fr u W A env s2,At E.dn fr W A env (r++u) s2->(L fr s2).holds->zA4 W A env c.body Q (jC (r++u) s2.o) (jK (r++u) s2.ns)):Ct E.K E.mg E.mb (E.dn.k + 1) (.ref f) (xs.map (V.ren r)) (jC r s.o) Q:=by
 obtain ⟨b1,b2⟩:=zGJ (r:=r) hc.1 hb hx;refine Zs (hc.2 _ _ b1) λW' A' L G'=>LayQ.mono ?_ (yp (cs:=[]) ok (λ_ h=>absurd h List.not_mem_nil) h);rintro _ _ ⟨t,cs0,s1,ok1,wf1,e1,h⟩ env A2 he R2;have ok2:SS.ok (r++t++[L]) ⟨s1.o,[(nm s1.n,[])],s1.n + 1⟩ :=
  ⟨(ok1.enter (C:=L)).1.len,(ok1.enter (C:=L)).1.o,λp hp=>by obtain rfl:=List.mem_singleton.mp hp;exact ⟨yE,nofun⟩⟩
 have e3:jL (r++t++[L]) (nm s1.n)=L:=by rw [<- ok1.len];exact Qt
 have at1:At E.dn ⟨c.names,nm s1.n,cs0⟩ W' A2 env (r++t++[L]) ⟨s1.o,[(nm s1.n,[])],s1.n + 1⟩:=⟨G',R2,⟨by show EnvAt env c.names (jL (r++t++[L]) (nm s1.n)) (Jq (r++t++[L]) cs0);rw [e3,Y8 (λp hp=>ok1.len▸wf1 p hp)];exact he⟩,⟨yE,λp hp=>(wf1 p hp).mono (Nat.le_succ _)⟩,ok2⟩;have hb:=YL (W:=W') (A:=A') at1.he at1.hf at1.ok (λv hv=>(b2 v hv).mono (Nat.le_trans (ok.le ok1) (Nat.le_succ _))) h;rw [show xs'.map (V.ren (r++t++[L]))=xs'.map (V.ren r) by rw [List.append_assoc];exact jf λv hv=>ok.len▸b2 v hv,
  show jC (r++t++[L]) (SS.mk s1.o [(nm s1.n,[])] (s1.n + 1)).o=jC (r++t) s1.o from ok1.app.1,show jK (r++t++[L]) (SS.mk s1.o [(nm s1.n,[])] (s1.n + 1)).ns=[(L,[])] by show [(jL _ _,_)]=_;rw [e3];rfl] at hb
 refine BindQ.mono (λo n q=>q.elim (P:=λ_ o n=>zA4 W' A2 env c.body Q o n) λt2 _ s2 ok3 _ h=>?_) hb;have a3:=at1.next ok3;rw [List.append_assoc,List.append_assoc] at a3 ⊢;exact k _ _ _ _ _ _ a3 h
theorem zKI (S:jU E.dn F) {f:Addr}{c:Code}{xs xs':List V}{K:V->SS->Tree}(hc:EnterOk E.K E.mg E.mb f c) (ok:s.ok r) (hx:∀ x ∈ xs,x.wf s.n) (hb:c.bind xs=some xs') (h:(inS F E.op c xs' s K).holds) :
  Ct E.K E.mg E.mb (E.dn.k + 1) (.ref f) (xs.map (V.ren r)) (jC r s.o) (λy o'=>Lift RV r K y o' (jK r s.ns)) :=
 zI7 (L:=λfr s2=>F.ss fr c.body s2 λf s3=>match f with
  | .next=>gcK E.op (nm s.n) .none s3 λs3=>s3.upN s.ns (K .none)
  | .ret v=>gcK E.op (nm s.n) v s3 λs3=>s3.upN s.ns (K v)) hc ok hx hb h λfr u W A env s2 a h=>by
  refine Es.lift (S.ss h W A env _ a) λt3 f s3 ok4 wf h=>?_;rw [List.append_assoc] at ok4 ⊢;have le:s.n<=s3.n:=ok.le ok4;have e6:jK r s.ns=jK (r++(u++t3)) s.ns:=ok.app.2.symm;have ok5:∀ v,SS.ok (r++(u++t3)) ⟨gcO E.op (nm s.n) v s3.o,s.ns,s3.n⟩:=λv=>⟨ok4.len,λp hp=>ok4.o p (List.mem_filter.mp hp).1,ok.ns.mono le⟩;have sl:∀ v,Sel (jC (r++(u++t3)) (gcO E.op (nm s.n) v s3.o)) (jC (r++(u++t3)) s3.o):=λv =>
   Sel.of_perm (l':=jC (r++(u++t3)) (s3.o.filter λp=>!(zKF (nm s.n) (zD2 E.op (nm s.n) s3.o 100 (zD1 (nm s.n) [] v.refs++Jo E.op (nm s.n) s3.o) []) p))) (by unfold jC gcO;rw [<- List.map_append];exact ((List.filter_append_perm _ _).symm).map _)
  induction f with
  | next=>exact ⟨_,sl .none,.of' (y:=V.none) _ (ok5 .none) trivial rfl rfl e6 (jT h)⟩
  | ret v=>exact ⟨_,sl v,.of' (y:=v) _ (ok5 v) wf rfl rfl e6 (jT h)⟩
theorem zGK (S:jU E.dn F) {f:Addr}{c:Code}{xs xs':List V}{K:V->SS->Tree}(hc:EnterOk E.K E.mg E.mb f c) (hk:0 < E.k) (G:Gr W E.K E.mg E.mb) (R:Ar A E.k) (ok:s.ok r) (hx:∀ x ∈ xs,x.wf s.n) (hb:c.bind xs=some xs') (h:(inS F E.op c xs' s K).holds) :
  Cl W A (.ref f) (xs.map (V.ren r)) (jC r s.o) (jK r s.ns) (Lift RV r K) :=
 Cl.use (zKI S hc ok hx hb h) G R (by show E.k - 1 + 1<=E.k;omega) (by rw [List.append_nil]) λx o' q=>by rw [List.append_nil];exact q
theorem zBS {n:Nat}(S:jU E.dn F):zBB E (zFq F E):=by
 intro f xs s K h W A r G R ok hx;unfold zFq at h;induction hq:E.sp.lookup f using Option.casesOn with
 | some q =>rw [hq] at h;refine j1 h ?_;clear h;intro hk h;exact E.hsp _ _ _ hq _ _ _ h W A r G (R.le (Nat.le_of_ble_eq_true hk)) ok hx
 | none =>rw [hq] at h;refine jE h ?_;clear h;intro c hc h;refine j1 h ?_;clear h;intro hk h;refine jE h ?_;clear h;intro xs' hb h;exact zGK S (E.hcd _ _ hc) (Nat.blt_eq.mp hk) G R ok hx hb h
theorem zN:∀ n E,jU E (go n E)
 | 0,_=>⟨λh=>False.elim h,λh=>False.elim h,λh=>False.elim h,λh=>False.elim h,λh=>False.elim h,λh=>False.elim h⟩
 | n + 1,E=>zCa (zBS (n:=n) (zN n E.dn)) (zN n E)
end
section
local macro_rules | `(tactic| o_head (kHook $k $_ $_)) => `(tactic| (have e : $k = $k := rfl; assumption))
theorem KP:PySem.Challenge.rw_tn0029_01.row.Holds->True:=by
 intro hh;have:PySem.Challenge.rw_tn0029_01.row.Holds:=by
  k_head
 trivial
end
theorem EnterOk.plain {K:Frag}{mg mb:Str->Option Value}{f:Addr}{oc:Value}{od:Option Addr}{osl:Array (Option Value)}{name qual:Str}{params:Arguments}{body:List Stmt}{scope:Scope}{dV kV doc pm cdv ct:Value}{an:Option Addr}{ys:List Str}
  (ho:K.lookup f=some ⟨oc,od,.func (fnOf name qual params body scope dV kV doc pm an cdv ct),osl⟩) (hcd:codeIn K cdv qual=true)
  (hb:∀ vs:List Value,vs.length=ys.length->bindArgs (fnOf name qual params body scope dV kV doc pm an cdv ct) ⟨vs,[]⟩=pure (ys.zip vs))
  (hco:scope.isCoroutine=false) (hgen:scope.isGenerator=false) (hk:scope.kind = .function):EnterOk K mg mb f ⟨scope.names,ys,body,none⟩:=by
 refine ⟨nofun,λxs xs' e=>?_⟩;have e':xs.length=ys.length/\xs'=xs:=by
  unfold Code.bind at e;induction q:Nat.beq xs.length ys.length using Bool.casesOn with
  | true=>rw [q] at e;obtain rfl:=Option.some.inj e;exact ⟨Nat.eq_of_beq_eq_true q,rfl⟩
  | false=>rw [q] at e;contradiction
 obtain ⟨e1,rfl⟩:=e';exact Zr ho hcd (zAb λvs hv=>hb vs (hv.length.trans e1)) e1.symm hco hgen hk
theorem EnterOk.dflt {K:Frag}{mg mb:Str->Option Value}{f:Addr}{oc:Value}{od:Option Addr}{osl:Array (Option Value)}{name qual:Str}{params:Arguments}{body:List Stmt}{scope:Scope}{dV kV doc pm cdv ct:Value}{an:Option Addr}{ys:List Str}{T:Addr}{o:Obj}{m:Int}{tk:Tok}{n:Nat}
  (ho:K.lookup f=some ⟨oc,od,.func (fnOf name qual params body scope dV kV doc pm an cdv ct),osl⟩) (hcd:codeIn K cdv qual=true)
  (hd:(fnOf name qual params body scope dV kV doc pm an cdv ct).defaults = .ref T) (hT:K.lookup T=some o) (hs:o.data = .seq #[.int m tk] n)
  (hb:∀ vs:List Value,vs.length=ys.length->∃ k,bindArgs (fnOf name qual params body scope dV kV doc pm an cdv ct) ⟨vs,[]⟩=seqItems? (fnOf name qual params body scope dV kV doc pm an cdv ct).defaults >>= k/\k (some #[.int m tk])=pure (ys.zip vs))
  (hb':∀ vs:List Value,vs.length=ys.tail.length->∃ k,bindArgs (fnOf name qual params body scope dV kV doc pm an cdv ct) ⟨vs,[]⟩=seqItems? (fnOf name qual params body scope dV kV doc pm an cdv ct).defaults >>= k/\k (some #[.int m tk])=pure (ys.zip (vs++[.int m tk])))
  (hco:scope.isCoroutine=false) (hgen:scope.isGenerator=false) (hk:scope.kind = .function):EnterOk K mg mb f ⟨scope.names,ys,body,some (.int m)⟩:=by
 refine ⟨λd e=>by obtain rfl:=Option.some.inj e;exact ⟨λ_=>rfl,λ_=>trivial⟩,λxs xs' e=>?_⟩;unfold Code.bind at e;induction q:Nat.beq xs.length ys.length using Bool.casesOn with
 | true =>rw [q] at e;obtain rfl:=Option.some.inj e;have e1:=Nat.eq_of_beq_eq_true q;refine Zr ho hcd (λs vs X hv=>?_) e1.symm hco hgen hk;obtain ⟨k,h1,h2⟩:=hb vs (hv.length.trans e1);exact ⟨vs,hv,binds_K X hd hT hs h1 h2⟩
 | false =>
  rw [q] at e;replace e:cond (Nat.beq (xs.length + 1) ys.length) (some (xs++[.int m])) none=some xs':=e;induction q:Nat.beq (xs.length + 1) ys.length using Bool.casesOn with
  | true =>rw [q] at e;obtain rfl:=Option.some.inj e;have e1:=Nat.eq_of_beq_eq_true q;refine Zr ho hcd (λs vs X hv=>?_) (by rw [List.length_append];exact e1.symm) hco hgen hk;obtain ⟨k,h1,h2⟩:=hb' vs (by rw [hv.length,List.length_tail,<- e1];rfl);exact ⟨vs++[.int m tk],hv.append (.cons ⟨tk,rfl⟩ .nil),binds_K X hd hT hs h1 h2⟩
  | false=>rw [q] at e;contradiction
theorem zO9 {K:Frag}{l:List (Str×V)}(h:∀ p ∈ l,VB K p.1 p.2):∀ x v,l.lookup x=some v->VB K x v:=λ_ _ e=>h _ (JE e)
theorem zOa {K:Frag}{l:List Addr}(h:∀ f ∈ l,keepIn K (.ref f)=true):∀ f,l.contains f=true->keepIn K (.ref f)=true:=λf e=>h f (List.contains_iff_mem.mp e)
theorem zOb {K:Frag}{C:Addr}{l:List (Str×Addr)}(h:∀ p ∈ l,J3 K C p.1 p.2):∀ x v,l.lookup x=some v->J3 K C x v:=λ_ _ e=>h _ (JE e)
theorem lookA.{u}{α:Type u}{x:Addr}{v:α}:∀ {l:List (Addr×α)},l.lookup x=some v->(x,v) ∈ l
 | (y,u)::r,h=>by
  rw [List.lookup_cons] at h;induction e:x==y using Bool.casesOn with
  | true=>rw [e] at h;obtain rfl:=Option.some.inj h;rw [eq_of_beq e];exact .head _
  | false=>rw [e] at h;exact .tail _ (lookA h)
theorem zOc {K:Frag}{mg mb:Str->Option Value}{l:List (Addr×Code)}(h:∀ p ∈ l,EnterOk K mg mb p.1 p.2):∀ x v,l.lookup x=some v->EnterOk K mg mb x v:=λ_ _ e=>h _ (lookA e)
theorem zOd {K:Frag}{C:Addr}{l:List Str}(h:∀ p ∈ l,VC K C p):∀ x,l.contains x=true->VC K C x:=λx e=>h x (List.contains_iff_mem.mp e)
theorem zI8 {α:Type}{P:α->Prop}:∀ p ∈ ([]:List α),P p:=λ_ h=>absurd h List.not_mem_nil
theorem all_cons {α:Type}{P:α->Prop}{x:α}{l:List α}(h:P x) (k:∀ p ∈ l,P p):∀ p ∈ x::l,P p:=List.forall_mem_cons.mpr ⟨h,k⟩
section
variable {α:Type} {P:List α->Prop}
theorem zMR (h:P []):∀ vs:List α,vs.length=0->P vs
 | [],_=>h
theorem zCb {n:Nat}(h:∀ a,∀ vs:List α,vs.length=n->P (a::vs)):∀ vs:List α,vs.length=n + 1->P vs
 | a::vs,e=>h a vs (Nat.succ.inj e)
theorem YM (h:∀ a,P [a]):∀ vs:List α,vs.length=1->P vs:=zCb λa=>zMR (h a)
theorem Jb (h:∀ a b,P [a,b]):∀ vs:List α,vs.length=2->P vs:=zCb λa=>zCb λb=>zMR (h a b)
theorem Yd (h:∀ a b c,P [a,b,c]):∀ vs:List α,vs.length=3->P vs:=zCb λa=>Jb λb c=>h a b c
theorem zMS (h:∀ a b c d,P [a,b,c,d]):∀ vs:List α,vs.length=4->P vs:=zCb λa=>Yd λb c d=>h a b c d
theorem zMT (h:∀ a b c d e,P [a,b,c,d,e]):∀ vs:List α,vs.length=5->P vs:=zCb λa=>zMS λb c d e=>h a b c d e
theorem zPx (h:∀ a b c d e f,P [a,b,c,d,e,f]):∀ vs:List α,vs.length=6->P vs:=zCb λa=>zMT λb c d e f=>h a b c d e f
end
noncomputable def zOe:V->Bool
 | .ref a=>Nat.blt a zx
 | .int _=>true
 | _=>false
theorem zGL {v:V}(h:zOe v=true):(∀ r,v.ren r=v)/\∀ n,v.wf n:=by
 induction v with
 | ref a=>exact ⟨λr=>congrArg V.ref (zDR (Nat.blt_eq.mp h)),λn=>Qs (Nat.blt_eq.mp h)⟩
 | int i=>exact ⟨λ_=>rfl,λ_=>trivial⟩
 | _=>contradiction
noncomputable def eqV (a b:V):Bool:=match a with
 | .ref a=>b.ref?.elim false (Nat.beq a)
 | .int a=>b.int?.elim false (a==·)
 | _=>false
theorem elF {α:Type}{x:Option α}{f:α->Bool}{P:Prop}(h:x.elim false f=true) (k:∀ a,x=some a->f a=true->P):P:=by cases x;exact nomatch h;exact k _ rfl h
theorem zOf (a b:V):cond (eqV a b) (a=b) True:=by
 induction e:eqV a b using Bool.casesOn with
 | false=>exact trivial
 | true =>
  induction a with
  | ref a=>exact elF e λc hc h=>by rw [Nat.eq_of_beq_eq_true h,jg hc];rfl
  | int a=>exact elF e λc hc h=>by rw [eq_of_beq h,jk hc];rfl
  | _=>exact nomatch e
theorem zOg {a b:V}(h:eqV a b=true):a=b:=Vr (zOf a b) h
noncomputable def zOh (x:Option V) (v:V):Bool:=x.elim false (eqV · v)
noncomputable def glB (K:Frag) (p:Str×V):Bool:=zOe p.2&&(!(p.1==("__debug__":Str))&&(nsIn K mainGlobals p.1).elim false λu=>u.elim false λu=>zOh (vOf u) p.2)
theorem zOi {K:Frag}{p:Str×V}(h:glB K p=true):VB K p.1 p.2:=by
 obtain ⟨h1,h⟩:=jP h;obtain ⟨h2,h⟩:=jP h;refine ⟨(zGL h1).1,(zGL h1).2,(Bool.not_eq_true' _).mp h2,.inl ?_⟩;induction e:nsIn K mainGlobals p.1 using Option.casesOn with
 | none=>rw [e] at h;contradiction
 | some u =>
  rw [e] at h;induction u using Option.casesOn with
  | none=>contradiction
  | some u =>
   refine ⟨u,rfl,?_⟩;replace h:zOh (vOf u) p.2=true:=h;induction e:vOf u using Option.casesOn with
   | none=>rw [e] at h;contradiction
   | some v=>rw [e] at h;exact congrArg _ (zOg h)
noncomputable def zGM (f:Addr):Value->Bool
 | .ref a=>Nat.beq a f
 | _=>false
noncomputable def mtB (K:Frag) (C:Addr) (p:Str×Addr):Bool:=plainGet K C p.1&&(isFn K (.ref p.2)&&(keepIn K (.ref p.2)&&(findIn K (.ref C) p.1).elim false λu=>u.elim false (zGM p.2)))
theorem zGN (f:Addr) (v:Value):cond (zGM f v) (v = .ref f) True:=by
 induction v with
 | ref a =>
  show cond (Nat.beq a f) _ _;induction e:Nat.beq a f using Bool.casesOn with
  | true=>rw [Nat.eq_of_beq_eq_true e];rfl
  | false=>exact trivial
 | _=>exact trivial
theorem zOj {K:Frag}{C:Addr}{p:Str×Addr}(h:mtB K C p=true):J3 K C p.1 p.2:=by obtain ⟨h1,h⟩:=jP h;obtain ⟨h2,h⟩:=jP h;obtain ⟨h3,h⟩:=jP h;refine ⟨h1,?_,h2,h3⟩;exact elF h λu hu h=>elF h λw hw h=>by rw [hu,hw,Vr (zGN p.2 w) h]
noncomputable def atB (K:Frag) (C:Addr) (x:Str):Bool:=plainGet K C x&&((findIn K (.ref C) x).elim false (noGet K)&&(takerIn K C x).elim false Option.isNone)
theorem zOk {K:Frag}{C:Addr}{x:Str}(h:atB K C x=true):VC K C x:=by
 obtain ⟨h1,h⟩:=jP h;obtain ⟨h2,h⟩:=jP h;refine ⟨h1,?_,?_⟩
 ·induction e:findIn K (.ref C) x using Option.casesOn with
  | none=>rw [e] at h2;contradiction
  | some u=>rw [e] at h2;exact ⟨u,rfl,h2⟩
 ·induction e:takerIn K C x using Option.casesOn with
  | none=>rw [e] at h;contradiction
  | some u=>rw [e] at h;exact congrArg _ (Option.isNone_iff_eq_none.mp h)
theorem zD5 {α:Type}{P:α->Prop}{f:α->Bool}{l:List α}(k:∀ x,f x=true->P x) (h:l.all f=true):∀ x ∈ l,P x:=λx hx=>k x (List.all_eq_true.mp h x hx)
variable (w:World) (mg mb:Str->Option Value)
theorem hz_fillX13:True\/PySem.Challenge.rw_tn0029_01.Holds/\∀ h:Heap,(Mine.KP.heap_1 w.params).In h:=by k_fill;exact .inl trivial
noncomputable def ZW:{c:Code // EnterOk (Mine.KP.heap_1 w.params) mg mb 408 c} :=
 ⟨⟨_,["script"],_,none⟩,EnterOk.plain (by k_is) (by k_is) (YM (λ_ =>rfl)) rfl rfl rfl⟩
noncomputable def YD:{c:Code // EnterOk (Mine.KP.heap_1 w.params) mg mb 558 c} :=
 ⟨⟨_,["board","at"],_,none⟩,EnterOk.plain (by k_is) (by k_is) (Jb (λ_ _ =>rfl)) rfl rfl rfl⟩
noncomputable def Q2:{c:Code // EnterOk (Mine.KP.heap_1 w.params) mg mb 565 c} :=
 ⟨⟨_,["box","world","way"],_,none⟩,EnterOk.plain (by k_is) (by k_is) (Yd (λ_ _ _ =>rfl)) rfl rfl rfl⟩
noncomputable def VV:{c:Code // EnterOk (Mine.KP.heap_1 w.params) mg mb 570 c} :=
 ⟨⟨_,["script"],_,none⟩,EnterOk.plain (by k_is) (by k_is) (YM (λ_ =>rfl)) rfl rfl rfl⟩
noncomputable def zBT:{c:Code // EnterOk (Mine.KP.heap_1 w.params) mg mb 338 c} :=
 ⟨⟨_,["self","mode"],_,none⟩,EnterOk.plain (by k_is) (by k_is) (Jb (λ_ _ =>rfl)) rfl rfl rfl⟩
noncomputable def zGO:{c:Code // EnterOk (Mine.KP.heap_1 w.params) mg mb 259 c} :=
 ⟨⟨_,["self","hart"],_,some (.int _)⟩,EnterOk.dflt (by k_is) (by k_is) rfl (by k_is) rfl (Jb λ_ _=>⟨_,rfl,rfl⟩) (YM λ_=>⟨_,rfl,rfl⟩) rfl rfl rfl⟩
noncomputable def zKJ:{c:Code // EnterOk (Mine.KP.heap_1 w.params) mg mb 223 c} :=
 ⟨⟨_,["number"],_,none⟩,EnterOk.plain (by k_is) (by k_is) (YM (λ_ =>rfl)) rfl rfl rfl⟩
noncomputable def zKK:{c:Code // EnterOk (Mine.KP.heap_1 w.params) mg mb 230 c} :=
 ⟨⟨_,["number"],_,none⟩,EnterOk.plain (by k_is) (by k_is) (YM (λ_ =>rfl)) rfl rfl rfl⟩
noncomputable def zKL:{c:Code // EnterOk (Mine.KP.heap_1 w.params) mg mb 237 c} :=
 ⟨⟨_,["value"],_,none⟩,EnterOk.plain (by k_is) (by k_is) (YM (λ_ =>rfl)) rfl rfl rfl⟩
noncomputable def zGP:{c:Code // EnterOk (Mine.KP.heap_1 w.params) mg mb 244 c} :=
 ⟨⟨_,["old","value"],_,none⟩,EnterOk.plain (by k_is) (by k_is) (Jb (λ_ _ =>rfl)) rfl rfl rfl⟩
noncomputable def zKM:{c:Code // EnterOk (Mine.KP.heap_1 w.params) mg mb 266 c} :=
 ⟨⟨_,["self"],_,none⟩,EnterOk.plain (by k_is) (by k_is) (YM (λ_ =>rfl)) rfl rfl rfl⟩
noncomputable def zBU:{c:Code // EnterOk (Mine.KP.heap_1 w.params) mg mb 273 c} :=
 ⟨⟨_,["self","number","mode"],_,none⟩,EnterOk.plain (by k_is) (by k_is) (Yd (λ_ _ _ =>rfl)) rfl rfl rfl⟩
noncomputable def zBV:{c:Code // EnterOk (Mine.KP.heap_1 w.params) mg mb 281 c} :=
 ⟨⟨_,["self","number","mode"],_,some (.int _)⟩,EnterOk.dflt (by k_is) (by k_is) rfl (by k_is) rfl (Yd λ_ _ _=>⟨_,rfl,rfl⟩) (Jb λ_ _=>⟨_,rfl,rfl⟩) rfl rfl rfl⟩
noncomputable def zKN:{c:Code // EnterOk (Mine.KP.heap_1 w.params) mg mb 288 c} :=
 ⟨⟨_,["self","number"],_,none⟩,EnterOk.plain (by k_is) (by k_is) (Jb (λ_ _ =>rfl)) rfl rfl rfl⟩
noncomputable def zKO:{c:Code // EnterOk (Mine.KP.heap_1 w.params) mg mb 295 c} :=
 ⟨⟨_,["self","number"],_,none⟩,EnterOk.plain (by k_is) (by k_is) (Jb (λ_ _ =>rfl)) rfl rfl rfl⟩
noncomputable def zKP:{c:Code // EnterOk (Mine.KP.heap_1 w.params) mg mb 303 c} :=
 ⟨⟨_,["self","number","value","mode"],_,some (.int _)⟩,EnterOk.dflt (by k_is) (by k_is) rfl (by k_is) rfl (zMS λ_ _ _ _=>⟨_,rfl,rfl⟩) (Yd λ_ _ _=>⟨_,rfl,rfl⟩) rfl rfl rfl⟩
noncomputable def zKQ:{c:Code // EnterOk (Mine.KP.heap_1 w.params) mg mb 310 c} :=
 ⟨⟨_,["self","number","value"],_,none⟩,EnterOk.plain (by k_is) (by k_is) (Yd (λ_ _ _ =>rfl)) rfl rfl rfl⟩
noncomputable def zKR:{c:Code // EnterOk (Mine.KP.heap_1 w.params) mg mb 317 c} :=
 ⟨⟨_,["self","number","value"],_,none⟩,EnterOk.plain (by k_is) (by k_is) (Yd (λ_ _ _ =>rfl)) rfl rfl rfl⟩
noncomputable def zGQ:{c:Code // EnterOk (Mine.KP.heap_1 w.params) mg mb 331 c} :=
 ⟨⟨_,["self","number","is_on"],_,none⟩,EnterOk.plain (by k_is) (by k_is) (Yd (λ_ _ _ =>rfl)) rfl rfl rfl⟩
noncomputable def zGR:{c:Code // EnterOk (Mine.KP.heap_1 w.params) mg mb 345 c} :=
 ⟨⟨_,["self","cause","mode"],_,none⟩,EnterOk.plain (by k_is) (by k_is) (Yd (λ_ _ _ =>rfl)) rfl rfl rfl⟩
noncomputable def zGS:{c:Code // EnterOk (Mine.KP.heap_1 w.params) mg mb 352 c} :=
 ⟨⟨_,["self","cause","value","place","mode"],_,none⟩,EnterOk.plain (by k_is) (by k_is) (zMT (λ_ _ _ _ _ =>rfl)) rfl rfl rfl⟩
noncomputable def zGT:{c:Code // EnterOk (Mine.KP.heap_1 w.params) mg mb 359 c} :=
 ⟨⟨_,["self","vector","cause"],_,none⟩,EnterOk.plain (by k_is) (by k_is) (Yd (λ_ _ _ =>rfl)) rfl rfl rfl⟩
noncomputable def zGU:{c:Code // EnterOk (Mine.KP.heap_1 w.params) mg mb 366 c} :=
 ⟨⟨_,["self"],_,none⟩,EnterOk.plain (by k_is) (by k_is) (YM (λ_ =>rfl)) rfl rfl rfl⟩
noncomputable def zGV:{c:Code // EnterOk (Mine.KP.heap_1 w.params) mg mb 373 c} :=
 ⟨⟨_,["self"],_,none⟩,EnterOk.plain (by k_is) (by k_is) (YM (λ_ =>rfl)) rfl rfl rfl⟩
noncomputable def zGW:{c:Code // EnterOk (Mine.KP.heap_1 w.params) mg mb 415 c} :=
 ⟨⟨_,["box","many"],_,none⟩,EnterOk.plain (by k_is) (by k_is) (Jb (λ_ _ =>rfl)) rfl rfl rfl⟩
noncomputable def zKS:{c:Code // EnterOk (Mine.KP.heap_1 w.params) mg mb 422 c} :=
 ⟨⟨_,["box"],_,none⟩,EnterOk.plain (by k_is) (by k_is) (YM (λ_ =>rfl)) rfl rfl rfl⟩
noncomputable def zKT:{c:Code // EnterOk (Mine.KP.heap_1 w.params) mg mb 427 c} :=
 ⟨⟨_,["bits","spots"],_,none⟩,EnterOk.plain (by k_is) (by k_is) (Jb (λ_ _ =>rfl)) rfl rfl rfl⟩
noncomputable def zKU:{c:Code // EnterOk (Mine.KP.heap_1 w.params) mg mb 434 c} :=
 ⟨⟨_,["level","at"],_,none⟩,EnterOk.plain (by k_is) (by k_is) (Jb (λ_ _ =>rfl)) rfl rfl rfl⟩
noncomputable def zKV:{c:Code // EnterOk (Mine.KP.heap_1 w.params) mg mb 441 c} :=
 ⟨⟨_,[],_,none⟩,EnterOk.plain (by k_is) (by k_is) (zMR (rfl)) rfl rfl rfl⟩
noncomputable def zKW:{c:Code // EnterOk (Mine.KP.heap_1 w.params) mg mb 448 c} :=
 ⟨⟨_,["base"],_,none⟩,EnterOk.plain (by k_is) (by k_is) (YM (λ_ =>rfl)) rfl rfl rfl⟩
noncomputable def zKX:{c:Code // EnterOk (Mine.KP.heap_1 w.params) mg mb 455 c} :=
 ⟨⟨_,["level"],_,none⟩,EnterOk.plain (by k_is) (by k_is) (YM (λ_ =>rfl)) rfl rfl rfl⟩
noncomputable def zKY:{c:Code // EnterOk (Mine.KP.heap_1 w.params) mg mb 460 c} :=
 ⟨⟨_,["board","base"],_,none⟩,EnterOk.plain (by k_is) (by k_is) (Jb (λ_ _ =>rfl)) rfl rfl rfl⟩
noncomputable def zKZ:{c:Code // EnterOk (Mine.KP.heap_1 w.params) mg mb 465 c} :=
 ⟨⟨_,["board"],_,none⟩,EnterOk.plain (by k_is) (by k_is) (YM (λ_ =>rfl)) rfl rfl rfl⟩
noncomputable def zD6:{c:Code // EnterOk (Mine.KP.heap_1 w.params) mg mb 472 c} :=
 ⟨⟨_,["board","base","bits"],_,none⟩,EnterOk.plain (by k_is) (by k_is) (Yd (λ_ _ _ =>rfl)) rfl rfl rfl⟩
noncomputable def zGX:{c:Code // EnterOk (Mine.KP.heap_1 w.params) mg mb 479 c} :=
 ⟨⟨_,["world"],_,none⟩,EnterOk.plain (by k_is) (by k_is) (YM (λ_ =>rfl)) rfl rfl rfl⟩
noncomputable def zK0:{c:Code // EnterOk (Mine.KP.heap_1 w.params) mg mb 486 c} :=
 ⟨⟨_,["world","level","row","modes"],_,none⟩,EnterOk.plain (by k_is) (by k_is) (zMS (λ_ _ _ _ =>rfl)) rfl rfl rfl⟩
noncomputable def zGY:{c:Code // EnterOk (Mine.KP.heap_1 w.params) mg mb 493 c} :=
 ⟨⟨_,["handed","lines","mine","bits","root","waits"],_,none⟩,EnterOk.plain (by k_is) (by k_is) (zPx (λ_ _ _ _ _ _ =>rfl)) rfl rfl rfl⟩
noncomputable def zD7:{c:Code // EnterOk (Mine.KP.heap_1 w.params) mg mb 498 c} :=
 ⟨⟨_,["box","world","level"],_,none⟩,EnterOk.plain (by k_is) (by k_is) (Yd (λ_ _ _ =>rfl)) rfl rfl rfl⟩
noncomputable def zGZ:{c:Code // EnterOk (Mine.KP.heap_1 w.params) mg mb 503 c} :=
 ⟨⟨_,["box"],_,none⟩,EnterOk.plain (by k_is) (by k_is) (YM (λ_ =>rfl)) rfl rfl rfl⟩
noncomputable def zG0:{c:Code // EnterOk (Mine.KP.heap_1 w.params) mg mb 508 c} :=
 ⟨⟨_,["world","level"],_,none⟩,EnterOk.plain (by k_is) (by k_is) (Jb (λ_ _ =>rfl)) rfl rfl rfl⟩
noncomputable def zD8:{c:Code // EnterOk (Mine.KP.heap_1 w.params) mg mb 513 c} :=
 ⟨⟨_,["world","level","cause","value","place"],_,none⟩,EnterOk.plain (by k_is) (by k_is) (zMT (λ_ _ _ _ _ =>rfl)) rfl rfl rfl⟩
noncomputable def zD9:{c:Code // EnterOk (Mine.KP.heap_1 w.params) mg mb 520 c} :=
 ⟨⟨_,["box","world","level"],_,none⟩,EnterOk.plain (by k_is) (by k_is) (Yd (λ_ _ _ =>rfl)) rfl rfl rfl⟩
noncomputable def zG1:{c:Code // EnterOk (Mine.KP.heap_1 w.params) mg mb 525 c} :=
 ⟨⟨_,["box","world"],_,none⟩,EnterOk.plain (by k_is) (by k_is) (Jb (λ_ _ =>rfl)) rfl rfl rfl⟩
noncomputable def zG2:{c:Code // EnterOk (Mine.KP.heap_1 w.params) mg mb 532 c} :=
 ⟨⟨_,["box","world"],_,none⟩,EnterOk.plain (by k_is) (by k_is) (Jb (λ_ _ =>rfl)) rfl rfl rfl⟩
noncomputable def zDa:{c:Code // EnterOk (Mine.KP.heap_1 w.params) mg mb 539 c} :=
 ⟨⟨_,["box","world","level"],_,none⟩,EnterOk.plain (by k_is) (by k_is) (Yd (λ_ _ _ =>rfl)) rfl rfl rfl⟩
noncomputable def zDb:{c:Code // EnterOk (Mine.KP.heap_1 w.params) mg mb 544 c} :=
 ⟨⟨_,["world","level"],_,none⟩,EnterOk.plain (by k_is) (by k_is) (Jb (λ_ _ =>rfl)) rfl rfl rfl⟩
noncomputable def zDc:{c:Code // EnterOk (Mine.KP.heap_1 w.params) mg mb 551 c} :=
 ⟨⟨_,["world","level"],_,none⟩,EnterOk.plain (by k_is) (by k_is) (Jb (λ_ _ =>rfl)) rfl rfl rfl⟩
noncomputable def EGlP:List (Str×V):=(("lowest_mode":Str),V.ref 223)::(("is_read_only":Str),V.ref 230)::(("vector_told":Str),V.ref 237)::(("status_told":Str),V.ref 244)::(("_law_box":Str),V.ref 408)::(("_law_take":Str),V.ref 415)::(("_law_some":Str),V.ref 422)::(("_law_spread":Str),V.ref 427)::(("_law_base":Str),V.ref 434)::(("_law_pairs":Str),V.ref 441)::(("_law_spots":Str),V.ref 448)::(("_law_befores":Str),V.ref 455)::(("_law_level":Str),V.ref 460)::(("_law_rest":Str),V.ref 465)::(("_law_put":Str),V.ref 472)::(("_law_stands":Str),V.ref 479)::(("_law_turned":Str),V.ref 486)::(("_law_board":Str),V.ref 493)::(("_law_filled":Str),V.ref 498)::(("_law_world":Str),V.ref 503)::(("_law_causes":Str),V.ref 508)::(("_law_trap_right":Str),V.ref 513)::(("_law_fresh_right":Str),V.ref 520)::(("_law_due_right":Str),V.ref 525)::(("_law_line_right":Str),V.ref 532)::(("_law_written_right":Str),V.ref 539)::(("_law_left_right":Str),V.ref 544)::(("_law_back_right":Str),V.ref 551)::(("_law_counter":Str),V.ref 558)::(("_law_deed_right":Str),V.ref 565)::(("law":Str),V.ref 570)::(("MASK":Str),V.int 4294967295)::(("USER":Str),V.int 0)::(("SUPERVISOR":Str),V.int 1)::(("MACHINE":Str),V.int 3)::(("INTERRUPT":Str),V.int 2147483648)::(("SIE":Str),V.int 2)::(("MIE":Str),V.int 8)::(("SPIE":Str),V.int 32)::(("MPIE":Str),V.int 128)::(("SPP":Str),V.int 256)::(("MPP_PLACE":Str),V.int 11)::(("MPP":Str),V.int 6144)::(("MPRV":Str),V.int 131072)::(("SUM":Str),V.int 262144)::(("MXR":Str),V.int 524288)::(("MSTATUS_BITS":Str),V.int 924074)::(("SSTATUS_BITS":Str),V.int 786722)::(("SOFT_S":Str),V.int 1)::(("SOFT_M":Str),V.int 3)::(("TIMER_S":Str),V.int 5)::(("TIMER_M":Str),V.int 7)::(("OUTER_S":Str),V.int 9)::(("OUTER_M":Str),V.int 11)::(("S_LINES":Str),V.int 546)::(("ALL_LINES":Str),V.int 2730)::(("DELEGABLE":Str),V.int 46079)::(("SATP_MODE":Str),V.int 2147483648)::(("SATP_ROOT":Str),V.int 4194303)::(("SATP_BITS":Str),V.int 2151677951)::(("COUNTERS":Str),V.int 7)::(("MISA":Str),V.int 1075056896)::(("NAMES":Str),V.ref 69)::(("Csrs":Str),V.ref 397)::(("ORDER":Str),V.ref 66)::[]
noncomputable def EGl:List (Str×V):=(("range":Str),V.ty "range")::(("int":Str),V.ty "int")::(("len":Str),V.bi "len")::(("abs":Str),V.bi "abs")::(("min":Str),V.bi "min")::(("sum":Str),V.bi "sum")::(("zip":Str),V.ty "zip")::(("enumerate":Str),V.ty "enumerate")::EGlP
theorem zMU:∀ p ∈ EGl,VB (Mine.KP.heap_1 w.params) p.1 p.2:=by refine all_cons ⟨λ_=>rfl,λ_=>trivial,rfl,.inr ⟨_,by k_is,zFC,rfl,by decide⟩⟩ ?_;refine all_cons ⟨λ_=>rfl,λ_=>trivial,rfl,.inr ⟨_,by k_is,zL1,rfl,by decide⟩⟩ ?_;refine all_cons ⟨λ_=>rfl,λ_=>trivial,rfl,.inr ⟨_,by k_is,zLW,rfl,by decide⟩⟩ ?_;refine all_cons ⟨λ_=>rfl,λ_=>trivial,rfl,.inr ⟨_,by k_is,zLX,rfl,by decide⟩⟩ ?_;refine all_cons ⟨λ_=>rfl,λ_=>trivial,rfl,.inr ⟨_,by k_is,zLY,rfl,by decide⟩⟩ ?_;refine all_cons ⟨λ_=>rfl,λ_=>trivial,rfl,.inr ⟨_,by k_is,zLZ,rfl,by decide⟩⟩ ?_;refine all_cons ⟨λ_=>rfl,λ_=>trivial,rfl,.inr ⟨_,by k_is,zL0,rfl,by decide⟩⟩ ?_;refine all_cons ⟨λ_=>rfl,λ_=>trivial,rfl,.inr ⟨_,by k_is,zFD,rfl,by decide⟩⟩ ?_;exact zD5 (λ_=>zOi) (show EGlP.all (glB (Mine.KP.heap_1 w.params))=true from rfl)
noncomputable def EFn:List Addr:=[223,230,237,244,408,415,422,427,434,441,448,455,460,465,472,479,486,493,498,503,508,513,520,525,532,539,544,551,558,565,570,397]
theorem zMV:∀ f ∈ EFn,keepIn (Mine.KP.heap_1 w.params) (.ref f)=true:=zD5 (f:=λf=>keepIn (Mine.KP.heap_1 w.params) (.ref f)) (λ_ h=>h) rfl
noncomputable def EMt:List (Str×Addr):=(("time":Str),266)::(("counted":Str),295)::(("need":Str),273)::(("read":Str),281)::(("read_machine":Str),288)::(("write":Str),303)::(("told":Str),310)::(("write_machine":Str),317)::(("line":Str),331)::(("pending":Str),338)::(("is_handed":Str),345)::(("enter":Str),352)::(("place_of":Str),359)::(("leave_machine":Str),366)::(("leave_supervisor":Str),373)::[]
theorem zMW:∀ p ∈ EMt,J3 (Mine.KP.heap_1 w.params) 397 p.1 p.2:=zD5 (λ_=>zOj) (show EMt.all (mtB (Mine.KP.heap_1 w.params) 397)=true from rfl)
noncomputable def EAt:List Str:=["status","delegated","lines_delegated","enabled","waiting","satp","cycles","retired","timer","hart","plain"]
theorem zMX:∀ p ∈ EAt,VC (Mine.KP.heap_1 w.params) 397 p:=zD5 (λ_=>zOk) (show EAt.all (atB (Mine.KP.heap_1 w.params) 397)=true from rfl)
theorem zOl:zCJ (Mine.KP.heap_1 w.params) 69 [256,260,261,262,320,321,322,323,324,384,768,769,770,771,772,773,774,832,833,834,835,836,2816,2818,2944,2946,3072,3073,3074,3200,3201,3202,3857,3858,3859,3860]:=⟨by decide,_,_,by k_is,by decide +kernel,by decide,by decide +kernel⟩
theorem zPy:zJj (Mine.KP.heap_1 w.params) 397:=⟨by k_is,by k_is,by k_is⟩
noncomputable def ECd:List (Addr×Code):=[(408,(ZW w mg mb).1),(558,(YD w mg mb).1),(565,(Q2 w mg mb).1),(570,(VV w mg mb).1),(338,(zBT w mg mb).1),(259,(zGO w mg mb).1),(223,(zKJ w mg mb).1),(230,(zKK w mg mb).1),(237,(zKL w mg mb).1),(244,(zGP w mg mb).1),(266,(zKM w mg mb).1),(273,(zBU w mg mb).1),(281,(zBV w mg mb).1),(288,(zKN w mg mb).1),(295,(zKO w mg mb).1),(303,(zKP w mg mb).1),(310,(zKQ w mg mb).1),(317,(zKR w mg mb).1),(331,(zGQ w mg mb).1),(345,(zGR w mg mb).1),(352,(zGS w mg mb).1),(359,(zGT w mg mb).1),(366,(zGU w mg mb).1),(373,(zGV w mg mb).1),(415,(zGW w mg mb).1),(422,(zKS w mg mb).1),(427,(zKT w mg mb).1),(434,(zKU w mg mb).1),(441,(zKV w mg mb).1),(448,(zKW w mg mb).1),(455,(zKX w mg mb).1),(460,(zKY w mg mb).1),(465,(zKZ w mg mb).1),(472,(zD6 w mg mb).1),(479,(zGX w mg mb).1),(486,(zK0 w mg mb).1),(493,(zGY w mg mb).1),(498,(zD7 w mg mb).1),(503,(zGZ w mg mb).1),(508,(zG0 w mg mb).1),(513,(zD8 w mg mb).1),(520,(zD9 w mg mb).1),(525,(zG1 w mg mb).1),(532,(zG2 w mg mb).1),(539,(zDa w mg mb).1),(544,(zDb w mg mb).1),(551,(zDc w mg mb).1)]
theorem zMY:∀ p ∈ ECd w mg mb,EnterOk (Mine.KP.heap_1 w.params) mg mb p.1 p.2:=by refine all_cons (ZW w mg mb).2 ?_;refine all_cons (YD w mg mb).2 ?_;refine all_cons (Q2 w mg mb).2 ?_;refine all_cons (VV w mg mb).2 ?_;refine all_cons (zBT w mg mb).2 ?_;refine all_cons (zGO w mg mb).2 ?_;refine all_cons (zKJ w mg mb).2 ?_;refine all_cons (zKK w mg mb).2 ?_;refine all_cons (zKL w mg mb).2 ?_;refine all_cons (zGP w mg mb).2 ?_;refine all_cons (zKM w mg mb).2 ?_;refine all_cons (zBU w mg mb).2 ?_;refine all_cons (zBV w mg mb).2 ?_;refine all_cons (zKN w mg mb).2 ?_;refine all_cons (zKO w mg mb).2 ?_;refine all_cons (zKP w mg mb).2 ?_;refine all_cons (zKQ w mg mb).2 ?_;refine all_cons (zKR w mg mb).2 ?_;refine all_cons (zGQ w mg mb).2 ?_;refine all_cons (zGR w mg mb).2 ?_;refine all_cons (zGS w mg mb).2 ?_;refine all_cons (zGT w mg mb).2 ?_;refine all_cons (zGU w mg mb).2 ?_;refine all_cons (zGV w mg mb).2 ?_;refine all_cons (zGW w mg mb).2 ?_;refine all_cons (zKS w mg mb).2 ?_;refine all_cons (zKT w mg mb).2 ?_;refine all_cons (zKU w mg mb).2 ?_;refine all_cons (zKV w mg mb).2 ?_;refine all_cons (zKW w mg mb).2 ?_;refine all_cons (zKX w mg mb).2 ?_;refine all_cons (zKY w mg mb).2 ?_;refine all_cons (zKZ w mg mb).2 ?_;refine all_cons (zD6 w mg mb).2 ?_;refine all_cons (zGX w mg mb).2 ?_;refine all_cons (zK0 w mg mb).2 ?_;refine all_cons (zGY w mg mb).2 ?_;refine all_cons (zD7 w mg mb).2 ?_;refine all_cons (zGZ w mg mb).2 ?_;refine all_cons (zG0 w mg mb).2 ?_;refine all_cons (zD8 w mg mb).2 ?_;refine all_cons (zD9 w mg mb).2 ?_;refine all_cons (zG1 w mg mb).2 ?_;refine all_cons (zG2 w mg mb).2 ?_;refine all_cons (zDa w mg mb).2 ?_;refine all_cons (zDb w mg mb).2 ?_;refine all_cons (zDc w mg mb).2 ?_;exact zI8
noncomputable def EBd:List (Addr×List Int):=[(69,[256,260,261,262,320,321,322,323,324,384,768,769,770,771,772,773,774,832,833,834,835,836,2816,2818,2944,2946,3072,3073,3074,3200,3201,3202,3857,3858,3859,3860])]
theorem zMZ (d:Addr) (ks:List Int) (e:EBd.lookup d=some ks):zCJ (Mine.KP.heap_1 w.params) d ks:=by
 unfold EBd at e;rw [List.lookup_cons] at e;induction q:d==69 using Bool.casesOn with
 | true=>rw [q] at e;obtain rfl:=Option.some.inj e;rw [eq_of_beq q];exact zOl w
 | false=>rw [q] at e;contradiction
noncomputable def EBt:List (Addr×List Int):=[(66,[11,3,7,9,1,5])]
theorem zM0 (d:Addr) (ks:List Int) (e:EBt.lookup d=some ks):zJk (Mine.KP.heap_1 w.params) d ks:=by
 unfold EBt at e;rw [List.lookup_cons] at e;induction q:d==66 using Bool.casesOn with
 | true=>rw [q] at e;obtain rfl:=Option.some.inj e;rw [eq_of_beq q];exact ⟨_,_,_,by k_is,rfl,rfl,.cons ⟨_,rfl⟩ (.cons ⟨_,rfl⟩ (.cons ⟨_,rfl⟩ (.cons ⟨_,rfl⟩ (.cons ⟨_,rfl⟩ (.cons ⟨_,rfl⟩ .nil)))))⟩
 | false=>rw [q] at e;contradiction
noncomputable def EX (k:Nat) (op:List Addr) (pp:List (Addr×(List V×V))) (sp:List (Addr×(Nat×Spec))) (hsp:∀ p ∈ sp,jh (Mine.KP.heap_1 w.params) mg mb p.1 p.2.1 p.2.2):Est where
 K:=Mine.KP.heap_1 w.params
 mg:=mg
 mb:=mb
 k:=k
 gl:=EGl
 fn:=EFn
 C:=397
 mt:=EMt
 ats:=EAt
 bd:=EBd
 bt:=EBt
 cd:=ECd w mg mb
 sp:=sp
 op:=op
 pp:=pp
 hgl:=zO9 (zMU w)
 hfn:=zOa (zMV w)
 hmt:=zOb (zMW w)
 hat:=zOd (zMX w)
 hcl:=zPy w
 hbd:=zMZ w
 hbt:=zM0 w
 hcd:=zOc (zMY w mg mb)
 hsp:=λf k q e=>hsp (f,(k,q)) (lookA e)
noncomputable def EE (k:Nat):Est:=EX w mg mb k [] [] [] λ_ h=>absurd h List.not_mem_nil
noncomputable def YE:List Addr->jA->Option jA
 | [],_=>some []
 | a::r,o=>match Vx a o with
  | some (x,o')=>(match YE r o' with
   | some q=>some ((a,x)::q)
   | none=>none)
  | none=>none
noncomputable def j8 (r:List Addr) (Q:V->jA->Prop) (v:V) (o:jA) (n:Nat):Prop:=∀ t,(r++t).length=n->∃ names o0,YE names o=some o0/\Q (v.ren (r++t)) (jC (r++t) o0)
set_option tactic.hygienic true in
theorem JN {r:List Addr}:∀ {names:List Addr}{o q:jA},YE names o=some q->∃ l,(jC r o).Perm (jC r q++l)
 | [],o,q,h=>by obtain rfl:=Option.some.inj h;exact ⟨_,.refl _⟩
 | a::names,o,q,h=>by
  unfold YE at h;split at h
  ·rename_i x o' e;split at h
   ·rename_i q' e2;obtain rfl:=Option.some.inj h;obtain ⟨l,hl⟩:=JN (r:=r) e2;exact ⟨l,(zr e).1.trans ((List.perm_append_comm (l₁:=jC r o')).trans (hl.cons _))⟩
   ·contradiction
  ·contradiction
section
variable {E:Est} {r:List Addr}
theorem zAD {f:Addr}{c:Code}{xs xs':List V}{o:jA}{n0 n:Nat}{Q:V->jA->Prop}{K:V->SS->Tree}(hK:∀ t x s,SS.ok (r++t) s->(K x s).holds->∃ o0 l,(jC (r++t) s.o).Perm (o0++l)/\Q (x.ren (r++t)) o0)
  (hc:EnterOk E.K E.mg E.mb f c) (ok:SS.ok r ⟨o,[],n0⟩) (hx:∀ x ∈ xs,x.wf n0) (hb:c.bind xs=some xs')
  {T:Tree} (e:inS (go n E.dn) E.op c xs' ⟨o,[],n0⟩ K=T) (h:T.holds):Ct E.K E.mg E.mb (E.dn.k + 1) (.ref f) (xs.map (V.ren r)) (jC r o) Q:=by
 rw [<- e] at h;intro W A G R vs hvs hp tk C;refine codeAny_mono (zKI (zN n E.dn) hc ok hx hb h W A G R vs hvs hp tk C) λr s₁ h₁=>RetQ.mono h₁ ?_;intro y o1 n1 q;induction q with
 | mk o2 sl q =>
 refine q.elim (P:=λy o _=>Sel o o1->CtQ Q y o1 []) (λt x0 s ok' wf h sl=>?_) sl;obtain ⟨o3,l,hl,q⟩:=hK t _ _ ok' h;exact ⟨_,(Sel.of_perm hl).trans sl,q⟩
theorem zM {f:Addr}{c:Code}{xs xs':List V}{o:jA}{n0 n:Nat}{Q:V->jA->Prop}(hc:EnterOk E.K E.mg E.mb f c) (ok:SS.ok r ⟨o,[],n0⟩) (hx:∀ x ∈ xs,x.wf n0) (hb:c.bind xs=some xs')
  {T:Tree} (e:inS (go n E.dn) E.op c xs' ⟨o,[],n0⟩ (λv s=>.prop (j8 r Q v s.o s.n))=T) (h:T.holds):Ct E.K E.mg E.mb (E.dn.k + 1) (.ref f) (xs.map (V.ren r)) (jC r o) Q :=
 zAD (λt x s ok h=>by obtain ⟨names,o3,e3,q⟩:=h t ok.len;obtain ⟨l,hl⟩:=JN e3;exact ⟨_,l,hl,q⟩) hc ok hx hb e h
end
noncomputable def wfB (n:Nat) (a:Nat):Bool:=Nat.blt a zx||(Nat.beq ((a - zx) % 2) 0&&Nat.blt ((a - zx) / 2) n)
noncomputable def V.wfB (n:Nat):V->Bool
 | .ref a=>Mine.wfB n a
 | _=>true
noncomputable def Ob.wfB (n:Nat):Ob->Bool
 | .list xs=>xs.all (V.wfB n)
 | .tup xs=>xs.all (V.wfB n)
 | .sdict kvs=>kvs.all λp=>p.2.wfB n
 | .idict kvs=>kvs.all λp=>p.2.wfB n
 | .inst _ d=>Mine.wfB n d
 | .attrs kvs=>kvs.all λp=>p.2.wfB n
 | _=>false
theorem zK1 {n a:Nat}(h:wfB n a=true):a < zx\/((a - zx) % 2=0/\(a - zx) / 2 < n):=(Bool.or_eq_true _ _▸h:_\/_).imp Nat.blt_eq.mp λh=>⟨Nat.eq_of_beq_eq_true (jP h).1,Nat.blt_eq.mp (jP h).2⟩
theorem wfB_h {n a:Nat}(h:wfB n a=true):wfA n a:=(zK1 h).elim Qs λh=>⟨.inr (by omega)⟩
theorem V.wfB_h {n:Nat}{x:V}(h:x.wfB n=true):x.wf n:=by cases x<;>first | exact Mine.wfB_h h | trivial
theorem Ob.wfB_h {n:Nat}{x:Ob}(h:x.wfB n=true):x.wf n:=by
 induction x with
 | list xs=>exact λx hx=>V.wfB_h (List.all_eq_true.mp h x hx)
 | tup xs=>exact λx hx=>V.wfB_h (List.all_eq_true.mp h x hx)
 | sdict xs=>exact λx hx=>V.wfB_h (List.all_eq_true.mp h x hx)
 | idict xs=>exact λx hx=>V.wfB_h (List.all_eq_true.mp h x hx)
 | attrs xs=>exact λx hx=>V.wfB_h (List.all_eq_true.mp h x hx)
 | inst C d=>exact Mine.wfB_h h
 | _=>contradiction
noncomputable def obB (n:Nat):Addr×Ob->Bool
 | (a,ob)=>wfB n a&&ob.wfB n
noncomputable def zI9 (n:Nat) (o:jA):Bool:=o.all (obB n)
theorem YN {n:Nat}{o:jA}(h:zI9 n o=true):owf n o:=λp hp=>by obtain ⟨a,b⟩:=jP (List.all_eq_true.mp h p hp);exact ⟨wfB_h a,Ob.wfB_h b⟩
theorem okB {r:List Addr}{o:jA}{n:Nat}(e:r.length=n) (h:zI9 n o=true):SS.ok r ⟨o,[],n⟩:=⟨e,YN h,λ_ h=>absurd h List.not_mem_nil⟩
theorem zP {n:Nat}{xs:List V}(h:xs.all (V.wfB n)=true):∀ x ∈ xs,x.wf n:=λx hx=>V.wfB_h (List.all_eq_true.mp h x hx)
theorem zCc {ns:List Addr}{n:Nat}(h:∀ a ∈ ns,wfA n a) {a:Nat}(w:wfB ns.length a=true):wfA n (jL ns a):=by
 unfold jL;induction e:Nat.ble zx a using Bool.casesOn with
 | false =>show wfA n a;exact Qs (Nat.lt_of_not_le λq=>by have:=Nat.ble_eq_true_of_le q;rw [e] at this;contradiction)
 | true =>
  have h1:zx<=a:=Nat.le_of_ble_eq_true e;rcases zK1 w with w | ⟨w1,w2⟩
  ·exact absurd h1 (Nat.not_le.mpr w)
  ·rw [cond_true,w1,show Nat.beq 0 0=true from rfl,cond_true,List.getD_eq_getElem?_getD,List.getElem?_eq_getElem w2];exact h _ (List.getElem_mem _)
theorem V.ren_wf {ns:List Addr}{n:Nat}(h:∀ a ∈ ns,wfA n a) {x:V}(w:x.wfB ns.length=true):(x.ren ns).wf n:=by cases x<;>first | exact zCc h w | trivial
theorem Ob.ren_wf {ns:List Addr}{n:Nat}(h:∀ a ∈ ns,wfA n a) {x:Ob}(w:x.wfB ns.length=true):(x.ren ns).wf n:=by
 have L:∀ {xs:List V},xs.all (V.wfB ns.length)=true->∀ y ∈ xs.map (V.ren ns),y.wf n:=λw y hy=>by obtain ⟨x,hx,rfl⟩:=List.mem_map.mp hy;exact V.ren_wf h (List.all_eq_true.mp w x hx)
 have D:∀ {α:Type} {xs:List (α×V)},(xs.all λp=>p.2.wfB ns.length)=true->∀ y ∈ xs.map (λp=>(p.1,p.2.ren ns)),y.2.wf n:=λw y hy=>by obtain ⟨x,hx,rfl⟩:=List.mem_map.mp hy;exact V.ren_wf h (List.all_eq_true.mp w x hx)
 induction x with
 | list xs=>exact L w
 | tup xs=>exact L w
 | sdict xs=>exact D w
 | idict xs=>exact D w
 | attrs xs=>exact D w
 | inst C d=>exact zCc h w
 | _=>contradiction
theorem zAE {ns:List Addr}{n:Nat}(h:∀ a ∈ ns,wfA n a) {o:jA}(w:zI9 ns.length o=true):owf n (jC ns o):=λp hp=>by obtain ⟨q,hq,rfl⟩:=List.mem_map.mp hp;obtain ⟨a,b⟩:=jP (List.all_eq_true.mp w q hq);exact ⟨zCc h a,Ob.ren_wf h b⟩
noncomputable def jZ:V->V
 | .ref a=>.ref (hi a)
 | x=>x
theorem zIa {r:List Addr}{x:V}:(jZ x).ren r=x:=by cases x<;>first | rfl | exact congrArg V.ref zLe
theorem zM1 {n:Nat}{x:V}:(jZ x).wf n:=by cases x<;>first | exact zOD | trivial
theorem jl {r:List Addr}{xs:List V}:(xs.map jZ).map (V.ren r)=xs:=by rw [List.map_map];exact (List.map_congr_left λx _=>zIa).trans (List.map_id _)
theorem jy {c:Bool}{t u:Tree}(e:c=true) (h:t.holds):(Tree.br c t u).holds:=by subst e;exact h
theorem ZB {c:Bool}{t u:Tree}(e:c=false) (h:u.holds):(Tree.br c t u).holds:=by subst e;exact h
theorem zQ {r:List Addr}{Q:V->jA->Prop}{v:V}{o o0:jA}{n:Nat}(names:List Addr) (e:YE names o=some o0) (h:∀ t,(r++t).length=n->Q (v.ren (r++t)) (jC (r++t) o0)):(Tree.prop (j8 r Q v o n)).holds:=λt ht=>⟨names,o0,e,h t ht⟩
inductive FinQ (Q:V->jA->Prop) (o:jA):Fl->Prop
 | next (o':jA) (s:Sel o' o) (q:Q .none o'):FinQ Q o .next
 | ret (x:V) (o':jA) (s:Sel o' o) (q:Q x o'):FinQ Q o (.ret x)
noncomputable def zOm (W:Wd) (A:Around) (env:Env) (Q:V->jA->Prop):List (List Stmt)->jA->jB->Prop
 | [],o,_=>FinQ Q o .next
 | b::bs,o,n=>Es W A env b o n λf o n=>match f with
  | .next=>zOm W A env Q bs o n
  | .ret x=>FinQ Q o (.ret x)
noncomputable def zBW (e:Expr):Option (Expr×List Expr×List Keyword):=zDU e λf es ks _=>some (f,es,ks)
theorem Zf (e:Expr):(zBW e).elim True λq=>∃ p,e = .Call q.1 q.2.1 q.2.2 p:=Qv λ_ _ _ p e=>⟨p,e⟩
noncomputable def ifE (e:Expr):Option (Expr×Expr×Expr):=zFc e λt a b _=>some (t,a,b)
theorem zOn (e:Expr):(ifE e).elim True λq=>∃ p,e = .IfExp q.1 q.2.1 q.2.2 p:=zFd λ_ _ _ p e=>⟨p,e⟩
noncomputable def zG3 (st:Stmt):Option Expr:=zAo st λv _=>v
theorem zG4 (st:Stmt):(zG3 st).elim True λe=>∃ p,st = .Return (some e) p:=zCR λv p e=>YZ λx h=>⟨p,h▸e⟩
noncomputable def ifN (st:Stmt):Option (Expr×List Stmt×List Stmt):=zOO st λt b e _=>some (t,b,e)
theorem zBX (st:Stmt):(ifN st).elim True λq=>∃ p,st = .If q.1 q.2.1 q.2.2 p:=zLs λ_ _ _ p e=>⟨p,e⟩
noncomputable def tc (E:Est) (fr:Fr) (e:Expr):Option (Addr×List Expr):=(zBW e).elim none λq=>(J6 q.1).elim none λf=>Vq (q.2.2.isEmpty&&j0 q.2.1) ((fr.names.lookup f).elim none λk=>Vq (k==.globalImplicit) ((E.gl.lookup f).elim none λv=>v.ref?.elim none λg=>Vq (E.fn.contains g) (some (g,q.2.1))))
section
variable (F:Yv) (E:Est) (fr:Fr) (KT:Addr->List V->SS->Tree) (KE:V->SS->Tree)
noncomputable def zBY:Nat->Expr->SS->Tree
 | 0,_,_=>.fail
 | n + 1,e,s=>(tc E fr e).elim ((ifE e).elim ((J5 e).elim (F.e fr e s KE) λo=>cond (zAs o.1) (jS (two o.2) λq=>F.e fr q.1 s λx s=>Qu x s λb s=>.br b (zBY n q.2 s) (KE x.unT s)) (F.e fr e s KE))
   λq=>F.b fr q.1 s λc s=>.br c (zBY n q.2.1 s) (zBY n q.2.2 s))
  λp=>F.es fr p.2 s (KT p.1)
noncomputable def Q3:Nat->List Stmt->List (List Stmt)->SS->Tree
 | 0,_,_,_=>.fail
 | _ + 1,[],[],s=>KE .none s
 | n + 1,[],b::bs,s=>Q3 n b bs s
 | n + 1,st::r,bs,s=>(zG3 st).elim ((ifN st).elim (F.s fr st s λf s=>match f with
   | .next=>Q3 n r bs s
   | .ret v=>KE v s)
  λq=>F.b fr q.1 s λc s=>.br c (Q3 n q.2.1 (r::bs) s) (Q3 n q.2.2 (r::bs) s))
  λe=>zBY F E fr KT KE 5 e s
end
section
variable {E:Est} {F:Yv} {fr:Fr} {r:List Addr} {Q:V->jA->Prop} {KT:Addr->List V->SS->Tree} {KE:V->SS->Tree}
noncomputable def KEok (r:List Addr) (Q:V->jA->Prop) (KE:V->SS->Tree):Prop:=∀ t x s,SS.ok (r++t) s->(KE x s).holds->∃ o l,(jC (r++t) s.o).Perm (o++l)/\Q (x.ren (r++t)) o
noncomputable def zIb (E:Est) (r:List Addr) (Q:V->jA->Prop) (KT:Addr->List V->SS->Tree):Prop:=∀ t g xs s,SS.ok (r++t) s->(KT g xs s).holds->∃ o l k,(jC (r++t) s.o).Perm (o++l)/\k<=E.k/\Ct E.K E.mg E.mb k (.ref g) (xs.map (V.ren (r++t))) o Q
theorem KEok.ret {t:List Addr}{x:V}{s:SS}(h:KEok r Q KE) (ok:SS.ok (r++t) s) (k:(KE x s).holds):FinQ Q (jC (r++t) s.o) (.ret (x.ren (r++t))):=by obtain ⟨o,l,p,q⟩:=h _ _ _ ok k;exact .ret _ o (Sel.of_perm p) q
theorem yq (S:jU E F) (hE:KEok r Q KE) (hT:zIb E r Q KT):∀ (n:Nat) {e:Expr}{s:SS}{t:List Addr}{W:Wd}{A:Around}{env:Env},At E fr W A env (r++t) s->(zBY F E fr KT KE n e s).holds->Ev W A env e (jC (r++t) s.o) (jK (r++t) s.ns) λx o _=>FinQ Q o (.ret x)
 | 0,_,_,_,_,_,_,_,h=>False.elim h
 | n + 1,e,s,t,W,A,env,a,h=>by
  have plain:(F.e fr e s KE).holds->Ev W A env e (jC (r++t) s.o) (jK (r++t) s.ns) λx o _=>FinQ Q o (.ret x):=λh =>
   Ev.lift (S.e h W A env _ a) λt2 x s2 ok wx h=>by rw [List.append_assoc] at ok ⊢;exact hE.ret ok h
  replace h:((tc E fr e).elim _ _:Tree).holds:=h;induction e1:tc E fr e using Option.casesOn with
  | some p =>rw [e1] at h;exact jH e1 λq eq e1=>jH e1 λf ef e1=>zq e1 λhc e1=>jH e1 λk ek e1=>zq e1 λhk e1=>jH e1 λv ev e1=>jH e1 λg eg e1=>zq e1 λhg e1=>by obtain rfl:=Option.some.inj e1;obtain ⟨p,rfl⟩:=el (Zf e) eq;obtain ⟨p2,e2⟩:=VP ef;obtain ⟨h1,h2⟩:=jP hc;obtain rfl:=eq_of_beq hk;rw [jg eg] at ev;rw [e2,List.isEmpty_iff.mp h1];refine JD a.G (λQ q=>zT a ek ev q) (E.hfn _ hg) (Evs.lift (S.es h _ _ _ _ a) λt2 xs s2 ok wf h=>?_) h2;rw [List.append_assoc] at ok ⊢;obtain ⟨o,l,k,pp,hk,c⟩:=hT _ _ _ _ ok h;exact Cl.use c a.G a.R hk pp λx o' q=>.ret x o' (Sel.of_perm (.refl _)) q
  | none =>
   rw [e1] at h;replace h:((ifE e).elim _ _:Tree).holds:=h;induction e2:ifE e using Option.casesOn with
   | some q =>rw [e2] at h;obtain ⟨p,rfl⟩:=el (zOn e) e2;refine zDE (Bo.lift (S.b h W A env _ a) λt2 c s2 ok h=>?_);have a2:=a.next ok;rw [List.append_assoc] at a2 ⊢;exact brS.br (zc h) (yq S hE hT n a2) (yq S hE hT n a2)
   | none =>
    rw [e2] at h;replace h:((J5 e).elim _ _:Tree).holds:=h;induction e3:J5 e using Option.casesOn with
    | none=>rw [e3] at h;exact plain h
    | some o =>
     rw [e3] at h;replace h:(cond (zAs o.1) _ _:Tree).holds:=h;induction ea:zAs o.1 using Bool.casesOn with
     | false=>rw [ea] at h;exact plain h
     | true =>
      rw [ea] at h;obtain ⟨op,es⟩:=o;obtain ⟨p,rfl⟩:=el (VM e) e3;induction op with
      | Or=>contradiction
      | And =>
       refine jE h λq eq h=>?_;dsimp only at eq ⊢;rw [yL eq];refine zJa (Ev.lift (S.e h W A env _ a) λt2 x s1 ok wx h=>Tru.lift (Jp ok (zBJ h)) λt3 b s2 ok2 h=>yY h λeb h=>?_);have a2:=(a.next ok).next ok2
       rw [<- ok.ren (t:=t3) wx];rw [List.append_assoc,List.append_assoc] at a2 ⊢;induction b using Bool.casesOn with
       | true=>exact Br.t (zEt (yq S hE hT n a2 h))
       | false=>exact Br.neg rfl (hE.ret a2.ok (zGH eb▸h))
theorem yS (S:jU E F) (hE:KEok r Q KE) (hT:zIb E r Q KT):∀ (n:Nat) {b:List Stmt}{bs:List (List Stmt)}{s:SS}{t:List Addr}{W:Wd}{A:Around}{env:Env},At E fr W A env (r++t) s->(Q3 F E fr KT KE n b bs s).holds->zOm W A env Q (b::bs) (jC (r++t) s.o) (jK (r++t) s.ns)
 | 0,_,_,_,_,_,_,_,_,h=>False.elim h
 | n + 1,[],[],s,t,W,A,env,a,h=>JB (by obtain ⟨o,l,p,q⟩:=hE _ _ _ a.ok h;exact FinQ.next o (Sel.of_perm p) q)
 | n + 1,[],b::bs,s,t,W,A,env,a,h=>JB (yS S hE hT n a h)
 | n + 1,st::q,bs,s,t,W,A,env,a,h=>jx (by
  replace h:((zG3 st).elim _ _:Tree).holds:=h;induction e1:zG3 st using Option.casesOn with
  | some e =>rw [e1] at h;obtain ⟨p,rfl⟩:=el (zG4 st) e1;exact JW (Ev.mono (yq S hE hT 5 a h) λ_ _ _ q=>q)
  | none =>
   rw [e1] at h;replace h:((ifN st).elim _ _:Tree).holds:=h;induction e2:ifN st using Option.casesOn with
   | some c =>rw [e2] at h;obtain ⟨p,rfl⟩:=el (zBX st) e2;refine zHo (Bo.lift (S.b h W A env _ a) λt2 x s2 ok h=>?_);have a2:=a.next ok;rw [List.append_assoc] at a2 ⊢;exact brS.br (zc h) (λh=>Tr.mono (yS S hE hT n a2 h) λ_ _ _ q=>q.mono λf q=>by cases f<;>exact q) (λh=>Tr.mono (yS S hE hT n a2 h) λ_ _ _ q=>q.mono λf q=>by cases f<;>exact q)
   | none =>
    rw [e2] at h;refine Ex.lift (S.s h W A env _ a) λt2 f s2 ok wf h=>?_;have a2:=a.next ok;rw [List.append_assoc] at a2 ⊢;induction f with
    | next=>exact yS S hE hT n a2 h
    | ret v=>exact hE.ret a2.ok h)
noncomputable def inT (F:Yv) (E:Est) (KT:Addr->List V->SS->Tree) (KE:V->SS->Tree) (n:Nat) (c:Code) (xs:List V) (s:SS):Tree:=inG c xs s λfr s=>Q3 F E fr KT KE n c.body [] s
theorem zIc {f:Addr}{c:Code}{xs xs':List V}{o:jA}{n0 n:Nat}(hE:KEok r Q KE) (hT:zIb E.dn r Q KT) (hc:EnterOk E.K E.mg E.mb f c) (ok:SS.ok r ⟨o,[],n0⟩) (hx:∀ x ∈ xs,x.wf n0) (hb:c.bind xs=some xs')
  {T:Tree} (e:inT (go n E.dn) E.dn KT KE 60 c xs' ⟨o,[],n0⟩=T) (h:T.holds):Ct E.K E.mg E.mb (E.dn.k + 1) (.ref f) (xs.map (V.ren r)) (jC r o) Q :=
 zI7 hc ok hx hb (h:=(by rw [<- e] at h;exact h:(inT (go n E.dn) E.dn KT KE 60 c xs' ⟨o,[],n0⟩).holds)) λfr u W A env s2 a h =>
  Tr.mono (yS (zN n E.dn) hE hT 60 a h) λ_ _ _ q=>q.mono λf q=>by
   induction f with
   | next=>cases q with | next o' s q=>exact ⟨o',s,q⟩
   | ret x=>cases q with | ret _ o' s q=>exact ⟨o',s,q⟩
end
structure Bd where
 (st de li en wa sa s0 s1 s2 s3 s4 s5 m0 m1 m2 m3 m4 m5:Int)
noncomputable def jb (B:Bd):List (Int×V):=[(261,.int B.s0),(262,.int B.s1),(320,.int B.s2),(321,.int B.s3),(322,.int B.s4),(323,.int B.s5),
 (773,.int B.m0),(774,.int B.m1),(832,.int B.m2),(833,.int B.m3),(834,.int B.m4),(835,.int B.m5)]
noncomputable def j6 (p:Addr) (B:Bd):List (Str×V):=[("status",.int B.st),("delegated",.int B.de),("lines_delegated",.int B.li),("enabled",.int B.en),("waiting",.int B.wa),("satp",.int B.sa),
 ("cycles",.int 0),("retired",.int 0),("timer",.none),("hart",.int 0),("plain",.ref p)]
noncomputable abbrev jI (b d p:Addr) (B:Bd):jA:=[(b,.inst 397 d),(d,.attrs (j6 p B)),(p,.idict (jb B))]
noncomputable def j5 (wa n:Int) (c:Bool):Int:=if c then jd wa (1 * 2 ^ n.toNat) else la wa (lx 4294967295 (1 * 2 ^ n.toNat))
noncomputable def zR (B:Bd) (cause:Int):Bool:=(la ((if la cause 2147483648 != 0 then B.li else B.de) / 2 ^ (la cause 31).toNat) 1==1)
noncomputable def z8 (v cause:Int):Int:=if la v 1 != 0&&la cause 2147483648 != 0 then la (la v (lx 4294967295 3) + 4 * la cause 31) 4294967295 else la v (lx 4294967295 3)
noncomputable def zD (B:Bd):Int×Bd :=
 let m:=la B.st 6144 / 2048
 let k:=if la B.st 128 != 0 then 8 else 0
 let s:=jd (jd (la B.st (lx 4294967295 (jd 8 6144))) k) 128
 (m,{ B with st:=if m != 3 then la s (lx 4294967295 131072) else s })
noncomputable def zE (B:Bd):Int×Bd :=
 let m:=if la B.st 256 != 0 then 1 else 0
 let k:=if la B.st 32 != 0 then 2 else 0
 (m,{ B with st:=jd (jd (la B.st (lx 4294967295 (jd (jd 2 256) 131072))) k) 32 })
noncomputable def jQ (B:Bd) (cause value place mode:Int):Int×Int×Bd :=
 if !(mode==3)&&zR B cause then
  (1,z8 B.s0 cause,{ B with s3:=place,s4:=cause,s5:=la value 4294967295,st:=jd (jd (la B.st (lx 4294967295 (jd (jd 32 2) 256))) (if la B.st 2 != 0 then 32 else 0)) (256 * if mode==1 then 1 else 0) })
 else
  (3,z8 B.m0 cause,{ B with m3:=place,m4:=cause,m5:=la value 4294967295,st:=jd (jd (la B.st (lx 4294967295 (jd (jd 128 8) 6144))) (if la B.st 8 != 0 then 128 else 0)) (mode * 2 ^ 11) })
noncomputable def ze (s:Int):List (Int×Int)->V
 | []=>.none
 | (n,m)::r=>if la (s / m) 1 != 0 then .int (jd 2147483648 n) else ze s r
theorem zDd {s n m:Int}{r:List (Int×Int)}:ze s ((n,m)::r)=if la (s / m) 1 != 0 then .int (jd 2147483648 n) else ze s r:=rfl
noncomputable def yM:List (Int×Int):=[(11,2048),(3,8),(7,128),(9,512),(1,2),(5,32)]
noncomputable def jm (wa en li mode:Int) (sie mie:Bool):V :=
 if la wa en==0 then .none else
 let own:=if mode==3&&!mie then 0 else la (la wa en) (lx 4294967295 li)
 let handed:=if mode==3||(mode==1&&!sie) then 0 else la (la wa en) li
 ze (if own != 0 then own else handed) yM
noncomputable def zAF (n:Int):Int:=([la (n / 1) 1 * 2,la (n / 2) 1 * 32,la (n / 4) 1 * 512]:List Int).sum
noncomputable def zAG (n:Int):Int:=([la (n / 1) 1 * 2,la (n / 2) 1 * 8,la (n / 4) 1 * 32,la (n / 8) 1 * 128,la (n / 16) 1 * 512,la (n / 32) 1 * 2048]:List Int).sum
noncomputable def B00:Bd:={ st:=0,de:=0,li:=0,en:=0,wa:=0,sa:=0,s0:=0,s1:=7,s2:=0,s3:=0,s4:=0,s5:=0,m0:=0,m1:=7,m2:=0,m3:=0,m4:=0,m5:=0 }
noncomputable def YF (level:Int):Int:=if level=0 then 1 else 3
noncomputable def YG (level:Int):Int:=if level=0 then 3 else 1
noncomputable def zAH (B:Bd):List V:=[.int (la B.st 917504),.int B.sa,.int B.de,.int B.li,.int B.en,.int B.wa]
noncomputable def zAI (B:Bd):List V:=[.int B.s0,.int B.s1,.int B.s2,.int B.s3,.int B.s4,.int B.s5,.int (la (la B.st 786722 / 2) 1),.int (la (la B.st 786722 / 32) 1),.int (la (la B.st 786722 / 256) 1)]
noncomputable def zAJ (B:Bd):List V:=[.int B.m0,.int B.m1,.int B.m2,.int B.m3,.int B.m4,.int B.m5,.int (la (B.st / 8) 1),.int (la (B.st / 128) 1),.int (la (B.st / 2048) 3)]
structure Lv where
 (v0 v1 v2 v3 v4 v5 l a x y:Int)
structure Cm where
 (r de li en wa sa:Int)
noncomputable def jM (S:Lv) (sx:Int) (M:Lv) (mx:Int) (c:Cm):Bd:={ st:=zw S.l S.a sx M.l M.a mx c.r,de:=c.de,li:=c.li,en:=c.en,wa:=c.wa,sa:=c.sa,s0:=S.v0,s1:=S.v1,s2:=S.v2,s3:=S.v3,s4:=S.v4,s5:=S.v5,m0:=M.v0,m1:=M.v1,m2:=M.v2,m3:=M.v3,m4:=M.v4,m5:=M.v5 }
noncomputable def Lv.row (L:Lv) (z:Int):List V:=[.int L.v0,.int L.v1,.int L.v2,.int L.v3,.int L.v4,.int L.v5,.int L.l,.int L.a,.int z]
noncomputable def Cm.row (c:Cm):List V:=[.int (c.r * 131072),.int c.sa,.int c.de,.int c.li,.int c.en,.int c.wa]
structure Z4 (S:Lv) (sx:Int) (M:Lv) (mx:Int) (c:Cm):Prop where
 sl:S.l ∈ b2
 sa:S.a ∈ b2
 sx:sx ∈ b2
 ml:M.l ∈ b2
 ma:M.a ∈ b2
 mx:mx ∈ b3
 r:c.r ∈ b8
noncomputable def causesL:List Int:=[0,1,2,3,4,5,6,7,8,9,12,13,15]
noncomputable def linesL:List Int:=[1,5,9]
noncomputable def Ye (c:Int):Prop:=c ∈ causesL\/∃ s ∈ linesL,c=2147483648 + s
noncomputable def Jc (v cause:Int):Int:=(v / 4 * 4 + 4 * (cause % 2147483648) * (if (decide (cause >= 2147483648)&&(v % 2==1))=true then 1 else 0)) % 4294967296
noncomputable def zBZ (L:Lv) (cause value place:Int):Lv:={ L with v3:=place,v4:=cause,v5:=value % 4294967296,l:=0,a:=L.l }
section
variable {S M:Lv} {sx mx:Int} {c:Cm}
theorem VW (h:Z4 S sx M mx c):zAI (jM S sx M mx c)=S.row sx:=by obtain ⟨h1,h2,h3⟩:=zPs h.sl h.sa h.sx h.ml h.ma h.mx h.r;unfold zAI Lv.row jM;simp only [h1,h2,h3]
theorem VX (h:Z4 S sx M mx c):zAJ (jM S sx M mx c)=M.row mx:=by obtain ⟨h1,h2,h3⟩:=zPt h.sl h.sa h.sx h.ml h.ma h.mx h.r;unfold zAJ Lv.row jM;simp only [h1,h2,h3]
theorem zB0 (h:Z4 S sx M mx c):zAH (jM S sx M mx c)=c.row:=by unfold zAH Cm.row jM;simp only [zIF h.sl h.sa h.sx h.ml h.ma h.mx h.r]
end
theorem Jt (v:Int):la v 4294967295=v % 4294967296:=kbt_mask v 32
theorem zCd (v:Int):la v 1=v % 2:=kbt_mask v 1
theorem zDe {v:Int}(h0:0<=v) (h1:v < 4294967296):la v (lx 4294967295 3)=v / 4 * 4:=by
 rw [show lx 4294967295 3=4294967292 from by decide +kernel];show Builtin.bitAnd v 4294967292=_;rw [kbt_halves,show (4294967292:Int) / 2=2147483646 from rfl,kbt_halves,show (2147483646:Int) / 2=2 ^ 30 - 1 from rfl,kbt_mask,if_neg (λh=>absurd h.2 (by decide)),if_neg (λh=>absurd h.2 (by decide))];have e:v / 2 / 2=v / 4:=by first | exact Int.ediv_ediv_eq_ediv_mul v (by decide) | exact Int.ediv_ediv_of_nonneg (by decide) | exact Int.ediv_ediv (by decide)
 rw [e,Int.emod_eq_of_lt (Int.ediv_nonneg h0 (by decide)) (Int.ediv_lt_of_lt_mul (by decide) h1),Int.add_zero,Int.add_zero,<- Int.mul_assoc,Int.mul_comm];rfl
theorem Jd {c:Int}(h:Ye c):la c 31=c % 2147483648/\(la c 2147483648 != 0)=decide (c >= 2147483648)/\0<=la c 31/\la c 31<=31:=by
 have h1:(causesL.all λc=>la c 31==c % 2147483648&&((la c 2147483648 != 0)==decide (c >= 2147483648))&&decide (0<=la c 31)&&decide (la c 31<=31))=true:=by decide +kernel
 have h2:(linesL.all λs=>la (2147483648 + s) 31==(2147483648 + s) % 2147483648&&((la (2147483648 + s) 2147483648 != 0)==decide ((2147483648 + s) >= 2147483648))&&decide (0<=la (2147483648 + s) 31)&&decide (la (2147483648 + s) 31<=31))=true:=by decide +kernel
 simp only [List.all_eq_true,Bool.and_eq_true,beq_iff_eq,decide_eq_true_eq] at h1 h2;rcases h with h | ⟨s,h,rfl⟩
 ·have:=h1 c h;exact ⟨this.1.1.1,this.1.1.2,this.1.2,this.2⟩
 ·have:=h2 s h;exact ⟨this.1.1.1,this.1.1.2,this.1.2,this.2⟩
theorem VY {v cause:Int}(hc:Ye cause) (h0:0<=v) (h1:v < 4294967296):z8 v cause=Jc v cause:=by
 obtain ⟨c1,c2,_,_⟩:=Jd hc;unfold z8 Jc;rw [c1,c2,zDe h0 h1,zCd,Jt];have lo:v / 4 * 4 % 4294967296=v / 4 * 4:=Int.emod_eq_of_lt (Int.mul_nonneg (Int.ediv_nonneg h0 (by decide)) (by decide)) (Int.lt_of_le_of_lt (Int.ediv_mul_le v (by decide)) h1);cases decide (cause >= 2147483648) with
 | false=>rw [Bool.and_false,if_neg Bool.false_ne_true,Bool.false_and,if_neg Bool.false_ne_true,Int.mul_zero,Int.add_zero,lo]
 | true =>
  rcases Int.emod_two_eq v with q | q<;>rw [q]
  ·rw [if_neg (by decide),if_neg (by decide),Int.mul_zero,Int.add_zero,lo]
  ·rw [if_pos (by decide),if_pos (by decide),Int.mul_one]
theorem jN {x:Int}(h:x ∈ b2):x.natAbs < 2 ^ 64:=(by decide:∀ x ∈ b2,x.natAbs < 2 ^ 64) x h
theorem zS {x:Int}(h:x ∈ b3):x.natAbs < 2 ^ 64:=(by decide:∀ x ∈ b3,x.natAbs < 2 ^ 64) x h
structure Okl (level:Int) (L:Lv):Prop where
 v0:0<=L.v0
 v1:L.v0 < 4294967296
 l:L.l ∈ b2
 a:L.a ∈ b2
 xy:(L.x=0/\L.y=0)\/(L.x=1/\L.y=1)\/(L.x=YF level/\L.y=YG level)
theorem Okl.b0 {L:Lv}(h:Okl 0 L):L.x ∈ b2/\L.y ∈ b3:=by rcases h.xy with ⟨a,b⟩ | ⟨a,b⟩ | ⟨a,b⟩<;>rw [a,b]<;>decide
theorem Okl.b1 {L:Lv}(h:Okl 1 L):L.x ∈ b3/\L.y ∈ b2:=by rcases h.xy with ⟨a,b⟩ | ⟨a,b⟩ | ⟨a,b⟩<;>rw [a,b]<;>decide
theorem JT {L0 L1:Lv}{c:Cm}(h0:Okl 0 L0) (h1:Okl 1 L1) (r:c.r ∈ b8):Z4 L0 L0.x L1 L1.x c:=⟨h0.l,h0.a,h0.b0.1,h1.l,h1.a,h1.b1.1,r⟩
theorem JU {L0 L1:Lv}{c:Cm}(h0:Okl 0 L0) (h1:Okl 1 L1) (r:c.r ∈ b8):Z4 L1 L1.y L0 L0.y c:=⟨h1.l,h1.a,h1.b1.2,h0.l,h0.a,h0.b0.2,r⟩
noncomputable def hnd (c:Cm) (cause:Int):Bool:=la ((if la cause 2147483648 != 0 then c.li else c.de) / 2 ^ (la cause 31).toNat) 1==1
noncomputable def jq (x s:Int):Int:=la (x / 2 ^ s.toNat) 1
noncomputable def jR (c:Cm) (lv:Int):List Int:=(causesL.filter λs=>jq c.de s==1 - lv)++((linesL.filter λs=>jq c.li s==1 - lv).map λs=>2147483648 + s)
structure Mir (c0 c1:Cm):Prop where
 de:∀ s ∈ causesL,jq c1.de s=1 - jq c0.de s
 li:∀ s ∈ linesL,jq c1.li s=1 - jq c0.li s
theorem zAK (c:Cm) (lv:Int):(jR c lv).length<=16:=by unfold jR;rw [List.length_append,List.length_map];have h1:=List.length_filter_le (λs=>jq c.de s==1 - lv) causesL;have h2:=List.length_filter_le (λs=>jq c.li s==1 - lv) linesL;have e1:causesL.length=13:=rfl;have e2:linesL.length=3:=rfl;omega
theorem zG5 (c:Cm) {s:Int}(h:s ∈ causesL):hnd c s=(jq c.de s==1):=by
 have:∀ s ∈ causesL,(la s 2147483648 != 0)=false/\la s 31=s:=by decide +kernel
 obtain ⟨a,b⟩:=this s h;unfold hnd jq;rw [a,b];rfl
theorem zG6 (c:Cm) {s:Int}(h:s ∈ linesL):hnd c (2147483648 + s)=(jq c.li s==1):=by
 have:∀ s ∈ linesL,(la (2147483648 + s) 2147483648 != 0)=true/\la (2147483648 + s) 31=s:=by decide +kernel
 obtain ⟨a,b⟩:=this s h;unfold hnd jq;rw [a,b];rfl
theorem VZ {c0 c1:Cm}(M:Mir c0 c1) {lv cause:Int}(hl:lv=0\/lv=1) (h:cause ∈ jR c0 lv):Ye cause/\hnd c0 cause=(lv==0)/\hnd c1 cause=(lv==1):=by
 unfold jR at h;rw [List.mem_append,List.mem_filter,List.mem_map] at h;rcases h with ⟨h,e⟩ | ⟨s,h,rfl⟩
 ·refine ⟨.inl h,?_⟩;rw [zG5 _ h,zG5 _ h,M.de _ h];simp only [beq_iff_eq] at e;rw [e];rcases hl with rfl | rfl<;>decide
 ·rw [List.mem_filter] at h;obtain ⟨h,e⟩:=h;refine ⟨.inr ⟨s,h,rfl⟩,?_⟩;rw [zG6 _ h,zG6 _ h,M.li _ h];simp only [beq_iff_eq] at e;rw [e];rcases hl with rfl | rfl<;>decide
theorem zOo (x s:Int):jq x s=0\/jq x s=1:=by unfold jq;rw [zCd];exact Int.emod_two_eq _
theorem zB1 (c:Cm):jR c 0=[]->jR c 1≠[]:=by
 intro h q;have a:(0:Int) ∈ causesL:=by decide
 have h0:(0:Int) ∉ jR c 0:=by rw [h];simp
 have h1:(0:Int) ∉ jR c 1:=by rw [q];simp
 unfold jR at h0 h1;simp only [List.mem_append,List.mem_filter,a,true_and,beq_iff_eq,not_or] at h0 h1;have:=zOo c.de 0;omega
noncomputable def enL:List Int:=[0,2,32,34,512,514,544,546]
noncomputable def waL:List Int:=(List.range 64).map λ(n:Nat)=>zAG (Int.ofNat n)
theorem zB2 {n:Int}(h0:0<=n) (h1:n < 8):zAF n ∈ enL:=by
 have:∀ k:Nat,k < 8->zAF (k:Int) ∈ enL:=by decide +kernel
 have:=this n.toNat ((Int.toNat_lt h0).mpr h1);rwa [Int.toNat_of_nonneg h0] at this
theorem zB3 {n:Int}(h0:0<=n) (h1:n < 64):zAG n ∈ waL:=by unfold waL;rw [List.mem_map];exact ⟨n.toNat,List.mem_range.mpr ((Int.toNat_lt h0).mpr h1),by rw [show Int.ofNat n.toNat=n from Int.toNat_of_nonneg h0]⟩
structure Lok (side:Int) (c0 c1:Cm):Prop where
 en:c0.en ∈ enL
 en1:c1.en=c0.en
 wa:c0.wa ∈ waL
 wa1:c1.wa=c0.wa
 li:(side=0/\c0.li=c0.en/\c1.li=546 - c0.en)\/(side=1/\c0.li=546 - c0.en/\c1.li=c0.en)
noncomputable def YO (lit:Int):List Int:=([9,1,5]:List Int).filter λs=>jq lit s==1
noncomputable def yZ:List Int->V
 | []=>.none
 | s::_=>.int (2147483648 + s)
noncomputable def vEq (a b:V):Bool:=match a with
 | .none=>b.noneB.elim false id
 | .int a=>b.int?.elim false (a==·)
 | _=>false
theorem zId (b:V):b.noneB.elim True λc=>cond c (b = .none) True:=by cases b<;>first | exact rfl | exact trivial
theorem zAL {a b:V}(h:vEq a b=true):a=b:=by
 induction a with
 | none=>exact elF h λc hc h=>(Vr (el (P:=λc=>cond c (b = .none) True) (zId b) hc) h).symm
 | int a=>exact elF h λc hc h=>by rw [eq_of_beq h,jk hc]
 | _=>exact nomatch h
theorem zG7:(waL.all λwa=>enL.all λen=>[true,false].all λs=>[true,false].all λm =>
  vEq (jm wa en en 0 s m) (yZ (YO (la en wa)))&&vEq (jm wa en (546 - en) 0 s m) (yZ (YO (la en wa))) &&
  vEq (jm wa en en 1 s m) (if s then yZ (YO (la en wa)) else .none)&&vEq (jm wa en (546 - en) 3 s m) (if m then yZ (YO (la en wa)) else .none))=true:=by decide +kernel
theorem YP {wa en:Int}(hw:wa ∈ waL) (he:en ∈ enL) (s m:Bool):jm wa en en 0 s m=yZ (YO (la en wa))/\jm wa en (546 - en) 0 s m=yZ (YO (la en wa)) /\
  jm wa en en 1 s m=(if s then yZ (YO (la en wa)) else .none)/\jm wa en (546 - en) 3 s m=(if m then yZ (YO (la en wa)) else .none):=by
 have:=zG7;simp only [List.all_eq_true,Bool.and_eq_true] at this;have:=this wa hw en he s (by cases s<;>simp) m (by cases m<;>simp);exact ⟨zAL this.1.1.1,zAL this.1.1.2,zAL this.1.2,zAL this.2⟩
theorem zG8 {wa en s:Int}(hw:wa ∈ waL) (he:en ∈ enL) (h:s ∈ YO (la en wa)):s ∈ linesL/\jq en s=1/\jq (546 - en) s=0:=by
 have:(waL.all λwa=>enL.all λen=>(YO (la en wa)).all λs=>linesL.contains s&&jq en s==1&&jq (546 - en) s==0)=true:=by decide +kernel
 simp only [List.all_eq_true,Bool.and_eq_true,beq_iff_eq] at this;have:=this wa hw en he s h;exact ⟨by simpa using this.1.1,this.1.2,this.2⟩
theorem Q4 {wa n:Int}(hw:wa ∈ waL) (hn:n ∈ ([1,5,9,3,7,11]:List Int)) (b:Bool):j5 wa n b ∈ waL/\jd (la wa (4294967295 - 1 * 2 ^ n.toNat)) ((if b=true then 1 else 0) * 2 ^ n.toNat)=j5 wa n b:=by
 have:(waL.all λwa=>([1,5,9,3,7,11]:List Int).all λn=>[true,false].all λb=>waL.contains (j5 wa n b)&&jd (la wa (4294967295 - 1 * 2 ^ n.toNat)) ((if b=true then 1 else 0) * 2 ^ n.toNat)==j5 wa n b)=true:=by decide +kernel
 simp only [List.all_eq_true,Bool.and_eq_true,beq_iff_eq] at this;have:=this wa hw n hn b (by cases b<;>simp);exact ⟨by simpa using this.1,this.2⟩
inductive NOk (lv:Int) (N:jA):Nat->List V->Prop
 | nil {k}:NOk lv N k []
 | snoc {k N0 t m x y place let_}:NOk lv N k N0->Has t (.tup [.ref m,.int place,.int let_]) N->Has m (.tup [.int x,.int y]) N->let_ ∈ b2->0<=place/\place % 4=0->place < 4294967296 ->
   ((x=0/\y=0)\/(x=1/\y=1)\/(x=YF lv/\y=YG lv/\N0≠[]))->NOk lv N (k + 1) (N0++[.ref t])
theorem NOk.len {lv:Int}{N:jA}{k:Nat}{N0:List V}(h:NOk lv N k N0):N0.length<=k:=by
 induction h with
 | nil=>simp
 | snoc _ _ _ _ _ _ _ ih=>rw [List.length_append];simpa using ih
theorem NOk.up {lv:Int}{N:jA}{k k':Nat}{N0:List V}(h:NOk lv N k N0) (hk:k<=k'):NOk lv N k' N0:=by
 induction h generalizing k' with
 | nil=>exact .nil
 | snoc _ a b c d e f ih =>
  induction k' with
  | zero=>omega
  | succ k'=>exact .snoc (ih (by omega)) a b c d e f
theorem NOk.tail {lv:Int}{N:jA}{k:Nat}{N0:List V}{p:Addr×Ob}(h:NOk lv N k N0):NOk lv (p::N) k N0:=by
 induction h with
 | nil=>exact .nil
 | snoc _ a b c d e f ih=>exact .snoc ih (.tail a) (.tail b) c d e f
theorem NOk.pop {lv:Int}{N:jA}{k:Nat}{N0:List V}(h:NOk lv N k N0) (hne:N0≠[]):∃ N0' t m x y place let_,N0=N0'++[.ref t]/\NOk lv N k N0'/\Has t (.tup [.ref m,.int place,.int let_]) N/\Has m (.tup [.int x,.int y]) N/\let_ ∈ b2/\(0<=place/\place % 4=0)/\place < 4294967296 /\
  ((x=0/\y=0)\/(x=1/\y=1)\/(x=YF lv/\y=YG lv/\N0'≠[])):=by
 induction h with
 | nil=>exact absurd rfl hne
 | snoc a b c d e f g=>exact ⟨_,_,_,_,_,_,_,rfl,a.up (Nat.le_succ _),b,c,d,e,f,g⟩
structure WOk (k:Nat) (side xa xb:Int) (L0 L1:Lv) (c0 c1:Cm) (N0 N1:List V) (N:jA):Prop where
 o0:Okl 0 L0
 o1:Okl 1 L1
 r0:c0.r ∈ b8
 r1:c1.r ∈ b8
 mir:Mir c0 c1
 lok:Lok side c0 c1
 modes:(xa=0/\xb=0)\/(xa=1/\xb=1)\/(xa=YF 0/\xb=YG 0/\N0≠[]/\jR c0 0≠[])\/(xa=YF 1/\xb=YG 1/\N1≠[]/\jR c0 1≠[])
 e0:NOk 0 N k N0
 e1:NOk 1 N k N1
theorem WOk.up {k k':Nat}{side xa xb:Int}{L0 L1:Lv}{c0 c1:Cm}{N0 N1:List V}{N:jA}(h:WOk k side xa xb L0 L1 c0 c1 N0 N1 N) (hk:k<=k'):WOk k' side xa xb L0 L1 c0 c1 N0 N1 N :=
 ⟨h.o0,h.o1,h.r0,h.r1,h.mir,h.lok,h.modes,h.e0.up hk,h.e1.up hk⟩
theorem NOk.perm {lv:Int}{N N':jA}{k:Nat}{N0:List V}(p:N.Perm N') (h:NOk lv N k N0):NOk lv N' k N0:=by
 induction h with
 | nil=>exact .nil
 | snoc _ a b c d e f ih=>exact .snoc ih (a.perm p) (b.perm p) c d e f
section
variable {w:World} {mg mb:Str->Option Value}
theorem yF {α:Type}{c:Bool}{x y:α}(h:c=true):(if c=true then x else y)=x:=if_pos h
theorem zu {α:Type}{c:Bool}{x y:α}(h:c=false):(if c=true then x else y)=y:=by rw [h];rfl
noncomputable def pkT (L:V->Tree) (s:Int):Tree:=.br (la (s / 2048) 1 != 0) (L (.int 2147483659)) (.br (la (s / 8) 1 != 0) (L (.int 2147483651)) (.br (la (s / 128) 1 != 0) (L (.int 2147483655)) (.br (la (s / 512) 1 != 0) (L (.int 2147483657)) (.br (la (s / 2) 1 != 0) (L (.int 2147483649)) (.br (la (s / 32) 1 != 0) (L (.int 2147483653)) (L .none))))))
theorem Z5 {L:V->Tree}{c:Bool}{t u:Tree}{x y:V}(k1:(L x).holds->t.holds) (k2:(L y).holds->u.holds) (h:(L (if c=true then x else y)).holds):(Tree.br c t u).holds:=by cases c;exact k2 h;exact k1 h
theorem Q5 {L:V->Tree}{s:Int}(h:(L (ze s yM)).holds):(pkT L s).holds :=
 Z5 id (Z5 id (Z5 id (Z5 id (Z5 id (Z5 (x:=.int 2147483653) (y:=.none) id id))))) h
theorem zB4 {r:List Addr}{s:Int}:∀ l:List (Int×Int),(ze s l).ren r=ze s l
 | []=>rfl
 | (n,m)::q=>by
  rw [zDd];cases la (s / m) 1 != 0
  ·exact zB4 q
  ·rfl
theorem V0 {r:List Addr}{wa en li mode:Int}{s m:Bool}:(jm wa en li mode s m).ren r=jm wa en li mode s m:=by
 unfold jm;cases la wa en==0
 ·exact zB4 _
 ·rfl
theorem zM2 {wa en li:Int}{s m:Bool}(q:(la wa en==0)=false):(if (la (la wa en) (lx 4294967295 li) != 0)=true then ze (la (la wa en) (lx 4294967295 li)) yM else ze (la (la wa en) li) yM)=jm wa en li 0 s m:=by unfold jm;rw [q];show _=ze (if (la (la wa en) (lx 4294967295 li) != 0)=true then _ else _) yM;cases la (la wa en) (lx 4294967295 li) != 0<;>rfl
theorem pick_0:ze 0 yM = .none:=by rfl
theorem zM3 {wa en li x:Int}{m:Bool}(q:(la wa en==0)=false):(if (x==0)=true then (if (la (la wa en) (lx 4294967295 li) != 0)=true then ze (la (la wa en) (lx 4294967295 li)) yM else .none)
  else (if (la (la wa en) (lx 4294967295 li) != 0)=true then ze (la (la wa en) (lx 4294967295 li)) yM else ze (la (la wa en) li) yM))=jm wa en li 1 (x != 0) m:=by
 unfold jm bne;rw [q];cases x==0
 ·show _=ze (if (!(la (la wa en) (lx 4294967295 li)==0))=true then _ else _) yM;cases la (la wa en) (lx 4294967295 li)==0<;>rfl
 ·show _=ze (if (!(la (la wa en) (lx 4294967295 li)==0))=true then _ else 0) yM;cases la (la wa en) (lx 4294967295 li)==0
  ·rfl
  ·exact pick_0.symm
theorem zM4 {wa en li x:Int}{s:Bool}(q:(la wa en==0)=false):(if (x==0)=true then V.none
  else (if (la (la wa en) (lx 4294967295 li) != 0)=true then ze (la (la wa en) (lx 4294967295 li)) yM else .none))=jm wa en li 3 s (x != 0):=by
 unfold jm bne;rw [q];cases x==0
 ·show _=ze (if (!(la (la wa en) (lx 4294967295 li)==0))=true then _ else 0) yM;cases la (la wa en) (lx 4294967295 li)==0
  ·rfl
  ·exact pick_0.symm
 ·simp [pick_0]
noncomputable def Zg (b:Addr) (v c:Int) (y:V) (o:jA):Prop:=y = .int (z8 v c)/\o=[]
theorem zIe (b:Addr) (v c:Int) (h:IntMulOk 4 (la c 31)):Ct (Mine.KP.heap_1 w.params) mg mb 1 (.ref 359) [.ref b,.int v,.int c] ([]) (Zg b v c):=by
 refine zM (E:=EE w mg mb 1) (r:=[b]) (xs:=[.ref 100000,.int v,.int c]) (o:=[]) (n0:=1) (n:=60) (zGT w mg mb).2 (okB rfl rfl) (zP rfl) rfl (T:=.br (la v 1 != 0) (.br (la c 2147483648 != 0) (.side (IntMulOk 4 (la c 31)) (.prop (j8 [b] (Zg b v c) (.int (la (la v 4294967292 + 4 * la c 31) 4294967295)) [] 2))) (.prop (j8 [b] (Zg b v c) (.int (la v 4294967292)) [] 2))) (.prop (j8 [b] (Zg b v c) (.int (la v 4294967292)) [] 2))) ?e ?h;case e=>kernel_rfl
 case h =>refine jY (λq=>jY (λq2=>⟨h,zQ [] rfl λt _=>⟨by unfold z8;rw [q,q2];rfl,rfl⟩⟩) (λq2=>zQ [] rfl λt _=>⟨by unfold z8;rw [q,q2];rfl,rfl⟩)) λq=>zQ [] rfl λt _=>⟨by unfold z8;rw [q];rfl,rfl⟩
noncomputable def zAM (u v:Int) (y:V) (o:jA):Prop:=y = .int (yy u v)/\o=[]
theorem zIf (u v:Int):Ct (Mine.KP.heap_1 w.params) mg mb 1 (.ref 244) [.int u,.int v] ([]) (zAM u v):=by
 refine zM (E:=EE w mg mb 1) (r:=[]) (xs:=[.int u,.int v]) (o:=[]) (n0:=0) (n:=60) (zGP w mg mb).2 (okB rfl rfl) (zP rfl) rfl (T:=.br (la (la v 924074) 6144==4096) (.prop (j8 [] (zAM u v) (.int (jd (la (la v 924074) 4294961151) (la u 6144))) [] 1)) (.prop (j8 [] (zAM u v) (.int (la v 924074)) [] 1))) ?e ?h;case e=>kernel_rfl
 case h =>refine jY (λq=>zQ [] rfl λt _=>⟨by unfold yy;rw [if_pos q];rfl,rfl⟩) λq=>zQ [] rfl λt _=>⟨by unfold yy;rw [zu q];rfl,rfl⟩
noncomputable def Yf (b d p:Addr) (B:Bd) (cause mode:Int) (y:V) (o:jA):Prop:=y = .bool (!(mode==3)&&zR B cause)/\o=jI b d p B
theorem zG9 (b d p:Addr) (B:Bd) (cause mode:Int) (h:0<=la cause 31):Ct (Mine.KP.heap_1 w.params) mg mb 1 (.ref 345) [.ref b,.int cause,.int mode] (jI b d p B) (Yf b d p B cause mode):=by
 refine zM (E:=EE w mg mb 1) (r:=[b,d,p]) (xs:=[.ref 100000,.int cause,.int mode]) (o:=jI 100000 100002 100004 B) (n0:=3) (n:=60) (zGR w mg mb).2 (okB rfl rfl) (zP rfl) rfl (T:=.br (mode==3) (.prop (j8 [b,d,p] (Yf b d p B cause mode) (.bool Bool.false) [(100000,.inst 397 100002),(100002,.attrs (j6 100004 B)),(100004,.idict (jb B))] 4)) (.br (la cause 2147483648 != 0) (.br (Decidable.decide (0<=la cause 31)) (.prop (j8 [b,d,p] (Yf b d p B cause mode) (.bool (la (B.li / ↑(2 ^ (la cause 31).toNat)) 1==1)) [(100000,.inst 397 100002),(100002,.attrs (j6 100004 B)),(100004,.idict (jb B))] 4)) .fail) (.br (Decidable.decide (0<=la cause 31)) (.prop (j8 [b,d,p] (Yf b d p B cause mode) (.bool (la (B.de / ↑(2 ^ (la cause 31).toNat)) 1==1)) [(100000,.inst 397 100002),(100002,.attrs (j6 100004 B)),(100004,.idict (jb B))] 4)) .fail))) ?e ?h;case e=>kernel_rfl
 case h =>refine jY (λq=>zQ [100000,100002,100004] rfl λt _=>⟨by rw [q];rfl,rfl⟩) λq=>jY (λq2=>jy (decide_eq_true h) (zQ [100000,100002,100004] rfl λt _=>⟨by unfold zR;rw [q,if_pos q2];rfl,rfl⟩)) λq2=>jy (decide_eq_true h) (zQ [100000,100002,100004] rfl λt _=>⟨by unfold zR;rw [q,zu q2];rfl,rfl⟩)
noncomputable def Je (b d p:Addr) (B:Bd) (y:V) (o:jA):Prop:=∃ t,y = .ref t/\o=(t,.tup [.int (zE B).1,.int B.s3])::jI b d p (zE B).2
theorem zGa (b d p:Addr) (B:Bd):Ct (Mine.KP.heap_1 w.params) mg mb 1 (.ref 373) [.ref b] (jI b d p B) (Je b d p B):=by
 refine zM (E:=EE w mg mb 1) (r:=[b,d,p]) (xs:=[.ref 100000]) (o:=jI 100000 100002 100004 B) (n0:=3) (n:=60) (zGV w mg mb).2 (okB rfl rfl) (zP rfl) rfl (T:=.br (la B.st 256 != 0) (.br (la B.st 32 != 0) (.prop (j8 [b,d,p] (Je b d p B) (.ref 100008) [(100008,.tup [.int 1,.int B.s3]),(100000,.inst 397 100002),(100002,.attrs (j6 100004 ({ B with st:=jd (jd (la B.st 4294835965) 2) 32 }))),(100004,.idict (jb ({ B with st:=jd (jd (la B.st 4294835965) 2) 32 })))] 5)) (.prop (j8 [b,d,p] (Je b d p B) (.ref 100008) [(100008,.tup [.int 1,.int B.s3]),(100000,.inst 397 100002),(100002,.attrs (j6 100004 ({ B with st:=jd (jd (la B.st 4294835965) 0) 32 }))),(100004,.idict (jb ({ B with st:=jd (jd (la B.st 4294835965) 0) 32 })))] 5))) (.br (la B.st 32 != 0) (.prop (j8 [b,d,p] (Je b d p B) (.ref 100008) [(100008,.tup [.int 0,.int B.s3]),(100000,.inst 397 100002),(100002,.attrs (j6 100004 ({ B with st:=jd (jd (la B.st 4294835965) 2) 32 }))),(100004,.idict (jb ({ B with st:=jd (jd (la B.st 4294835965) 2) 32 })))] 5)) (.prop (j8 [b,d,p] (Je b d p B) (.ref 100008) [(100008,.tup [.int 0,.int B.s3]),(100000,.inst 397 100002),(100002,.attrs (j6 100004 ({ B with st:=jd (jd (la B.st 4294835965) 0) 32 }))),(100004,.idict (jb ({ B with st:=jd (jd (la B.st 4294835965) 0) 32 })))] 5)))) ?e ?h;case e=>kernel_rfl
 case h =>refine jY (λq=>jY (λq2=>zQ [100008,100000,100002,100004] rfl λt _=>⟨_,rfl,by unfold zE;dsimp only;rw [yF q,yF q2];rfl⟩) λq2=>zQ [100008,100000,100002,100004] rfl λt _=>⟨_,rfl,by unfold zE;dsimp only;rw [yF q,zu q2];rfl⟩) λq=>jY (λq2=>zQ [100008,100000,100002,100004] rfl λt _=>⟨_,rfl,by unfold zE;dsimp only;rw [zu q,yF q2];rfl⟩) λq2=>zQ [100008,100000,100002,100004] rfl λt _=>⟨_,rfl,by unfold zE;dsimp only;rw [zu q,zu q2];rfl⟩
noncomputable def Jf (b d p:Addr) (B:Bd) (y:V) (o:jA):Prop:=∃ t,y = .ref t/\o=(t,.tup [.int (zD B).1,.int B.m3])::jI b d p (zD B).2
theorem zGb (b d p:Addr) (B:Bd):Ct (Mine.KP.heap_1 w.params) mg mb 1 (.ref 366) [.ref b] (jI b d p B) (Jf b d p B):=by
 refine zM (E:=EE w mg mb 1) (r:=[b,d,p]) (xs:=[.ref 100000]) (o:=jI 100000 100002 100004 B) (n0:=3) (n:=60) (zGU w mg mb).2 (okB rfl rfl) (zP rfl) rfl (T:=.br (la B.st 128 != 0) (.br (la B.st 6144 / 2048 != 3) (.prop (j8 [b,d,p] (Jf b d p B) (.ref 100008) [(100008,.tup [.int (la B.st 6144 / 2048),.int B.m3]),(100000,.inst 397 100002),(100002,.attrs (j6 100004 ({ B with st:=la (jd (jd (la B.st 4294961143) 8) 128) 4294836223 }))),(100004,.idict (jb ({ B with st:=la (jd (jd (la B.st 4294961143) 8) 128) 4294836223 })))] 5)) (.prop (j8 [b,d,p] (Jf b d p B) (.ref 100008) [(100008,.tup [.int (la B.st 6144 / 2048),.int B.m3]),(100000,.inst 397 100002),(100002,.attrs (j6 100004 ({ B with st:=jd (jd (la B.st 4294961143) 8) 128 }))),(100004,.idict (jb ({ B with st:=jd (jd (la B.st 4294961143) 8) 128 })))] 5))) (.br (la B.st 6144 / 2048 != 3) (.prop (j8 [b,d,p] (Jf b d p B) (.ref 100008) [(100008,.tup [.int (la B.st 6144 / 2048),.int B.m3]),(100000,.inst 397 100002),(100002,.attrs (j6 100004 ({ B with st:=la (jd (jd (la B.st 4294961143) 0) 128) 4294836223 }))),(100004,.idict (jb ({ B with st:=la (jd (jd (la B.st 4294961143) 0) 128) 4294836223 })))] 5)) (.prop (j8 [b,d,p] (Jf b d p B) (.ref 100008) [(100008,.tup [.int (la B.st 6144 / 2048),.int B.m3]),(100000,.inst 397 100002),(100002,.attrs (j6 100004 ({ B with st:=jd (jd (la B.st 4294961143) 0) 128 }))),(100004,.idict (jb ({ B with st:=jd (jd (la B.st 4294961143) 0) 128 })))] 5)))) ?e ?h;case e=>kernel_rfl
 case h =>refine jY (λq=>jY (λq2=>zQ [100008,100000,100002,100004] rfl λt _=>⟨_,rfl,by unfold zD;dsimp only;rw [yF q,yF q2];rfl⟩) λq2=>zQ [100008,100000,100002,100004] rfl λt _=>⟨_,rfl,by unfold zD;dsimp only;rw [yF q,zu q2];rfl⟩) λq=>jY (λq2=>zQ [100008,100000,100002,100004] rfl λt _=>⟨_,rfl,by unfold zD;dsimp only;rw [zu q,yF q2];rfl⟩) λq2=>zQ [100008,100000,100002,100004] rfl λt _=>⟨_,rfl,by unfold zD;dsimp only;rw [zu q,zu q2];rfl⟩
noncomputable def JO (b d p:Addr) (B:Bd) (y:V) (o:jA):Prop:=y=jm B.wa B.en B.li 0 (la B.st 2 != 0) (la B.st 8 != 0)/\o=jI b d p B
theorem zIg (b d p:Addr) (B:Bd):Ct (Mine.KP.heap_1 w.params) mg mb 1 (.ref 338) [.ref b,.int 0] (jI b d p B) (JO b d p B):=by
 refine zM (E:=EE w mg mb 1) (r:=[b,d,p]) (xs:=[.ref 100000,.int 0]) (o:=jI 100000 100002 100004 B) (n0:=3) (n:=60) (zBT w mg mb).2 (okB rfl rfl) (zP rfl) rfl (T:=.br (la B.wa B.en==0) (.prop (j8 [b,d,p] (JO b d p B) .none (jI 100000 100002 100004 B) 4)) (.br ((la (la B.wa B.en) (lx 4294967295 B.li)) != 0) (pkT (λv=>.prop (j8 [b,d,p] (JO b d p B) v (jI 100000 100002 100004 B) 5)) (la (la B.wa B.en) (lx 4294967295 B.li))) (pkT (λv=>.prop (j8 [b,d,p] (JO b d p B) v (jI 100000 100002 100004 B) 5)) (la (la B.wa B.en) B.li)))) ?e ?h;case e=>kernel_rfl
 case h =>refine jY (λq=>zQ [100000,100002,100004] rfl λt _=>⟨by unfold jm;rw [if_pos q];rfl,rfl⟩) λq=>?_;refine Z5 (L:=(λv=>.prop (j8 [b,d,p] (JO b d p B) v (jI 100000 100002 100004 B) 5))) (Q5 (L:=(λv=>.prop (j8 [b,d,p] (JO b d p B) v (jI 100000 100002 100004 B) 5)))) (Q5 (L:=(λv=>.prop (j8 [b,d,p] (JO b d p B) v (jI 100000 100002 100004 B) 5)))) (zQ [100000,100002,100004] rfl λt _=>⟨?_,rfl⟩);rw [zM2 q];exact V0
noncomputable def zj (b d p:Addr) (B:Bd) (y:V) (o:jA):Prop:=y=jm B.wa B.en B.li 1 (la B.st 2 != 0) (la B.st 8 != 0)/\o=jI b d p B
theorem zIh (b d p:Addr) (B:Bd):Ct (Mine.KP.heap_1 w.params) mg mb 1 (.ref 338) [.ref b,.int 1] (jI b d p B) (zj b d p B):=by
 refine zM (E:=EE w mg mb 1) (r:=[b,d,p]) (xs:=[.ref 100000,.int 1]) (o:=jI 100000 100002 100004 B) (n0:=3) (n:=60) (zBT w mg mb).2 (okB rfl rfl) (zP rfl) rfl (T:=.br (la B.wa B.en==0) (.prop (j8 [b,d,p] (zj b d p B) .none (jI 100000 100002 100004 B) 4)) (.br (la B.st 2==0) (.br ((la (la B.wa B.en) (lx 4294967295 B.li)) != 0) (pkT (λv=>.prop (j8 [b,d,p] (zj b d p B) v (jI 100000 100002 100004 B) 5)) (la (la B.wa B.en) (lx 4294967295 B.li))) (.prop (j8 [b,d,p] (zj b d p B) .none (jI 100000 100002 100004 B) 5))) (.br ((la (la B.wa B.en) (lx 4294967295 B.li)) != 0) (pkT (λv=>.prop (j8 [b,d,p] (zj b d p B) v (jI 100000 100002 100004 B) 5)) (la (la B.wa B.en) (lx 4294967295 B.li))) (pkT (λv=>.prop (j8 [b,d,p] (zj b d p B) v (jI 100000 100002 100004 B) 5)) (la (la B.wa B.en) B.li))))) ?e ?h;case e=>kernel_rfl
 case h =>refine jY (λq=>zQ [100000,100002,100004] rfl λt _=>⟨by unfold jm;rw [if_pos q];rfl,rfl⟩) λq=>?_;refine Z5 (L:=(λv=>.prop (j8 [b,d,p] (zj b d p B) v (jI 100000 100002 100004 B) 5))) (Z5 (L:=(λv=>.prop (j8 [b,d,p] (zj b d p B) v (jI 100000 100002 100004 B) 5))) (Q5 (L:=(λv=>.prop (j8 [b,d,p] (zj b d p B) v (jI 100000 100002 100004 B) 5)))) id) (Z5 (L:=(λv=>.prop (j8 [b,d,p] (zj b d p B) v (jI 100000 100002 100004 B) 5))) (Q5 (L:=(λv=>.prop (j8 [b,d,p] (zj b d p B) v (jI 100000 100002 100004 B) 5)))) (Q5 (L:=(λv=>.prop (j8 [b,d,p] (zj b d p B) v (jI 100000 100002 100004 B) 5))))) (zQ [100000,100002,100004] rfl λt _=>⟨?_,rfl⟩);rw [zM3 q];exact V0
noncomputable def yr (b d p:Addr) (B:Bd) (y:V) (o:jA):Prop:=y=jm B.wa B.en B.li 3 (la B.st 2 != 0) (la B.st 8 != 0)/\o=jI b d p B
theorem zIi (b d p:Addr) (B:Bd):Ct (Mine.KP.heap_1 w.params) mg mb 1 (.ref 338) [.ref b,.int 3] (jI b d p B) (yr b d p B):=by
 refine zM (E:=EE w mg mb 1) (r:=[b,d,p]) (xs:=[.ref 100000,.int 3]) (o:=jI 100000 100002 100004 B) (n0:=3) (n:=60) (zBT w mg mb).2 (okB rfl rfl) (zP rfl) rfl (T:=.br (la B.wa B.en==0) (.prop (j8 [b,d,p] (yr b d p B) .none (jI 100000 100002 100004 B) 4)) (.br (la B.st 8==0) (.prop (j8 [b,d,p] (yr b d p B) .none (jI 100000 100002 100004 B) 5)) (.br ((la (la B.wa B.en) (lx 4294967295 B.li)) != 0) (pkT (λv=>.prop (j8 [b,d,p] (yr b d p B) v (jI 100000 100002 100004 B) 5)) (la (la B.wa B.en) (lx 4294967295 B.li))) (.prop (j8 [b,d,p] (yr b d p B) .none (jI 100000 100002 100004 B) 5))))) ?e ?h;case e=>kernel_rfl
 case h =>refine jY (λq=>zQ [100000,100002,100004] rfl λt _=>⟨by unfold jm;rw [if_pos q];rfl,rfl⟩) λq=>?_;refine Z5 (L:=(λv=>.prop (j8 [b,d,p] (yr b d p B) v (jI 100000 100002 100004 B) 5))) id (Z5 (L:=(λv=>.prop (j8 [b,d,p] (yr b d p B) v (jI 100000 100002 100004 B) 5))) (Q5 (L:=(λv=>.prop (j8 [b,d,p] (yr b d p B) v (jI 100000 100002 100004 B) 5)))) id) (zQ [100000,100002,100004] rfl λt _=>⟨?_,rfl⟩);rw [zM4 q];exact V0
end
section
variable {w:World} {mg mb:Str->Option Value}
noncomputable def Ob.idict?:Ob->Option (List (Int×V))
 | .idict a=>some a
 | _=>none
theorem zGc {x:Ob}{a:List (Int×V)}(h:x.idict?=some a):x = .idict a:=by cases x<;>cases h;rfl
structure Took (o q o':jA):Prop where
 p:∀ r,(jC r o).Perm (jC r q++jC r o')
 m:∀ x ∈ q,x ∈ o
 n:∀ x ∈ o',x ∈ o
theorem Took.one {a:Addr}{p:Ob×jA}{o:jA}(h:Vx a o=some p):Took o [(a,p.1)] p.2 :=
 ⟨λr=>(zr (r:=r) (x:=p.1) (o':=p.2) h).1.trans List.perm_append_comm,λx hx=>by obtain rfl:=List.mem_singleton.mp hx;exact (zr (r:=[]) (x:=p.1) (o':=p.2) h).2.1,(zr (r:=[]) (x:=p.1) (o':=p.2) h).2.2⟩
theorem Took.trans {o q o1 q' o2:jA}(h:Took o q o1) (k:Took o1 q' o2):Took o (q++q') o2 :=
 ⟨λr=>by rw [show jC r (q++q')=jC r q++jC r q' from List.map_append,List.append_assoc];exact (h.p r).trans ((k.p r).append_left _),
  λx hx=>(List.mem_append.mp hx).elim (h.m x) λhx=>h.n x (k.m x hx),λx hx=>h.n x (k.n x hx)⟩
noncomputable abbrev Rk (α:Type):=jA->Option (α×jA)
noncomputable def RkOk {α:Type}(f:Rk α) (q:α->jA):Prop:=∀ o p,f o=some p->Took o (q p.1) p.2
noncomputable def Rk.got {α:Type}(a:Addr) (g:Ob->Option α):Rk α:=λo=>(Vx a o).elim none λp=>(g p.1).elim none λy=>some (y,p.2)
noncomputable def Rk.bind {α β:Type}(f:Rk α) (g:α->Rk β):Rk (α×β):=λo=>(f o).elim none λp=>(g p.1 p.2).elim none λz=>some ((p.1,z.1),z.2)
section
variable {α β:Type} {f:Rk α} {q:α->jA} {g:α->Rk β} {q':α->β->jA}
theorem RkOk.got {a:Addr}{g:Ob->Option α}{q:α->Ob}(h:∀ x y,g x=some y->x=q y):RkOk (Rk.got a g) λy=>[(a,q y)]:=λo p e =>
 jH e λz ez e=>jH e λy ey e=>by obtain rfl:=Option.some.inj e;have:=Took.one ez;rw [h _ _ ey] at this;exact this
theorem RkOk.bind (h:RkOk f q) (k:∀ x,RkOk (g x) (q' x)):RkOk (f.bind g) λp=>q p.1++q' p.1 p.2:=λo p e =>
 jH e λz ez e=>jH e λy ey e=>by obtain rfl:=Option.some.inj e;exact (h o z ez).trans (k z.1 z.2 y ey)
end
noncomputable def zK2 (xs:List V):Option (Addr×Addr):=(two xs).elim none λq=>q.1.ref?.elim none λa=>q.2.ref?.elim none λb=>some (a,b)
theorem zGd {xs:List V}{p:Addr×Addr}(h:zK2 xs=some p):xs=[.ref p.1,.ref p.2] :=
 jH h λq e h=>jH h λa ea h=>jH h λb eb h=>by obtain rfl:=Option.some.inj h;rw [yL e,jg ea,jg eb]
noncomputable def rd2 (a:Addr):Rk (Addr×Addr):=.got a λx=>x.list?.elim none zK2
theorem V1 (a:Addr):RkOk (rd2 a) λp=>[(a,.list [.ref p.1,.ref p.2])]:=.got λx y h=>jH h λxs e h=>by rw [y5 e,zGd h]
noncomputable def rdL (a:Addr):Rk (List V):=.got a Ob.list?
theorem zAN (a:Addr):RkOk (rdL a) λp=>[(a,.list p)]:=.got λx y h=>y5 h
noncomputable def rdI (a:Addr):Rk (List Int):=.got a λx=>x.list?.elim none zV
theorem zAO (a:Addr):RkOk (rdI a) λp=>[(a,.list (p.map V.int))]:=.got λx y h=>jH h λxs e h=>by rw [y5 e,z6 h]
noncomputable def zK3 (xs:List V):Option (Int×Int):=(two xs).elim none λq=>q.1.int?.elim none λa=>q.2.int?.elim none λb=>some (a,b)
theorem zGe {xs:List V}{p:Int×Int}(h:zK3 xs=some p):xs=[.int p.1,.int p.2] :=
 jH h λq e h=>jH h λa ea h=>jH h λb eb h=>by obtain rfl:=Option.some.inj h;rw [yL e,jk ea,jk eb]
noncomputable def rdT (a:Addr):Rk (Int×Int):=.got a λx=>x.tup?.elim none zK3
theorem zM5 (a:Addr):RkOk (rdT a) λp=>[(a,.tup [.int p.1,.int p.2])]:=.got λx y h=>jH h λxs e h=>by rw [zF4 e,zGe h]
noncomputable def V2 {κ:Type} [BEq κ] (ks:List κ):List (κ×V)->Option (List V):=ks.rec (λkv=>cond kv.isEmpty (some []) none) λk _ ih kv=>(zl kv).elim none λp=>cond (p.1.1==k) ((ih p.2).elim none λl=>some (p.1.2::l)) none
theorem Q6 {α:Type}{b:Bool}{x:Option α}{y:α}(h:cond b x none=some y):b=true/\x=some y:=by induction b using Bool.casesOn;exact nomatch h;exact ⟨rfl,h⟩
theorem Ju {κ:Type} [BEq κ] [LawfulBEq κ] {ks:List κ}{kv:List (κ×V)}{vs:List V}(h:V2 ks kv=some vs):kv=ks.zip vs:=by
 induction ks generalizing kv vs with
 | nil =>
  induction kv using List.casesOn with
  | nil=>rfl
  | cons=>contradiction
 | cons k ks ih=>exact jH h λp e h=>jH (Q6 h).2 λl el h'=>by rw [zA e,ih el,<- Option.some.inj h',<- eq_of_beq (Q6 h).1];rfl
noncomputable def pI (l:List V):Option (Int×List V):=(zl l).elim none λp=>p.1.int?.elim none λi=>some (i,p.2)
noncomputable def pR (l:List V):Option (Addr×List V):=(zl l).elim none λp=>p.1.ref?.elim none λi=>some (i,p.2)
theorem V3 {l:List V}{p:Int×List V}(h:pI l=some p):l = .int p.1::p.2:=jH h λq e h=>jH h λi ei h=>by obtain rfl:=Option.some.inj h;rw [zA e,jk ei]
theorem V4 {l:List V}{p:Addr×List V}(h:pR l=some p):l = .ref p.1::p.2:=jH h λq e h=>jH h λi ei h=>by obtain rfl:=Option.some.inj h;rw [zA e,jg ei]
theorem zCe {l:List V}{α:Type}{x y:α}(h:cond l.isEmpty (some x) none=some y):l=[]/\x=y:=by
 induction l using List.casesOn with
 | nil=>exact ⟨rfl,Option.some.inj h⟩
 | cons _ _=>contradiction
noncomputable def bdK:List Str:=["status","delegated","lines_delegated","enabled","waiting","satp","cycles","retired","timer","hart","plain"]
noncomputable def plK:List Int:=[261,262,320,321,322,323,773,774,832,833,834,835]
theorem ZC {x:V}(h:x.isNone=true):x = .none:=by cases x<;>first | rfl | contradiction
noncomputable def zOp (l:List V):Option Addr:=(pI l).elim none λa=>Vq (a.1==0) ((pI a.2).elim none λb=>Vq (b.1==0) ((zl b.2).elim none λc=>Vq c.1.isNone ((pI c.2).elim none λd=>Vq (d.1==0) ((pR d.2).elim none λe=>cond e.2.isEmpty (some e.1) none))))
theorem zIj {l:List V}{p:Addr}(h:zOp l=some p):l=[.int 0,.int 0,.none,.int 0,.ref p] :=
 jH h λa ea h=>zq h λa0 h=>jH h λb eb h=>zq h λb0 h=>jH h λc ec h=>zq h λc0 h=>jH h λd ed h=>zq h λd0 h=>jH h λe ee h=>by obtain ⟨e7,rfl⟩:=zCe h;rw [V3 ea,V3 eb,zA ec,V3 ed,V4 ee,e7,eq_of_beq a0,eq_of_beq b0,eq_of_beq d0,ZC c0]
noncomputable def rdN (b:Addr):Rk Addr:=.got b λx=>x.inst?.elim none λq=>Vq (Nat.beq q.1 397) (some q.2)
theorem zM6 (b:Addr):RkOk (rdN b) λd=>[(b,.inst 397 d)]:=.got λx y h=>jH h λq e h=>zq h λc h=>by obtain rfl:=Option.some.inj h;rw [zDS e,Nat.eq_of_beq_eq_true c]
noncomputable def rdA (d:Addr):Rk (List Int×Addr):=.got d λx=>x.attrs?.elim none λkv=>(V2 bdK kv).elim none λvs=>(zV (vs.take 6)).elim none λis=>Vq (Nat.beq is.length 6) ((zOp (vs.drop 6)).elim none λp=>some (is,p))
theorem zM7 (d:Addr):RkOk (rdA d) λq=>[(d,.attrs (bdK.zip (q.1.map V.int++[.int 0,.int 0,.none,.int 0,.ref q.2])))]:=.got λx y h=>jH h λkv e h=>jH h λvs e2 h=>jH h λis e3 h=>zq h λ_ h=>jH h λp e4 h=>by obtain rfl:=Option.some.inj h;rw [zAe e,Ju e2,<- z6 e3,<- zIj e4,List.take_append_drop]
noncomputable def rdP (p:Addr):Rk (List Int):=.got p λx=>x.idict?.elim none λkv=>(V2 plK kv).elim none zV
theorem zM8 (p:Addr):RkOk (rdP p) λis=>[(p,.idict (plK.zip (is.map V.int)))]:=.got λx y h=>jH h λkv e h=>jH h λvs e2 h=>by rw [zGc e,Ju e2,z6 h]
noncomputable abbrev Br3:=Addr×((List Int×Addr)×List Int)
noncomputable def rdB (b:Addr):Rk Br3:=(rdN b).bind λd=>(rdA d).bind λq=>rdP q.2
theorem zCf (b:Addr):RkOk (rdB b) λx=>[(b,.inst 397 x.1)]++([(x.1,.attrs (bdK.zip (x.2.1.1.map V.int++[.int 0,.int 0,.none,.int 0,.ref x.2.1.2])))]++[(x.2.1.2,.idict (plK.zip (x.2.2.map V.int)))]):=(zM6 b).bind λd=>(zM7 d).bind λq=>zM8 q.2
noncomputable def Bd.ints (B:Bd):List Int:=[B.st,B.de,B.li,B.en,B.wa,B.sa,B.s0,B.s1,B.s2,B.s3,B.s4,B.s5,B.m0,B.m1,B.m2,B.m3,B.m4,B.m5]
noncomputable def zB5 (l:List Int):Option Bd:=cond (Nat.beq l.length 18) (some ⟨l.getD 0 0,l.getD 1 0,l.getD 2 0,l.getD 3 0,l.getD 4 0,l.getD 5 0,l.getD 6 0,l.getD 7 0,l.getD 8 0,l.getD 9 0,l.getD 10 0,l.getD 11 0,l.getD 12 0,l.getD 13 0,l.getD 14 0,l.getD 15 0,l.getD 16 0,l.getD 17 0⟩) none
theorem V5 {l:List Int}{n:Nat}(h:l.length=n):l=(List.range n).map λk=>l.getD k 0:=by subst h;refine List.ext_getElem (by rw [List.length_map,List.length_range]) λi h1 _=>?_;rw [List.getElem_map,List.getElem_range,List.getD_eq_getElem?_getD,List.getElem?_eq_getElem h1];rfl
theorem zIk {l:List Int}{B:Bd}(h:zB5 l=some B):l=B.ints:=by
 unfold zB5 at h;induction e:Nat.beq l.length 18 using Bool.casesOn with
 | false=>rw [e] at h;contradiction
 | true=>rw [e] at h;obtain rfl:=Option.some.inj h;exact V5 (Nat.eq_of_beq_eq_true e)
theorem zB6 {b:Addr}{x:Br3}{B:Bd}(h:zB5 (x.2.1.1++x.2.2)=some B) (hl:Nat.beq x.2.1.1.length 6=true) :
  [(b,Ob.inst 397 x.1)]++([(x.1,Ob.attrs (bdK.zip (x.2.1.1.map V.int++[.int 0,.int 0,.none,.int 0,.ref x.2.1.2])))]++[(x.2.1.2,Ob.idict (plK.zip (x.2.2.map V.int)))])=jI b x.1 x.2.1.2 B:=by
 obtain ⟨d,⟨is,p⟩,is2⟩:=x;have h0:is++is2=[B.st,B.de,B.li,B.en,B.wa,B.sa]++[B.s0,B.s1,B.s2,B.s3,B.s4,B.s5,B.m0,B.m1,B.m2,B.m3,B.m4,B.m5]:=zIk h;obtain ⟨e1,e2⟩:=List.append_inj h0 (Nat.eq_of_beq_eq_true hl);show [_,(d,Ob.attrs (bdK.zip (is.map V.int++_))),(p,Ob.idict (plK.zip (is2.map V.int)))]=_;rw [e1,e2];rfl
noncomputable def zB7 (b:Addr) (s:SS) (K:Addr->Addr->Bd->jA->Tree):Tree:=jS (rdB b s.o) λq=>j3 (q.1.2.1.1++q.1.2.2) λl=>jS (zB5 l) λB=>gd (Nat.beq q.1.2.1.1.length 6) (j3 q.2 λrest=>K q.1.1 q.1.2.1.2 B rest)
section
variable {r:List Addr} {s:SS} {W:Wd} {A:Around}
theorem YQ {b:Addr}{K:Addr->Addr->Bd->jA->Tree}{P:Prop}(ok:s.ok r) (h:(zB7 b s K).holds) (k:∀ d p B rest,(jC r s.o).Perm (jI (jL r b) (jL r d) (jL r p) B++jC r rest)->(wfA s.n b/\wfA s.n d/\wfA s.n p/\owf s.n rest)->(K d p B rest).holds->P):P :=
 jE h λq e h=>jE (jT h) λB eB h=>j1 h λhl h=>by have t:=zCf b s.o q e;dsimp only at t;rw [zB6 eB hl] at t;exact k q.1.1 q.1.2.1.2 B q.2 (t.p r) ⟨(ok.o _ (t.m _ (.head _))).1,(ok.o _ (t.m _ (.tail _ (.head _)))).1,(ok.o _ (t.m _ (.tail _ (.tail _ (.head _))))).1,λx hx=>ok.o x (t.n x hx)⟩ (jT h)
theorem Cl.post {f:Value}{xs:List V}{o:jA}{n:jB}{Q:V->jA->jB->Prop}(h:Cl W A f xs o n λx o n=>∃ o',o.Perm o'/\Q x o' n):Cl W A f xs o n Q:=λvs hvs hp tk C =>
 Tv.go (h vs hvs) C λ_ x h' tk' o n i C' q=>q.elim λo' q=>⟨h',tk',o',n,C'.perm q.1,x,i,q.2⟩
theorem V6 {b d p:Addr}{B:Bd}{rest:jA}(ok:s.ok r) (w:wfA s.n b/\wfA s.n d/\wfA s.n p/\owf s.n rest):SS.ok r ⟨jI b d p B++rest,s.ns,s.n⟩ :=
 ⟨ok.len,λq hq=>(List.mem_append.mp hq).elim (zAE (ns:=[b,d,p]) (o:=jI 100000 100002 100004 B) (λa ha=>by
  rcases List.mem_cons.mp ha with rfl | ha
  ·exact w.1
  rcases List.mem_cons.mp ha with rfl | ha
  ·exact w.2.1
  obtain rfl:=List.mem_singleton.mp ha;exact w.2.2.1) rfl q) (w.2.2.2 q),ok.ns⟩
theorem Yg {K:V->SS->Tree}{v:V}{o:jA}(ok:s.ok r) (hv:v.wf s.n) (p:(jC r s.o).Perm o) (h:(K v s).holds):∃ o',o.Perm o'/\Lift RV r K (v.ren r) o' (jK r s.ns):=⟨_,p.symm,Lift.mk (R:=RV) ok hv h⟩
end
noncomputable def Yh {α:Type}(l:List α):Option (α×α×α):=(zl l).elim none λa=>(two a.2).elim none λq=>some (a.1,q)
theorem yT {α:Type}{q:α×α×α}{l:List α}(h:Yh l=some q):l=[q.1,q.2.1,q.2.2]:=jH h λa e h=>jH h λp e2 h=>by rw [zA e,yL e2,<- Option.some.inj h]
noncomputable def handedS:Spec:=λxs s K=>jS (Yh xs) λq=>jS q.1.ref? λb=>jS q.2.1.int? λcause=>jS q.2.2.int? λmode=>zB7 b s λ_ _ B _=>.side (0<=la cause 31) (K (.bool (!(mode==3)&&zR B cause)) s)
theorem zCg:jh (Mine.KP.heap_1 w.params) mg mb 345 1 handedS:=λxs s K h W A r G R ok hx =>
 jE h λq e0 h=>jE h λb e1 h=>jE h λcause e2 h=>jE h λmode e3 h=>YQ ok h λd p B rest pp ww h=>yY h λhc h=>by rw [yT e0,jg e1,jk e2,jk e3];refine Cl.post (Cl.use (zG9 _ _ _ B cause mode hc) G R (Nat.le_refl _) pp ?_);rintro _ _ ⟨rfl,rfl⟩;exact Yg (v:=.bool _) ok trivial pp h
noncomputable def placeS:Spec:=λxs s K=>jS (Yh xs) λq=>jS q.1.ref? λ_=>jS q.2.1.int? λv=>jS q.2.2.int? λc=>.side (IntMulOk 4 (la c 31)) (K (.int (z8 v c)) s)
theorem zE9:jh (Mine.KP.heap_1 w.params) mg mb 359 1 placeS:=λxs s K h W A r G R ok hx =>
 jE h λq e0 h=>jE h λb e1 h=>jE h λv e2 h=>jE h λc e3 h=>yY h λhc h=>by rw [yT e0,jg e1,jk e2,jk e3];refine Cl.use (zIe (jL r b) v c hc) G R (Nat.le_refl _) (o₂:=jC r s.o) (.refl _) ?_;rintro _ _ ⟨rfl,rfl⟩;exact je ok h
noncomputable def stoldS:Spec:=λxs s K=>jS (two xs) λq=>jS q.1.int? λu=>jS q.2.int? λv=>K (.int (yy u v)) s
theorem Q7:jh (Mine.KP.heap_1 w.params) mg mb 244 1 stoldS:=λxs s K h W A r G R ok hx =>
 jE h λq e0 h=>jE h λu e1 h=>jE h λv e2 h=>by rw [yL e0,jk e1,jk e2];refine Cl.use (zIf u v) G R (Nat.le_refl _) (o₂:=jC r s.o) (.refl _) ?_;rintro _ _ ⟨rfl,rfl⟩;exact je ok h
noncomputable def zDf (b d p:Addr) (B:Bd) (i j:Int) (rest:jA) (s:SS) (K:V->SS->Tree):Tree:=match s with
 | ⟨_,ns,n⟩=>j3 (jI b d p B++rest) λo=>SS.mkK ⟨o,ns,n⟩ (.tup [.int i,.int j]) K
theorem Jg {b d p l:Addr}{B:Bd}{i j:Int}{rest:jA}{r:List Addr}{s:SS}{K:V->SS->Tree}(ok:s.ok r) (ww:wfA s.n b/\wfA s.n d/\wfA s.n p/\owf s.n rest) (h:(zDf b d p B i j rest s K).holds) :
  Lift RV r K (.ref l) ((l,.tup [.int i,.int j])::jI (jL r b) (jL r d) (jL r p) B++jC r rest) (jK r s.ns):=by
 have:=yR (ob:=.tup [.int i,.int j]) (l:=l) (V6 (B:=B) ok ww) (λx hx=>by
  rcases List.mem_cons.mp hx with rfl | hx
  ·trivial
  ·obtain rfl:=List.mem_singleton.mp hx;trivial) (jT h)
 rw [show jC r (jI b d p B++rest)=jI (jL r b) (jL r d) (jL r p) B++jC r rest from List.map_append] at this;exact this
noncomputable def leaveSS:Spec:=λxs s K=>jS (one xs) λx=>jS x.ref? λb=>zB7 b s λd p B rest=>zDf b d p (zE B).2 (zE B).1 B.s3 rest s K
theorem zCh:jh (Mine.KP.heap_1 w.params) mg mb 373 1 leaveSS:=λxs s K h W A r G R ok hx =>
 jE h λx e0 h=>jE h λb e1 h=>YQ ok h λd p B rest pp ww h=>by rw [yI e0,jg e1];refine Cl.use (zGa _ _ _ B) G R (Nat.le_refl _) pp ?_;rintro _ _ ⟨t,rfl,rfl⟩;exact Jg ok ww h
noncomputable def leaveMS:Spec:=λxs s K=>jS (one xs) λx=>jS x.ref? λb=>zB7 b s λd p B rest=>zDf b d p (zD B).2 (zD B).1 B.m3 rest s K
theorem zCi:jh (Mine.KP.heap_1 w.params) mg mb 366 1 leaveMS:=λxs s K h W A r G R ok hx =>
 jE h λx e0 h=>jE h λb e1 h=>YQ ok h λd p B rest pp ww h=>by rw [yI e0,jg e1];refine Cl.use (zGb _ _ _ B) G R (Nat.le_refl _) pp ?_;rintro _ _ ⟨t,rfl,rfl⟩;exact Jg ok ww h
end
section
variable {w:World} {mg mb:Str->Option Value}
theorem zI {K:Frag}{f:Addr}{k:Nat}{q:Spec}{l:List (Addr×(Nat×Spec))}(h:jh K mg mb f k q) (t:∀ p ∈ l,jh K mg mb p.1 p.2.1 p.2.2):∀ p ∈ (f,(k,q))::l,jh K mg mb p.1 p.2.1 p.2.2:=List.forall_mem_cons.mpr ⟨h,t⟩
theorem zGf {K:Frag}:∀ p ∈ ([]:List (Addr×(Nat×Spec))),jh K mg mb p.1 p.2.1 p.2.2:=λ_ h=>absurd h List.not_mem_nil
noncomputable def SP1:List (Addr×(Nat×Spec)):=[(345,(1,handedS)),(359,(1,placeS)),(244,(1,stoldS))]
theorem zGg:∀ p ∈ SP1,jh (Mine.KP.heap_1 w.params) mg mb p.1 p.2.1 p.2.2:=zI zCg (zI zE9 (zI Q7 zGf))
noncomputable def E1 (w:World) (mg mb:Str->Option Value) (k:Nat):Est:=EX w mg mb k [] [] SP1 zGg
noncomputable def Yi (b d p:Addr) (B:Bd) (cause value place mode:Int) (y:V) (o:jA):Prop:=∃ t,y = .ref t/\o=(t,.tup [.int (jQ B cause value place mode).1,.int (jQ B cause value place mode).2.1])::jI b d p (jQ B cause value place mode).2.2
theorem zIl (b d p:Addr) (B:Bd) (cause value place mode:Int) (h0:0<=la cause 31) (h1:IntMulOk 4 (la cause 31)) (h2:IntMulOk 256 (if (mode==1)=true then 1 else 0)) (h3:mode.natAbs < 2 ^ 64):Ct (Mine.KP.heap_1 w.params) mg mb 2 (.ref 352) [.ref b,.int cause,.int value,.int place,.int mode] (jI b d p B) (Yi b d p B cause value place mode):=by
 refine zM (E:=E1 w mg mb 2) (r:=[b,d,p]) (xs:=[.ref 100000,.int cause,.int value,.int place,.int mode]) (o:=jI 100000 100002 100004 B) (n0:=3) (n:=60) (zGS w mg mb).2 (okB rfl rfl) (zP rfl) rfl (T:=.side (0<=la cause 31) (.br (!mode==3&&zR B cause) (.br (la B.st 2 != 0) (.side (IntMulOk 256 (if (mode==1)=Bool.true then 1 else 0)) (.side (IntMulOk 4 (la cause 31)) (.prop (j8 [b,d,p] (Yi b d p B cause value place mode) (.ref 100010) [(100010,.tup [.int 1,.int (z8 B.s0 cause)]),(100000,.inst 397 100002),(100002,.attrs (j6 100004 ({ B with st:=jd (jd (la B.st 4294967005) 32) (256 * if (mode==1)=Bool.true then 1 else 0),s3:=place,s4:=cause,s5:=la value 4294967295 }))),(100004,.idict (jb ({ B with st:=jd (jd (la B.st 4294967005) 32) (256 * if (mode==1)=Bool.true then 1 else 0),s3:=place,s4:=cause,s5:=la value 4294967295 })))] 6)))) (.side (IntMulOk 256 (if (mode==1)=Bool.true then 1 else 0)) (.side (IntMulOk 4 (la cause 31)) (.prop (j8 [b,d,p] (Yi b d p B cause value place mode) (.ref 100010) [(100010,.tup [.int 1,.int (z8 B.s0 cause)]),(100000,.inst 397 100002),(100002,.attrs (j6 100004 ({ B with st:=jd (jd (la B.st 4294967005) 0) (256 * if (mode==1)=Bool.true then 1 else 0),s3:=place,s4:=cause,s5:=la value 4294967295 }))),(100004,.idict (jb ({ B with st:=jd (jd (la B.st 4294967005) 0) (256 * if (mode==1)=Bool.true then 1 else 0),s3:=place,s4:=cause,s5:=la value 4294967295 })))] 6))))) (.br (la B.st 8 != 0) (.br (Decidable.decide (0<=11)&&(Decidable.decide (11<=64)&&Decidable.decide (mode.natAbs < 18446744073709551616))) (.side (IntMulOk 4 (la cause 31)) (.prop (j8 [b,d,p] (Yi b d p B cause value place mode) (.ref 100010) [(100010,.tup [.int 3,.int (z8 B.m0 cause)]),(100000,.inst 397 100002),(100002,.attrs (j6 100004 ({ B with st:=jd (jd (la B.st 4294961015) 128) (mode * 2048),m3:=place,m4:=cause,m5:=la value 4294967295 }))),(100004,.idict (jb ({ B with st:=jd (jd (la B.st 4294961015) 128) (mode * 2048),m3:=place,m4:=cause,m5:=la value 4294967295 })))] 6))) .fail) (.br (Decidable.decide (0<=11)&&(Decidable.decide (11<=64)&&Decidable.decide (mode.natAbs < 18446744073709551616))) (.side (IntMulOk 4 (la cause 31)) (.prop (j8 [b,d,p] (Yi b d p B cause value place mode) (.ref 100010) [(100010,.tup [.int 3,.int (z8 B.m0 cause)]),(100000,.inst 397 100002),(100002,.attrs (j6 100004 ({ B with st:=jd (jd (la B.st 4294961015) 0) (mode * 2048),m3:=place,m4:=cause,m5:=la value 4294967295 }))),(100004,.idict (jb ({ B with st:=jd (jd (la B.st 4294961015) 0) (mode * 2048),m3:=place,m4:=cause,m5:=la value 4294967295 })))] 6))) .fail)))) ?e ?h;case e=>kernel_rfl
 case h =>
  have hd:decide (mode.natAbs < 18446744073709551616)=true:=decide_eq_true h3;refine ⟨h0,jY (λq=>jY (λq2=>⟨h2,h1,zQ [100010,100000,100002,100004] rfl λt _=>⟨_,rfl,by unfold jQ;rw [yF q,yF q2];rfl⟩⟩) λq2=>⟨h2,h1,zQ [100010,100000,100002,100004] rfl λt _=>⟨_,rfl,by unfold jQ;rw [yF q,zu q2];rfl⟩⟩)
   λq=>jY (λq2=>jy hd ⟨h1,zQ [100010,100000,100002,100004] rfl λt _=>⟨_,rfl,by unfold jQ;rw [zu q,yF q2];rfl⟩⟩) λq2=>jy hd ⟨h1,zQ [100010,100000,100002,100004] rfl λt _=>⟨_,rfl,by unfold jQ;rw [zu q,zu q2];rfl⟩⟩⟩
noncomputable def zGh (b d p l:Addr) (B:Bd) (x y z:Int) (Y:V) (o:jA):Prop:=Y = .none/\o=jI b d p { B with st:=zEI B.st x y z }++[(l,.list [.int x,.int y,.int z])]
theorem zM9 (b d p l:Addr) (B:Bd) (x y z:Int) (hx:x.natAbs < 2 ^ 64) (hy:y.natAbs < 2 ^ 64) (hz:z.natAbs < 2 ^ 64):Ct (Mine.KP.heap_1 w.params) mg mb 5 (.ref 472) [.ref b,.int 256,.ref l] (jI b d p B++[(l,.list [.int x,.int y,.int z])]) (zGh b d p l B x y z):=by
 refine zM (E:=E1 w mg mb 5) (r:=[b,d,p,l]) (xs:=[.ref 100000,.int 256,.ref 100006]) (o:=jI 100000 100002 100004 B++[(100006,.list [.int x,.int y,.int z])]) (n0:=4) (n:=60) (zD6 w mg mb).2 (okB rfl rfl) (zP rfl) rfl (T:=.br (Decidable.decide (0<=1)&&(Decidable.decide (1<=64)&&Decidable.decide (x.natAbs < 18446744073709551616))) (.br (Decidable.decide (0<=5)&&(Decidable.decide (5<=64)&&Decidable.decide (y.natAbs < 18446744073709551616))) (.br (Decidable.decide (0<=8)&&(Decidable.decide (8<=64)&&Decidable.decide (z.natAbs < 18446744073709551616))) (.prop (j8 [b,d,p,l] (zGh b d p l B x y z) .none [(100000,.inst 397 100002),(100002,.attrs (j6 100004 ({ B with st:=jd (la B.st 4294180573) (la (la (jd (la (jd (la (jd (la (la B.st 786722) 4294967293) (x * 2)) 4294967263) (y * 32)) 4294967039) (z * 256)) 4294967295) 786722) }))),(100004,.idict (jb ({ B with st:=jd (la B.st 4294180573) (la (la (jd (la (jd (la (jd (la (la B.st 786722) 4294967293) (x * 2)) 4294967263) (y * 32)) 4294967039) (z * 256)) 4294967295) 786722) }))),(100006,.list [.int x,.int y,.int z])] 20)) .fail) .fail) .fail) ?e ?h;case e=>kernel_rfl
 case h =>exact jy (decide_eq_true hx) (jy (decide_eq_true hy) (jy (decide_eq_true hz) (zQ [100000,100002,100004,100006] rfl λt _=>⟨rfl,rfl⟩)))
noncomputable def zGi (b d p l:Addr) (B:Bd) (x y z:Int) (Y:V) (o:jA):Prop:=Y = .none/\o=jI b d p { B with st:=zEJ B.st x y z }++[(l,.list [.int x,.int y,.int z])]
theorem zMa (b d p l:Addr) (B:Bd) (x y z:Int) (hx:x.natAbs < 2 ^ 64) (hy:y.natAbs < 2 ^ 64) (hz:z.natAbs < 2 ^ 64):Ct (Mine.KP.heap_1 w.params) mg mb 5 (.ref 472) [.ref b,.int 768,.ref l] (jI b d p B++[(l,.list [.int x,.int y,.int z])]) (zGi b d p l B x y z):=by
 refine zM (E:=E1 w mg mb 5) (r:=[b,d,p,l]) (xs:=[.ref 100000,.int 768,.ref 100006]) (o:=jI 100000 100002 100004 B++[(100006,.list [.int x,.int y,.int z])]) (n0:=4) (n:=60) (zD6 w mg mb).2 (okB rfl rfl) (zP rfl) rfl (T:=.br (Decidable.decide (0<=3)&&(Decidable.decide (3<=64)&&Decidable.decide (x.natAbs < 18446744073709551616))) (.br (Decidable.decide (0<=7)&&(Decidable.decide (7<=64)&&Decidable.decide (y.natAbs < 18446744073709551616))) (.br (Decidable.decide (0<=11)&&(Decidable.decide (11<=64)&&Decidable.decide (z.natAbs < 18446744073709551616))) (.prop (j8 [b,d,p,l] (zGi b d p l B x y z) .none [(100000,.inst 397 100002),(100002,.attrs (j6 100004 ({ B with st:=yy B.st (la (jd (la (jd (la (jd (la B.st 4294967287) (x * 8)) 4294967167) (y * 128)) 4294961151) (z * 2048)) 4294967295) }))),(100004,.idict (jb ({ B with st:=yy B.st (la (jd (la (jd (la (jd (la B.st 4294967287) (x * 8)) 4294967167) (y * 128)) 4294961151) (z * 2048)) 4294967295) }))),(100006,.list [.int x,.int y,.int z])] 22)) .fail) .fail) .fail) ?e ?h;case e=>kernel_rfl
 case h =>exact jy (decide_eq_true hx) (jy (decide_eq_true hy) (jy (decide_eq_true hz) (zQ [100000,100002,100004,100006] rfl λt _=>⟨rfl,rfl⟩)))
noncomputable def zCj (b d p:Addr) (B:Bd) (n:Int) (c:Bool) (y:V) (o:jA):Prop:=y = .none/\o=jI b d p { B with wa:=j5 B.wa n c }
theorem zMb (b d p:Addr) (B:Bd) (n:Int) (c:Bool) (h0:0<=n) (h1:n<=64):Ct (Mine.KP.heap_1 w.params) mg mb 1 (.ref 331) [.ref b,.int n,.bool c] (jI b d p B) (zCj b d p B n c):=by
 refine zM (E:=E1 w mg mb 1) (r:=[b,d,p]) (xs:=[.ref 100000,.int n,.bool c]) (o:=jI 100000 100002 100004 B) (n0:=3) (n:=60) (zGQ w mg mb).2 (okB rfl rfl) (zP rfl) rfl (T:=.br c (.br (Decidable.decide (0<=n)&&(Decidable.decide (n<=64)&&Decidable.decide (1 < 18446744073709551616))) (.prop (j8 [b,d,p] (zCj b d p B n c) .none [(100000,.inst 397 100002),(100002,.attrs (j6 100004 ({ B with wa:=jd B.wa (1 * ((2 ^ n.toNat:Nat):Int)) }))),(100004,.idict (jb ({ B with wa:=jd B.wa (1 * ((2 ^ n.toNat:Nat):Int)) })))] 4)) .fail) (.br (Decidable.decide (0<=n)&&(Decidable.decide (n<=64)&&Decidable.decide (1 < 18446744073709551616))) (.prop (j8 [b,d,p] (zCj b d p B n c) .none [(100000,.inst 397 100002),(100002,.attrs (j6 100004 ({ B with wa:=la B.wa (lx 4294967295 (1 * ((2 ^ n.toNat:Nat):Int))) }))),(100004,.idict (jb ({ B with wa:=la B.wa (lx 4294967295 (1 * ((2 ^ n.toNat:Nat):Int))) })))] 4)) .fail)) ?e ?h;case e=>kernel_rfl
 case h =>have e:((2 ^ n.toNat:Nat):Int)=2 ^ n.toNat:=Int.natCast_pow 2 n.toNat;exact jY (λq=>jy (show (decide (0<=n)&&(decide (n<=64)&&decide ((1:Int).natAbs < 18446744073709551616)))=true from by rw [decide_eq_true h0,decide_eq_true h1];rfl) (zQ [100000,100002,100004] rfl λt _=>⟨rfl,by unfold j5;rw [yF q,<- e];rfl⟩)) λq=>jy (show (decide (0<=n)&&(decide (n<=64)&&decide ((1:Int).natAbs < 18446744073709551616)))=true from by rw [decide_eq_true h0,decide_eq_true h1];rfl) (zQ [100000,100002,100004] rfl λt _=>⟨rfl,by unfold j5;rw [zu q,<- e];rfl⟩)
noncomputable def zOq {α:Type}(l:List α):Option (α×α×α×α×α):=(zl l).elim none λa=>(zl a.2).elim none λb=>(Yh b.2).elim none λq=>some (a.1,b.1,q)
theorem zIm {α:Type}{q:α×α×α×α×α}{l:List α}(h:zOq l=some q):l=[q.1,q.2.1,q.2.2.1,q.2.2.2.1,q.2.2.2.2]:=jH h λa e h=>jH h λb e2 h=>jH h λp e3 h=>by rw [zA e,zA e2,yT e3,<- Option.some.inj h]
noncomputable def enterS:Spec:=λxs s K=>jS (zOq xs) λq=>jS q.1.ref? λb=>jS q.2.1.int? λcause=>jS q.2.2.1.int? λvalue=>jS q.2.2.2.1.int? λplace=>jS q.2.2.2.2.int? λmode=>zB7 b s λd p B rest =>
 .side (0<=la cause 31/\la cause 31<=31/\mode.natAbs < 2 ^ 64) (zDf b d p (jQ B cause value place mode).2.2 (jQ B cause value place mode).1 (jQ B cause value place mode).2.1 rest s K)
theorem zEa:jh (Mine.KP.heap_1 w.params) mg mb 352 2 enterS:=λxs s K h W A r G R ok hx =>
 jE h λq e0 h=>jE h λb e1 h=>jE h λcause e2 h=>jE h λvalue e3 h=>jE h λplace e4 h=>jE h λmode e5 h=>YQ ok h λd p B rest pp ww h=>yY h λhc h=>by rw [zIm e0,jg e1,jk e2,jk e3,jk e4,jk e5];refine Cl.use (zIl _ _ _ B cause value place mode hc.1 (J0 (by have h1:=hc.1;have h2:=hc.2.1;omega)) (Zu (by decide)) hc.2.2) G R (Nat.le_refl _) pp ?_;rintro _ _ ⟨t,rfl,rfl⟩;exact Jg ok ww h
noncomputable def ja (base st x y z:Int):Int:=if (base==256)=true then zEI st x y z else zEJ st x y z
noncomputable def putSS:Spec:=λxs s K=>jS (Yh xs) λq=>jS q.1.ref? λb=>jS q.2.1.int? λbase=>jS q.2.2.ref? λl=>zB7 b s λd p B rest=>jS (rdI l rest) λu=>jS (Yh u.1) λt =>
 .side (t.1.natAbs < 2 ^ 64/\t.2.1.natAbs < 2 ^ 64/\t.2.2.natAbs < 2 ^ 64) (gd (base==256||base==768) (s.up (jI b d p { B with st:=ja base B.st t.1 t.2.1 t.2.2 }++(l,.list [.int t.1,.int t.2.1,.int t.2.2])::u.2) (K .none)))
theorem zOr {b d p l:Addr}{B:Bd}{base x y z:Int}(hb:(base==256||base==768)=true) (hx:x.natAbs < 2 ^ 64) (hy:y.natAbs < 2 ^ 64) (hz:z.natAbs < 2 ^ 64) :
  Ct (Mine.KP.heap_1 w.params) mg mb 5 (.ref 472) [.ref b,.int base,.ref l] (jI b d p B++[(l,.list [.int x,.int y,.int z])]) λY o=>Y = .none/\o=jI b d p { B with st:=ja base B.st x y z }++[(l,.list [.int x,.int y,.int z])]:=by
 induction eb:base==256 using Bool.casesOn with
 | true=>obtain rfl:=eq_of_beq eb;exact zM9 b d p l B x y z hx hy hz
 | false =>rw [eb] at hb;obtain rfl:=eq_of_beq hb;exact zMa b d p l B x y z hx hy hz
theorem zGj:jh (Mine.KP.heap_1 w.params) mg mb 472 5 putSS:=λxs s K h W A r G R ok hx =>
 jE h λq e0 h=>jE h λb e1 h=>jE h λbase e2 h=>jE h λl e3 h=>YQ ok h λd p B rest pp ww h=>jE h λu eu h=>jE h λt et h=>yY h λhc h=>j1 h λhb h=>by rw [yT e0,jg e1,jk e2,jg e3];have tk:=zAO l rest u eu;rw [yT et] at tk;have wr:owf s.n ((l,.list [.int t.1,.int t.2.1,.int t.2.2])::u.2):=List.forall_mem_cons.mpr ⟨ww.2.2.2 _ (tk.m _ (.head _)),λq hq=>ww.2.2.2 q (tk.n q hq)⟩;refine Cl.use (zOr (d:=jL r d) (p:=jL r p) (B:=B) hb hc.1 hc.2.1 hc.2.2) G R (Nat.le_refl _) (o₂:=jC r u.2) (pp.trans (((tk.p r).append_left _).trans (.of_eq (List.append_assoc _ _ _).symm))) ?_;rintro _ _ ⟨rfl,rfl⟩;have:=Yx (V6 (B:={ B with st:=ja base B.st t.1 t.2.1 t.2.2 }) ok ⟨ww.1,ww.2.1,ww.2.2.1,wr⟩) h;rw [List.append_assoc];exact this
noncomputable def V.num:V->Int
 | .int a=>a
 | _=>0
noncomputable def yG (B:Bd) (m:Int):V:=jm B.wa B.en B.li m (la B.st 2 != 0) (la B.st 8 != 0)
noncomputable def pendS:Spec:=λxs s K=>jS (two xs) λq=>jS q.1.ref? λb=>jS q.2.int? λm=>zB7 b s λ_ _ B _=>.side (m=0\/m=1\/m=3) (.br (yG B m).isNone (K .none s) (K (.int (yG B m).num) s))
theorem zGk (B:Bd) (m:Int):yG B m=if (yG B m).isNone=true then .none else .int (yG B m).num:=by
 have:∀ (x:Int) (l:List (Int×Int)),ze x l=if (ze x l).isNone=true then .none else .int (ze x l).num:=λx l=>by
  induction l with
  | nil=>rfl
  | cons p q ih =>
   rw [zDd];cases la (x / p.2) 1 != 0
   ·exact ih
   ·rfl
 unfold yG jm;cases la B.wa B.en==0
 ·exact this _ _
 ·rfl
theorem zGl:jh (Mine.KP.heap_1 w.params) mg mb 338 1 pendS:=λxs s K h W A r G R ok hx =>
 jE h λq e0 h=>jE h λb e1 h=>jE h λm e2 h=>YQ ok h λd p B rest pp ww h=>yY h λhm h=>by
  rw [yL e0,jg e1,jk e2];have fin:∃ o',(jI (jL r b) (jL r d) (jL r p) B++jC r rest).Perm o'/\Lift RV r K (yG B m) o' (jK r s.ns):=by
   rw [zGk];have h:=zc h;induction e:(yG B m).isNone using Bool.casesOn with
   | true=>rw [e] at h;exact Yg (v:=.none) ok trivial pp h
   | false=>rw [e] at h;exact Yg (v:=.int _) ok trivial pp h
  rcases hm with rfl | rfl | rfl
  ·exact Cl.post (Cl.use (zIg _ _ _ B) G R (Nat.le_refl _) pp (by rintro _ _ ⟨rfl,rfl⟩;exact fin))
  ·exact Cl.post (Cl.use (zIh _ _ _ B) G R (Nat.le_refl _) pp (by rintro _ _ ⟨rfl,rfl⟩;exact fin))
  ·exact Cl.post (Cl.use (zIi _ _ _ B) G R (Nat.le_refl _) pp (by rintro _ _ ⟨rfl,rfl⟩;exact fin))
noncomputable def lineS:Spec:=λxs s K=>jS (Yh xs) λq=>jS q.1.ref? λb=>jS q.2.1.int? λn=>jS q.2.2.bool? λc=>zB7 b s λd p B rest=>.side (0<=n/\n<=64) (s.up (jI b d p { B with wa:=j5 B.wa n c }++rest) (K .none))
theorem zDg {x:V}{c:Bool}(h:x.bool?=some c):x = .bool c:=by cases x<;>cases h;rfl
theorem zGm:jh (Mine.KP.heap_1 w.params) mg mb 331 1 lineS:=λxs s K h W A r G R ok hx =>
 jE h λq e0 h=>jE h λb e1 h=>jE h λn e2 h=>jE h λc e3 h=>YQ ok h λd p B rest pp ww h=>yY h λhc h=>by rw [yT e0,jg e1,jk e2,zDg e3];refine Cl.use (zMb _ _ _ B n c hc.1 hc.2) G R (Nat.le_refl _) pp ?_;rintro _ _ ⟨rfl,rfl⟩;have:=Yx (V6 (B:={ B with wa:=j5 B.wa n c }) ok ww) h;rw [show jC r (jI b d p { B with wa:=j5 B.wa n c }++rest)=jI (jL r b) (jL r d) (jL r p) { B with wa:=j5 B.wa n c }++jC r rest from List.map_append] at this;exact this
end
section
variable {w:World} {mg mb:Str->Option Value}
noncomputable def stO (side:Int) (L0 L1:Lv) (c0 c1:Cm):jA:=[(100000,.sdict [("side",.int side),("modes",.ref 100002),("nest",.ref 100004),("due",.ref 100010),("boards",.ref 100024),("rest",.ref 100026)]),(100010,.list [.ref 100012,.ref 100014]),(100012,.list [.ref 100016,.ref 100018]),(100016,.list (L0.row L0.x)),(100018,.list (L0.row L0.y)),(100014,.list [.ref 100020,.ref 100022]),(100020,.list (L1.row L1.x)),(100022,.list (L1.row L1.y)),(100024,.list [.ref 100032,.ref 100038]),(100032,.inst 397 100034),(100034,.attrs (j6 100036 (jM L0 L0.x L1 L1.x c0))),(100036,.idict (jb (jM L0 L0.x L1 L1.x c0))),(100038,.inst 397 100040),(100040,.attrs (j6 100042 (jM L1 L1.y L0 L0.y c1))),(100042,.idict (jb (jM L1 L1.y L0 L0.y c1))),(100026,.list [.ref 100028,.ref 100030]),(100028,.list c0.row),(100030,.list c1.row)]
noncomputable def vd:V->PyData
 | .int i=>.int i
 | _=>.none
noncomputable def zB8 (xs ys:List V):Bool:=!(PyData.eqv (.list (xs.map vd)) (.list (ys.map vd)))
theorem Q8:∀ xs:List V,PyData.canLayAll0 (xs.map vd)=true
 | []=>rfl
 | x::xs=>by
  have h:(vd x).canLay0=true:=by cases x<;>rfl
  show ((vd x).canLay0&&PyData.canLayAll0 (xs.map vd))=true;rw [h,Q8 xs];rfl
theorem y9 (xs:List V):zB8 xs xs=false:=by unfold zB8;rw [PySem.SeqAt.eqv_refl (.list (xs.map vd)) (Q8 xs)];rfl
noncomputable def yU (side:Int) (L0 L1:Lv) (c0 c1:Cm) (r:List Addr) (y:V) (o:jA):Prop:=y = .bool true/\o=jC r (stO side L0 L1 c0 c1)
theorem zB9 (side:Int) (L0 L1:Lv) (c0 c1:Cm) (k0:Z4 L0 L0.x L1 L1.x c0) (k1:Z4 L1 L1.y L0 L0.y c1) (r:List Addr) (hr:r.length=22):Ct (Mine.KP.heap_1 w.params) mg mb 5 (.ref 479) (([.ref 100000]:List V).map (V.ren r)) (jC r (stO side L0 L1 c0 c1)) (yU side L0 L1 c0 c1 r):=by
 refine zM (E:=E1 w mg mb 5) (xs:=[.ref 100000]) (o:=stO side L0 L1 c0 c1) (n0:=22) (n:=60) (zGX w mg mb).2 (okB hr rfl) (zP rfl) rfl (T:=.br (zB8 (zAI (jM L0 L0.x L1 L1.x c0)) (L0.row L0.x)) (.prop (j8 r (yU side L0 L1 c0 c1 r) (.bool Bool.false) (stO side L0 L1 c0 c1) 70)) (.br (zB8 (zAJ (jM L0 L0.x L1 L1.x c0)) (L1.row L1.x)) (.prop (j8 r (yU side L0 L1 c0 c1 r) (.bool Bool.false) (stO side L0 L1 c0 c1) 116)) (.br (zB8 (zAH (jM L0 L0.x L1 L1.x c0)) c0.row) (.prop (j8 r (yU side L0 L1 c0 c1 r) (.bool Bool.false) (stO side L0 L1 c0 c1) 150)) (.br (zB8 (zAJ (jM L1 L1.y L0 L0.y c1)) (L0.row L0.y)) (.prop (j8 r (yU side L0 L1 c0 c1 r) (.bool Bool.false) (stO side L0 L1 c0 c1) 197)) (.br (zB8 (zAI (jM L1 L1.y L0 L0.y c1)) (L1.row L1.y)) (.prop (j8 r (yU side L0 L1 c0 c1 r) (.bool Bool.false) (stO side L0 L1 c0 c1) 242)) (.br (zB8 (zAH (jM L1 L1.y L0 L0.y c1)) c1.row) (.prop (j8 r (yU side L0 L1 c0 c1 r) (.bool Bool.false) (stO side L0 L1 c0 c1) 276)) ((.prop (j8 r (yU side L0 L1 c0 c1 r) (.bool Bool.true) (stO side L0 L1 c0 c1) 276))))))))) ?e ?h;case e=>kernel_rfl
 case h =>exact ZB (by rw [VW k0,y9]) (ZB (by rw [VX k0,y9]) (ZB (by rw [zB0 k0,y9]) (ZB (by rw [VX k1,y9]) (ZB (by rw [VW k1,y9]) (ZB (by rw [zB0 k1,y9]) (zQ [100000,100010,100012,100016,100018,100014,100020,100022,100024,100032,100034,100036,100038,100040,100042,100026,100028,100030] rfl λt _=>⟨rfl,yB (hr.symm▸YN rfl)⟩))))))
end
section
variable {w:World} {mg mb:Str->Option Value}
structure Bx where
 (g su a:Int) (ys:List V)
noncomputable def jD (X:Bx) (m:Int):Bx:={ X with g:=if decide (m<=X.g)=true then X.g / m else X.g,a:=if decide (m<=X.g)=true then X.a else X.a + 1 }
noncomputable def jF (X:Bx) (m:Int):Int:=if decide (m<=X.g)=true then X.g % m else (yo X.ys ((X.a + 1) % (X.ys.length:Int)) + X.su + 5 * (X.a + 1) + (X.a + 1) * (X.a + 1) / 3) % m
noncomputable def jc (x y:Addr) (X:Bx):jA:=[(x,.sdict [("great",.int X.g),("small",.ref y),("sum",.int X.su),("at",.int X.a)]),(y,.list X.ys)]
noncomputable abbrev bxO (X:Bx):jA:=jc 100000 100002 X
structure BxI (X:Bx) (c:Int):Prop where
 g0:0<=X.g
 a0:0<=X.a
 ac:X.a<=c
 ys:∃ is:List Int,X.ys=is.map V.int/\is≠[]/\is.length<=100
structure zX (X:Bx) (m:Int):Prop where
 b:BxI X 99999
 m0:0 < m
 m1:m < 1073741824
section
variable {X:Bx} {c d m:Int}
theorem BxI.up (h:BxI X c) (hc:c<=d):BxI X d:=⟨h.g0,h.a0,Int.le_trans h.ac hc,h.ys⟩
theorem BxI.tk (h:BxI X c) (hc:c < 100000) (m0:0 < m) (m1:m < 1073741824):zX X m:=⟨h.up (by omega),m0,m1⟩
theorem BxI.next (h:BxI X c) (m0:0 < m):BxI (jD X m) (c + 1):=by
 refine ⟨?_,?_,?_,h.ys⟩<;>unfold jD<;>cases decide (m<=X.g)
 ·exact h.g0
 ·exact Int.ediv_nonneg h.g0 (Int.le_of_lt m0)
 ·exact Int.le_add_one h.a0
 ·exact h.a0
 ·exact Int.add_le_add_right h.ac 1
 ·exact Int.le_trans h.ac (Int.le_add_one (Int.le_refl _))
theorem jG (m0:0 < m):0<=jF X m/\jF X m < m:=by
 unfold jF;cases decide (m<=X.g)
 ·exact ⟨Int.emod_nonneg _ (Int.ne_of_gt m0),Int.emod_lt_of_pos _ m0⟩
 ·exact ⟨Int.emod_nonneg _ (Int.ne_of_gt m0),Int.emod_lt_of_pos _ m0⟩
theorem BxI.ren (h:BxI X c) {r:List Addr}:X.ys.map (V.ren r)=X.ys:=by obtain ⟨is,e,_⟩:=h.ys;rw [e];exact j2
theorem Yj (h:BxI X c) {n x y:Nat}(hx:wfA n x) (hy:wfA n y):owf n (jc x y X):=by
 obtain ⟨is,e,_⟩:=h.ys;refine List.forall_mem_cons.mpr ⟨⟨hx,?_⟩,List.forall_mem_cons.mpr ⟨⟨hy,?_⟩,λ_ h=>absurd h List.not_mem_nil⟩⟩
 ·exact List.forall_mem_cons.mpr ⟨trivial,List.forall_mem_cons.mpr ⟨hy,List.forall_mem_cons.mpr ⟨trivial,List.forall_mem_cons.mpr ⟨trivial,λ_ h=>absurd h List.not_mem_nil⟩⟩⟩⟩
 ·intro x hx;rw [e] at hx;obtain ⟨i,_,rfl⟩:=List.mem_map.mp hx;trivial
theorem yf (h:BxI X c) {r:List Addr}{x y:Addr}:jC r (jc x y X)=jc (jL r x) (jL r y) X:=by show [(jL r x,Ob.sdict _),(jL r y,Ob.list (X.ys.map (V.ren r)))]=_;rw [h.ren];rfl
end
noncomputable def EO (w:World) (mg mb:Str->Option Value) (k:Nat) (op:List Addr):Est:=EX w mg mb k op [] SP1 zGg
noncomputable def zCk (X:Bx) (m:Int) (r:List Addr) (y:V) (o:jA):Prop:=y = .int (jF X m)/\o=jC r (bxO (jD X m))
theorem zMc (X:Bx) (m:Int) (h:zX X m) (r:List Addr) (hr:r.length=2):Ct (Mine.KP.heap_1 w.params) mg mb 1 (.ref 415) (([.ref 100000,.int m]:List V).map (V.ren r)) (jC r (bxO X)) (zCk X m r):=by
 refine zM (E:=EO w mg mb 1 [100002]) (xs:=[.ref 100000,.int m]) (o:=bxO X) (n0:=2) (n:=60) (zGW w mg mb).2 (⟨hr,Yj h.b (wfB_h rfl) (wfB_h rfl),λ_ h=>absurd h List.not_mem_nil⟩) (zP rfl) rfl (T:=.br (Decidable.decide (m<=X.g)) (.br (Decidable.decide (0 < m)) (.br (Decidable.decide (0 < m)&&Decidable.decide (m < 1073741824)) (.prop (j8 r (zCk X m r) (.int (X.g % m)) [(100000,.sdict [("great",.int (X.g / m)),("small",.ref 100002),("sum",.int X.su),("at",.int X.a)]),(100002,.list X.ys)] 3)) .fail) .fail) (.side (X.ys.length<=900) (.br (Decidable.decide ((0:Int) < ↑X.ys.length)) (.side (yC X.ys ((X.a + 1) % ↑X.ys.length)) (.side (IntMulOk 5 (X.a + 1)) (.side (IntMulOk (X.a + 1) (X.a + 1)) (.br (Decidable.decide (0 < m)) (.prop (j8 r (zCk X m r) (.int ((yo X.ys ((X.a + 1) % ↑X.ys.length) + X.su + 5 * (X.a + 1) + (X.a + 1) * (X.a + 1) / 3) % m)) [(100000,.sdict [("great",.int X.g),("small",.ref 100002),("sum",.int X.su),("at",.int (X.a + 1))]),(100002,.list X.ys)] 4)) .fail)))) .fail))) ?e ?h;case e=>kernel_rfl
 case h =>
  have d0:decide (0 < m)=true:=decide_eq_true h.m0;have d1:(decide (0 < m)&&decide (m < 1073741824))=true:=by rw [d0,decide_eq_true h.m1];rfl
  refine jY (λq=>jy d0 (jy d1 (zQ [100000,100002] (o0:=jc 100000 100002 (jD X m)) (by unfold jc jD;rw [yF q,yF q];rfl) λt _=>⟨by unfold jF;rw [yF q];rfl,yB (hr.symm▸Yj (h.b.next h.m0) (wfB_h rfl) (wfB_h rfl))⟩))) λq=>?_;obtain ⟨is,hy,hne,hl⟩:=h.b.ys;have h0:=h.b.a0;have h1:=h.b.ac;have l0:0 < is.length:=List.length_pos_iff.mpr hne;have ly:X.ys.length=is.length:=by rw [hy,List.length_map]
  have lp:(0:Int) < (X.ys.length:Int):=by omega
  exact ⟨by omega,jy (decide_eq_true lp) ⟨⟨is,hy,by omega,Int.emod_nonneg _ (Int.ne_of_gt lp),by rw [<- ly];exact Int.emod_lt_of_pos _ lp⟩,Zu (by decide),Zu (by omega),jy d0 (zQ [100000,100002] (o0:=jc 100000 100002 (jD X m)) (by unfold jc jD;rw [zu q,zu q];rfl) λt _=>⟨by unfold jF;rw [zu q];rfl,yB (hr.symm▸Yj (h.b.next h.m0) (wfB_h rfl) (wfB_h rfl))⟩)⟩⟩
noncomputable def Ob.sdict?:Ob->Option (List (Str×V))
 | .sdict a=>some a
 | _=>none
theorem zBa {x:Ob}{a:List (Str×V)}(h:x.sdict?=some a):x = .sdict a:=by cases x<;>cases h;rfl
structure Wh where
 (side:Int) (m nl D bs rl:Addr)
noncomputable def zMd:List Str:=["side","modes","nest","due","boards","rest"]
noncomputable def zOs (l:List V):Option Wh:=(pI l).elim none λa=>(pR a.2).elim none λb=>(pR b.2).elim none λc=>(pR c.2).elim none λd=>(pR d.2).elim none λe=>(pR e.2).elim none λf=>cond f.2.isEmpty (some ⟨a.1,b.1,c.1,d.1,e.1,f.1⟩) none
theorem zIn {l:List V}{x:Wh}(h:zOs l=some x):l=[.int x.side,.ref x.m,.ref x.nl,.ref x.D,.ref x.bs,.ref x.rl] :=
 jH h λa ea h=>jH h λb eb h=>jH h λc ec h=>jH h λd ed h=>jH h λe ee h=>jH h λf ef h=>by obtain ⟨e7,rfl⟩:=zCe h;rw [V3 ea,V4 eb,V4 ec,V4 ed,V4 ee,V4 ef,e7]
noncomputable def zGn (x:Wh):Ob:=.sdict [("side",.int x.side),("modes",.ref x.m),("nest",.ref x.nl),("due",.ref x.D),("boards",.ref x.bs),("rest",.ref x.rl)]
noncomputable def rdW (a:Addr):Rk Wh:=.got a λx=>x.sdict?.elim none λkv=>(V2 zMd kv).elim none zOs
theorem zCl (a:Addr):RkOk (rdW a) λx=>[(a,zGn x)]:=.got λx y h=>jH h λkv e h=>jH h λvs e2 h=>by rw [zBa e,Ju e2,zIn h];rfl
structure Bh where
 (g:Int) (sm:Addr) (su a:Int)
noncomputable def zOt (l:List V):Option Bh:=(pI l).elim none λa=>(pR a.2).elim none λb=>(pI b.2).elim none λc=>(pI c.2).elim none λd=>cond d.2.isEmpty (some ⟨a.1,b.1,c.1,d.1⟩) none
theorem zIo {l:List V}{x:Bh}(h:zOt l=some x):l=[.int x.g,.ref x.sm,.int x.su,.int x.a] :=
 jH h λa ea h=>jH h λb eb h=>jH h λc ec h=>jH h λd ed h=>by obtain ⟨e7,rfl⟩:=zCe h;rw [V3 ea,V4 eb,V3 ec,V3 ed,e7]
noncomputable def rdH (a:Addr):Rk Bh:=.got a λx=>x.sdict?.elim none λkv=>(V2 (["great","small","sum","at"]:List Str) kv).elim none zOt
theorem zMe (a:Addr):RkOk (rdH a) λx=>[(a,.sdict [("great",.int x.g),("small",.ref x.sm),("sum",.int x.su),("at",.int x.a)])]:=.got λx y h=>jH h λkv e h=>jH h λvs e2 h=>by rw [zBa e,Ju e2,zIo h];rfl
noncomputable def rdX (a:Addr):Rk (Bh×List V):=(rdH a).bind λx=>rdL x.sm
theorem zGo (a:Addr):RkOk (rdX a) λp=>jc a p.1.sm ⟨p.1.g,p.1.su,p.1.a,p.2⟩:=(zMe a).bind λx=>zAN x.sm
theorem zIp {x y:Addr}{m:Int}:([.ref 100000,.int m]:List V).map (V.ren [x,y])=[.ref x,.int m]:=rfl
theorem zK4 {X:Bx}{c:Int}{x y:Addr}(h:BxI X c):jC [x,y] (bxO X)=jc x y X:=yf h
noncomputable def takeS:Spec:=λxs s K=>jS (two xs) λq=>jS q.1.ref? λbx=>jS q.2.int? λm=>jS (rdX bx s.o) λp =>
 .side (zX ⟨p.1.1.g,p.1.1.su,p.1.1.a,p.1.2⟩ m) (j3 (jc bx p.1.1.sm (jD ⟨p.1.1.g,p.1.1.su,p.1.1.a,p.1.2⟩ m)++p.2) λo=>s.up o (K (.int (jF ⟨p.1.1.g,p.1.1.su,p.1.1.a,p.1.2⟩ m))))
theorem zGp:jh (Mine.KP.heap_1 w.params) mg mb 415 1 takeS:=λxs s K h W A r G R ok hx =>
 jE h λq e0 h=>jE h λbx e1 h=>jE h λm e2 h=>jE h λp e h=>yY h λht h=>by
  rw [yL e0,jg e1,jk e2];have tk:=zGo bx s.o p e;have w1:=(ok.o _ (tk.m _ (.head _))).1;have w2:=(ok.o _ (tk.m _ (.tail _ (.head _)))).1;have c:=zMc (w:=w) (mg:=mg) (mb:=mb) _ m ht [jL r bx,jL r p.1.1.sm] rfl;rw [zIp,zK4 ht.b] at c;refine Cl.use c G R (Nat.le_refl _) (o₂:=jC r p.2) ?_ ?_
  ·have:=tk.p r;rwa [yf ht.b] at this
  ·rintro _ _ ⟨rfl,rfl⟩;have hb:=ht.b.next ht.m0;have ok2:SS.ok r ⟨jc bx p.1.1.sm (jD ⟨p.1.1.g,p.1.1.su,p.1.1.a,p.1.2⟩ m)++p.2,s.ns,s.n⟩ :=
    ⟨ok.len,λq hq=>(List.mem_append.mp hq).elim (Yj hb w1 w2 q) λhq=>ok.o q (tk.n q hq),ok.ns⟩
   have:=je ok2 (jT h);rw [show jC r (jc bx p.1.1.sm (jD ⟨p.1.1.g,p.1.1.su,p.1.1.a,p.1.2⟩ m)++p.2)=jC r (jc bx p.1.1.sm (jD ⟨p.1.1.g,p.1.1.su,p.1.1.a,p.1.2⟩ m))++jC r p.2 from List.map_append,yf hb] at this;rw [zK4 hb];exact this
end
section
variable {w:World} {mg mb:Str->Option Value}
structure Wv where
 (side xa xb:Int)
 (v0 v1 v2 v3 w0 w1:List Int)
 (B0 B1:Bd)
 (C0 C1:List V)
noncomputable def wG (f:Nat->Addr) (side xa xb:Int) (r0 r1 r2 r3 q0 q1:List V) (B0 B1:Bd) (C0 C1:List V):jA:=[(f 0,.sdict [("side",.int side),("modes",.ref (f 1)),("nest",.ref (f 2)),("due",.ref (f 5)),("boards",.ref (f 12)),("rest",.ref (f 13))]),(f 5,.list [.ref (f 6),.ref (f 7)]),(f 6,.list [.ref (f 8),.ref (f 9)]),(f 8,.list r0),(f 9,.list r1),(f 7,.list [.ref (f 10),.ref (f 11)]),(f 10,.list r2),(f 11,.list r3),(f 12,.list [.ref (f 16),.ref (f 19)]),(f 16,.inst 397 (f 17)),(f 17,.attrs (j6 (f 18) B0)),(f 18,.idict (jb B0)),(f 19,.inst 397 (f 20)),(f 20,.attrs (j6 (f 21) B1)),(f 21,.idict (jb B1)),(f 13,.list [.ref (f 14),.ref (f 15)]),(f 14,.list q0),(f 15,.list q1),(f 1,.tup [.int xa,.int xb]),(f 2,.list [.ref (f 3),.ref (f 4)]),(f 3,.list C0),(f 4,.list C1)]
noncomputable def wF (f:Nat->Addr) (v:Wv):jA:=wG f v.side v.xa v.xb (v.v0.map V.int) (v.v1.map V.int) (v.v2.map V.int) (v.v3.map V.int) (v.w0.map V.int) (v.w1.map V.int) v.B0 v.B1 v.C0 v.C1
noncomputable def Wv.cm (g:V->V) (v:Wv):Wv:={ v with C0:=v.C0.map g,C1:=v.C1.map g }
noncomputable def jJ (l:List Addr) (k:Nat):Addr:=l.getD k 0
noncomputable def zGq (a:Addr):Rk ((Addr×Addr)×(List Int×List Int)):=(rd2 a).bind λp=>(rdI p.1).bind λ_=>rdI p.2
noncomputable def V7 (a:Addr):=(V1 a).bind λp=>(zAO p.1).bind λ_=>zAO p.2
noncomputable def zOu (a:Addr):=(rd2 a).bind λp=>(zGq p.1).bind λ_=>zGq p.2
noncomputable def zGr (a:Addr):=(V1 a).bind λp=>(V7 p.1).bind λ_=>V7 p.2
noncomputable def zOv (a:Addr):=(rd2 a).bind λp=>(rdB p.1).bind λ_=>rdB p.2
noncomputable def zDh (a:Addr):=(V1 a).bind λp=>(zCf p.1).bind λ_=>zCf p.2
noncomputable def zPz (a:Addr):=(rd2 a).bind λp=>(rdL p.1).bind λ_=>rdL p.2
noncomputable def zIq (a:Addr):=(V1 a).bind λp=>(zAN p.1).bind λ_=>zAN p.2
noncomputable def zQA (a:Addr):=(rdW a).bind λw=>(zOu w.D).bind λ_=>(zOv w.bs).bind λ_=>(zGq w.rl).bind λ_=>(rdT w.m).bind λ_=>zPz w.nl
noncomputable def zIr (a:Addr):=(zCl a).bind λw=>(zGr w.D).bind λ_=>(zDh w.bs).bind λ_=>(V7 w.rl).bind λ_=>(zM5 w.m).bind λ_=>zIq w.nl
noncomputable abbrev Rw:=(Addr×Addr)×(List Int×List Int)
noncomputable abbrev Wx:=Wh×(((Addr×Addr)×(Rw×Rw))×(((Addr×Addr)×(Br3×Br3))×(Rw×((Int×Int)×((Addr×Addr)×(List V×List V))))))
noncomputable def zOw (a:Addr) (x:Wx):List Addr:=[a,x.1.m,x.1.nl,x.2.2.2.2.2.1.1,x.2.2.2.2.2.1.2,x.1.D,x.2.1.1.1,x.2.1.1.2,x.2.1.2.1.1.1,x.2.1.2.1.1.2,x.2.1.2.2.1.1,x.2.1.2.2.1.2,x.1.bs,x.1.rl,x.2.2.2.1.1.1,x.2.2.2.1.1.2,x.2.2.1.1.1,x.2.2.1.2.1.1,x.2.2.1.2.1.2.1.2,x.2.2.1.1.2,x.2.2.1.2.2.1,x.2.2.1.2.2.2.1.2]
noncomputable def zOx (x:Wx) (B0 B1:Bd):Wv:=⟨x.1.side,x.2.2.2.2.1.1,x.2.2.2.2.1.2,x.2.1.2.1.2.1,x.2.1.2.1.2.2,x.2.1.2.2.2.1,x.2.1.2.2.2.2,x.2.2.2.1.2.1,x.2.2.2.1.2.2,B0,B1,x.2.2.2.2.2.2.1,x.2.2.2.2.2.2.2⟩
noncomputable def zGs (a:Addr) (s:SS) (K:List Addr->Wv->jA->Tree):Tree:=jS (zQA a s.o) λq=>j3 (q.1.2.2.1.2.1.2.1.1++q.1.2.2.1.2.1.2.2) λl=>jS (zB5 l) λB0=>j3 (q.1.2.2.1.2.2.2.1.1++q.1.2.2.1.2.2.2.2) λl=>jS (zB5 l) λB1 =>
 gd (Nat.beq q.1.2.2.1.2.1.2.1.1.length 6&&Nat.beq q.1.2.2.1.2.2.2.1.1.length 6) (j3 q.2 λrest=>K (zOw a q.1) (zOx q.1 B0 B1) rest)
theorem zAP {a:Addr}{s:SS}{K:List Addr->Wv->jA->Tree}{P:Prop}(h:(zGs a s K).holds) (k:∀ ns v rest,Took s.o (wF (jJ ns) v) rest->ns.length=22->jJ ns 0=a->(K ns v rest).holds->P):P :=
 jE h λq e h=>jE (jT h) λB0 e0 h=>jE (jT h) λB1 e1 h=>j1 h λhl h=>by refine k (zOw a q.1) (zOx q.1 B0 B1) q.2 ?_ rfl rfl (jT h);have t:=zIr a s.o q e;dsimp only at t;rw [zB6 e0 (jP hl).1,zB6 e1 (jP hl).2] at t;exact t
section
variable {R ns:List Addr} {v:Wv} {f:Nat->Addr}
theorem zMf {side xa xb:Int}{r0 r1 r2 r3 q0 q1 C0 C1:List V}{B0 B1:Bd}:jC R (wG f side xa xb r0 r1 r2 r3 q0 q1 B0 B1 C0 C1)=wG (λk=>jL R (f k)) side xa xb (r0.map (V.ren R)) (r1.map (V.ren R)) (r2.map (V.ren R)) (r3.map (V.ren R)) (q0.map (V.ren R)) (q1.map (V.ren R)) B0 B1 (C0.map (V.ren R)) (C1.map (V.ren R)):=rfl
theorem zAQ:jC R (wF f v)=wF (λk=>jL R (f k)) (v.cm (V.ren R)):=by unfold wF;rw [zMf,j2,j2,j2,j2,j2,j2];rfl
theorem yt:(λk=>jL R (jJ ns k))=jJ (ns.map (jL R)):=funext λk=>by unfold jJ;rw [List.getD_eq_getElem?_getD,List.getD_eq_getElem?_getD,List.getElem?_map];cases ns[k]?<;>rfl
theorem V8:(λk=>jL R (nm k))=jJ R:=funext λk=>zFZ k
theorem zCm:jC R (wF (jJ ns) v)=wF (jJ (ns.map (jL R))) (v.cm (V.ren R)):=by rw [zAQ,yt]
theorem zOy:jC R (wF nm (v.cm jZ))=wF (jJ R) v:=by rw [zAQ,V8];unfold Wv.cm;dsimp only;rw [jl,jl]
end
noncomputable def Lv.ints (L:Lv) (z:Int):List Int:=[L.v0,L.v1,L.v2,L.v3,L.v4,L.v5,L.l,L.a,z]
noncomputable def Cm.ints (c:Cm):List Int:=[c.r * 131072,c.sa,c.de,c.li,c.en,c.wa]
noncomputable def zb (side xa xb:Int) (L0 L1:Lv) (c0 c1:Cm) (C0 C1:List V):Wv:=⟨side,xa,xb,L0.ints L0.x,L0.ints L0.y,L1.ints L1.x,L1.ints L1.y,c0.ints,c1.ints,jM L0 L0.x L1 L1.x c0,jM L1 L1.y L0 L0.y c1,C0,C1⟩
inductive zy (v:Wv):Prop
 | mk (side xa xb:Int) (L0 L1:Lv) (c0 c1:Cm) (C0 C1:List V) (e:v=zb side xa xb L0 L1 c0 c1 C0 C1) (k0:Z4 L0 L0.x L1 L1.x c0) (k1:Z4 L1 L1.y L0 L0.y c1)
noncomputable def standsS:Spec:=λxs s K=>jS (one xs) λx=>jS x.ref? λa=>zGs a s λ_ v _=>.side (zy v) (K (.bool true) s)
theorem z9 {r:List Addr}{k:Nat}:jL r (nm k)=jJ r k:=congrFun (V8 (R:=r)) k
theorem zAR {l r:List Addr}{side xa xb:Int}{L0 L1:Lv}{c0 c1:Cm}{C0 C1:List V}:wF (jJ l) ((zb side xa xb L0 L1 c0 c1 C0 C1).cm (V.ren r))=jC l (stO side L0 L1 c0 c1)++(wF (jJ l) (zb side xa xb L0 L1 c0 c1 (C0.map (V.ren r)) (C1.map (V.ren r)))).drop 18:=by kernel_rfl
theorem zIs {r ns:List Addr}:([.ref 100000]:List V).map (V.ren (ns.map (jL r)))=[V.ref (jL r (jJ ns 0))]:=congrArg (λx=>[V.ref x]) ((z9 (k:=0)).trans (congrFun (yt (R:=r) (ns:=ns)) 0).symm)
theorem zCn:jh (Mine.KP.heap_1 w.params) mg mb 479 5 standsS:=λxs s K h W A r G R ok hx =>
 jE h λx e0 h=>jE h λa e1 h=>zAP h λns v rest tk hn ha h=>yY h λhv hk=>by
  induction hv with
  | mk side xa xb L0 L1 c0 c1 C0 C1 e k0 k1 =>
  subst e;have hr:(ns.map (jL r)).length=22:=by rw [List.length_map];exact hn
  have c:=zB9 (w:=w) (mg:=mg) (mb:=mb) side L0 L1 c0 c1 k0 k1 (ns.map (jL r)) hr;have pp:=tk.p r;rw [zCm,zAR] at pp;rw [yI e0,jg e1,<- ha];rw [zIs] at c;refine Cl.post (Cl.use c G R (Nat.le_refl _) (pp.trans (.of_eq (List.append_assoc _ _ _))) ?_);rintro _ _ ⟨rfl,rfl⟩;exact Yg (v:=.bool true) ok trivial ((tk.p r).trans (.of_eq (by rw [zCm,zAR,List.append_assoc]))) hk
noncomputable def jv (r:List Addr) (Q:V->jA->Prop) (x:V) (ns:List Addr) (v:Wv) (o:jA) (n:Nat):Prop:=∀ t,(r++t).length=n->Q (x.ren (r++t)) (wF (jJ (ns.map (jL (r++t)))) (v.cm (V.ren (r++t)))++jC (r++t) o)
noncomputable def zMg (r:List Addr) (Q:V->jA->Prop) (wd:Addr) (names:List Addr) (x:V) (s:SS):Tree:=jS x.bool? λb=>.br b (zGs wd s λns v rest=>jS (YE names rest) λo=>.prop (jv r Q (.bool true) ns v o s.n)) .fail
inductive ZX (E:Est) (r:List Addr) (Q:V->jA->Prop) (g:Addr) (xs:List V) (ns:List Addr) (v:Wv) (o:jA) (n:Nat):Prop
 | mk (k:Nat) (hk:k<=E.k) (c:∀ t,(r++t).length=n->Ct E.K E.mg E.mb k (.ref g) (xs.map (V.ren (r++t))) (wF (jJ (ns.map (jL (r++t)))) (v.cm (V.ren (r++t)))++jC (r++t) o) Q)
noncomputable def zK5 (E:Est) (r:List Addr) (Q:V->jA->Prop) (wd:Addr) (names:List Addr) (g:Addr) (xs:List V) (s:SS):Tree:=zGs wd s λns v rest=>jS (YE names rest) λo=>.prop (ZX E r Q g xs ns v o s.n)
theorem zAS {R:List Addr}{ns names:List Addr}{v:Wv}{s:SS}{rest o0:jA}(tk:Took s.o (wF (jJ ns) v) rest) (e:YE names rest=some o0):∃ l,(jC R s.o).Perm ((wF (jJ (ns.map (jL R))) (v.cm (V.ren R))++jC R o0)++l):=by obtain ⟨l,p⟩:=JN (r:=R) e;refine ⟨l,?_⟩;rw [List.append_assoc,<- zCm];exact (tk.p _).trans (p.append_left _)
section
variable {E:Est} {r:List Addr} {Q:V->jA->Prop}
theorem zDi (wd:Addr) (names:List Addr):KEok r Q (zMg r Q wd names):=λt x s ok h=>jE h λb eb h=>by obtain ⟨hb1,hw⟩:=zF3 h;subst hb1;refine zAP hw λns v rest tk hn ha h=>jE h λo0 e h=>?_;obtain ⟨l,p⟩:=zAS tk e;rw [zDg eb];exact ⟨_,l,p,h t ok.len⟩
theorem zGt (wd:Addr) (names:List Addr):zIb E r Q (zK5 E r Q wd names):=λt g xs s ok h=>zAP h λns v rest tk hn ha h=>jE h λo0 e h=>by
 obtain ⟨l,p⟩:=zAS tk e;induction h with
 | mk k hk c=>exact ⟨_,l,k,p,hk,c t ok.len⟩
theorem JP {f:Addr}{c:Code}{xs xs':List V}{o:jA}{n0 n:Nat}(wd:Addr) (names:List Addr) (hc:EnterOk E.K E.mg E.mb f c) (ok:SS.ok r ⟨o,[],n0⟩) (hx:∀ x ∈ xs,x.wf n0) (hb:c.bind xs=some xs')
  {T:Tree} (e:inS (go n E.dn) E.op c xs' ⟨o,[],n0⟩ (zMg r Q wd names)=T) (h:T.holds):Ct E.K E.mg E.mb (E.dn.k + 1) (.ref f) (xs.map (V.ren r)) (jC r o) Q:=zAD (zDi wd names) hc ok hx hb e h
theorem yD {f:Addr}{c:Code}{xs xs':List V}{o:jA}{n0 n:Nat}(wd:Addr) (names:List Addr) (hc:EnterOk E.K E.mg E.mb f c) (ok:SS.ok r ⟨o,[],n0⟩) (hx:∀ x ∈ xs,x.wf n0) (hb:c.bind xs=some xs')
  {T:Tree} (e:inT (go n E.dn) E.dn (zK5 E.dn r Q wd names) (zMg r Q wd names) 60 c xs' ⟨o,[],n0⟩=T) (h:T.holds):Ct E.K E.mg E.mb (E.dn.k + 1) (.ref f) (xs.map (V.ren r)) (jC r o) Q:=zIc (zDi wd names) (zGt wd names) hc ok hx hb e h
end
noncomputable def SPw:List (Addr×(Nat×Spec)):=[(415,(1,takeS)),(479,(5,standsS)),(352,(2,enterS)),(472,(5,putSS)),(366,(1,leaveMS)),(373,(1,leaveSS)),(338,(1,pendS)),(244,(1,stoldS)),(331,(1,lineS))]
theorem zAT:∀ p ∈ SPw,jh (Mine.KP.heap_1 w.params) mg mb p.1 p.2.1 p.2.2 :=
 zI zGp (zI zCn (zI zEa (zI zGj (zI zCi (zI zCh (zI zGl (zI Q7 (zI zGm zGf))))))))
noncomputable def EW (w:World) (mg mb:Str->Option Value) (k:Nat) (op:List Addr) (pp:List (Addr×(List V×V))):Est:=EX w mg mb k op pp SPw zAT
end
section
variable {w:World} {mg mb:Str->Option Value}
noncomputable def wL (side xa xb:Int) (L0 L1:Lv) (c0 c1:Cm) (M0 M1:List V):jA:=wF nm ((zb side xa xb L0 L1 c0 c1 M0 M1).cm jZ)
section
variable {r R ns:List Addr} {side xa xb:Int} {L0 L1:Lv} {c0 c1:Cm} {M0 M1 C0 C1:List V} {X:Bx} {c:Int}
noncomputable def wK (side xa xb:Int) (L0 L1:Lv) (c0 c1:Cm) (C0 C1:List V):jA:=wF nm (zb side xa xb L0 L1 c0 c1 C0 C1)
theorem zK6 {n:Nat}(hn:22<=n) (h0:∀ x ∈ C0,x.wf n) (h1:∀ x ∈ C1,x.wf n):owf n (wK side xa xb L0 L1 c0 c1 C0 C1):=λp hp=>by
 have e:wK side xa xb L0 L1 c0 c1 C0 C1=(wK side xa xb L0 L1 c0 c1 [] []).take 20++[(nm 3,.list C0),(nm 4,.list C1)]:=rfl;rw [e] at hp;rcases List.mem_append.mp hp with hp | hp
 ·have:=YN (by kernel_rfl:zI9 22 ((wK side xa xb L0 L1 c0 c1 [] []).take 20)=true) p hp;exact ⟨this.1.mono hn,this.2.mono hn⟩
 ·rcases List.mem_cons.mp hp with rfl | hp
  ·exact ⟨(wfB_h rfl:wfA 22 (nm 3)).mono hn,h0⟩
  ·obtain rfl:=List.mem_singleton.mp hp;exact ⟨(wfB_h rfl:wfA 22 (nm 4)).mono hn,h1⟩
theorem zBb {n:Nat}{M:List V}:∀ x ∈ M.map jZ,x.wf n:=λx hx=>by obtain ⟨y,_,rfl⟩:=List.mem_map.mp hx;exact zM1
theorem Q9 {n:Nat}(hn:22<=n):owf n (wL side xa xb L0 L1 c0 c1 M0 M1):=zK6 hn zBb zBb
theorem zGu:jC r (wK side xa xb L0 L1 c0 c1 C0 C1)=wF (jJ r) (zb side xa xb L0 L1 c0 c1 (C0.map (V.ren r)) (C1.map (V.ren r))):=by unfold wK;rw [zAQ,V8];rfl
theorem zDj (hr:r.length=22):SS.ok r ⟨wL side xa xb L0 L1 c0 c1 M0 M1,[],22⟩:=⟨hr,Q9 (Nat.le_refl _),λ_ h=>absurd h List.not_mem_nil⟩
theorem yg:jC r (wL side xa xb L0 L1 c0 c1 M0 M1)=wF (jJ r) (zb side xa xb L0 L1 c0 c1 M0 M1):=zOy
theorem zAU {a:Addr}:(M0.map jZ++[V.ref a]).map (V.ren R)=M0++[.ref (jL R a)]:=by rw [List.map_append,jl];rfl
inductive za (k:Nat) (side:Int) (N:jA) (wd:Addr) (y:V) (o:jA):Prop
 | mk (r:List Addr) (xa xb:Int) (L0 L1:Lv) (c0 c1:Cm) (M0 M1:List V) (N':jA) (hr:r.length=22) (hd:jJ r 0=wd) (hW:WOk k side xa xb L0 L1 c0 c1 M0 M1 (N'++N)) (hy:y = .bool true)
  (ho:o=wF (jJ r) (zb side xa xb L0 L1 c0 c1 M0 M1)++N')
theorem ZD {k:Nat}{N o:jA}{wd:Addr}{v:Wv}(L0 L1:Lv) (c0 c1:Cm) (hv:v=zb side xa xb L0 L1 c0 c1 C0 C1) (h0:C0.map (V.ren R)=M0) (h1:C1.map (V.ren R)=M1) (hl:ns.length=22) (hd:jJ (ns.map (jL R)) 0=wd) (hW:WOk k side xa xb L0 L1 c0 c1 M0 M1 (jC R o++N)) :
  za k side N wd (.bool true) (wF (jJ (ns.map (jL R))) (v.cm (V.ren R))++jC R o):=by
 subst h0 h1 hv;exact .mk (ns.map (jL R)) xa xb L0 L1 c0 c1 _ _ _ (by rw [List.length_map];exact hl) hd hW rfl rfl
theorem jn {t:List Addr}{k n:Nat}(hr:r.length=n) (hk:k < n):jL (r++t) (nm k)=jJ r k:=by rw [z9];unfold jJ;rw [List.getD_eq_getElem?_getD,List.getD_eq_getElem?_getD,List.getElem?_append_left (hr▸hk)]
end
section
variable {cause:Int}
theorem zGv {v:Int}(q:decide (2147483648<=cause)=true):(v / 4 * 4 + 4 * (cause % 2147483648) * (if (v % 2==1)=true then 1 else 0)) % 4294967296=Jc v cause:=by unfold Jc;rw [show decide (cause >= 2147483648)=true from q];rfl
theorem zGw {v:Int}(q:decide (2147483648<=cause)=false):(v / 4 * 4 + 4 * (cause % 2147483648) * 0) % 4294967296=Jc v cause:=by unfold Jc;rw [show decide (cause >= 2147483648)=false from q];rfl
theorem yu:(4 * (cause % 2147483648)).natAbs < 2 ^ 64:=by omega
end
theorem zAV {d:PyData}(h:d.canLay0=true):PyData.eqv d d=true:=PySem.SeqAt.eqv_refl d h
noncomputable def trL (L:Lv) (cause value place x y:Int):Lv:={ zBZ L cause value place with x:=x,y:=y }
section
variable {S M:Lv} {sx mx:Int} {c:Cm} {cause value place mode:Int}
theorem V9 (h:Z4 S sx M mx c) (hc:Ye cause) (hm:mode ∈ b2) (hh:zR (jM S sx M mx c) cause=true) (h0:0<=S.v0) (h1:S.v0 < 4294967296):jQ (jM S sx M mx c) cause value place mode=(1,Jc S.v0 cause,jM (zBZ S cause value place) mode M mx c):=by
 have hm3:(mode==3)=false:=by simp only [b2,List.mem_cons,List.not_mem_nil,or_false] at hm;rcases hm with rfl | rfl<;>rfl
 unfold jQ;rw [hm3,hh,if_pos (show (!false&&true)=true from rfl),<- VY hc h0 h1];have:=zEK h.sl h.sa h.sx h.ml h.ma h.mx h.r hm;unfold jM zBZ;dsimp only;rw [this,Jt]
theorem Va (h:Z4 S sx M mx c) (hc:Ye cause) (hm:mode ∈ b3) (hh:(!(mode==3)&&zR (jM S sx M mx c) cause)=false) (h0:0<=M.v0) (h1:M.v0 < 4294967296):jQ (jM S sx M mx c) cause value place mode=(3,Jc M.v0 cause,jM S sx (zBZ M cause value place) mode c):=by unfold jQ;rw [hh,if_neg (by decide),<- VY hc h0 h1];have:=zEL h.sl h.sa h.sx h.ml h.ma h.mx h.r hm;unfold jM zBZ;dsimp only;rw [this,Jt]
end
theorem Zh {xa xb:Int}{lv:Int}{P:Prop}(hb:(xa=0/\xb=0)\/(xa=1/\xb=1)\/(xa=YF lv/\xb=YG lv/\P)):(xa=0/\xb=0)\/(xa=1/\xb=1)\/(xa=YF lv/\xb=YG lv):=by
 rcases hb with a | a | a
 ·exact .inl a
 ·exact .inr (.inl a)
 ·exact .inr (.inr ⟨a.1,a.2.1⟩)
theorem zEb {k:Nat}{side xa xb:Int}{L0 L1:Lv}{c0 c1:Cm}{N0 N1:List V}{N:jA}{cause value place:Int}{t m:Addr}(h:WOk k side xa xb L0 L1 c0 c1 N0 N1 N) (hb:(xa=0/\xb=0)\/(xa=1/\xb=1)\/(xa=YF 0/\xb=YG 0/\N0≠[]))
  (hc:jR c0 0≠[]) (p0:0<=place/\place % 4=0) (p1:place < 4294967296):WOk (k + 1) side (YF 0) (YG 0) (trL L0 cause value place xa xb) L1 c0 c1 (N0++[.ref t]) N1 ((t,.tup [.ref m,.int place,.int L0.l])::(m,.tup [.int xa,.int xb])::N) :=
 ⟨⟨h.o0.v0,h.o0.v1,by show (0:Int) ∈ b2;decide,h.o0.l,Zh hb⟩,h.o1,h.r0,h.r1,h.mir,h.lok,.inr (.inr (.inl ⟨rfl,rfl,by simp,hc⟩)),
  .snoc h.e0.tail.tail .head (.tail .head) h.o0.l p0 p1 hb,(h.e1.tail.tail).up (by omega)⟩
theorem zEc {k:Nat}{side xa xb:Int}{L0 L1:Lv}{c0 c1:Cm}{N0 N1:List V}{N:jA}{cause value place:Int}{t m:Addr}(h:WOk k side xa xb L0 L1 c0 c1 N0 N1 N) (hb:(xa=0/\xb=0)\/(xa=1/\xb=1)\/(xa=YF 1/\xb=YG 1/\N1≠[]))
  (hc:jR c0 1≠[]) (p0:0<=place/\place % 4=0) (p1:place < 4294967296):WOk (k + 1) side (YF 1) (YG 1) L0 (trL L1 cause value place xa xb) c0 c1 N0 (N1++[.ref t]) ((t,.tup [.ref m,.int place,.int L1.l])::(m,.tup [.int xa,.int xb])::N) :=
 ⟨h.o0,⟨h.o1.v0,h.o1.v1,by show (0:Int) ∈ b2;decide,h.o1.l,Zh hb⟩,h.r0,h.r1,h.mir,h.lok,.inr (.inr (.inr ⟨rfl,rfl,by simp,hc⟩)),
  (h.e0.tail.tail).up (by omega),.snoc h.e1.tail.tail .head (.tail .head) h.o1.l p0 p1 hb⟩
theorem zBc {xa xb:Int}{P:Prop}(hb:(xa=0/\xb=0)\/(xa=1/\xb=1)\/(xa=YF 0/\xb=YG 0/\P)):xa ∈ b2/\xb ∈ b3:=by rcases hb with ⟨a,b⟩ | ⟨a,b⟩ | ⟨a,b,_⟩<;>rw [a,b]<;>decide
theorem zBd {xa xb:Int}{P:Prop}(hb:(xa=0/\xb=0)\/(xa=1/\xb=1)\/(xa=YF 1/\xb=YG 1/\P)):xa ∈ b3/\xb ∈ b2:=by rcases hb with ⟨a,b⟩ | ⟨a,b⟩ | ⟨a,b,_⟩<;>rw [a,b]<;>decide
theorem zn:(0:Int) ∈ b2:=by decide
theorem JQ:(1:Int) ∈ b2:=by decide
theorem QB:(0:Int) ∈ b3:=by decide
theorem zIt {k:Nat}{side xa xb:Int}{L0 L1:Lv}{c0 c1:Cm}{M0 M1:List V}{N:jA}{cause value place:Int}(hW:WOk k side xa xb L0 L1 c0 c1 M0 M1 N) (hb:(xa=0/\xb=0)\/(xa=1/\xb=1)\/(xa=YF 0/\xb=YG 0/\M0≠[])) (hk:k<=800) (hm:cause ∈ jR c0 0) (p0:0<=place/\place % 4=0) (p1:place < 4294967296) (r:List Addr) (hr:r.length=22):Ct (Mine.KP.heap_1 w.params) mg mb 6 (.ref 513) [.ref (jJ r 0),.int 0,.int cause,.int value,.int place] (wF (jJ r) (zb side xa xb L0 L1 c0 c1 M0 M1)) (za (k + 1) side N (jJ r 0)):=by
 rw [<- yg];refine JP (E:=EW w mg mb 6 [100006,100008] []) (r:=r) (f:=513) (Q:=za (k + 1) side N (jJ r 0)) 100000 [100086,100002] (xs:=[.ref 100000,.int 0,.int cause,.int value,.int place]) (o:=(wL side xa xb L0 L1 c0 c1 M0 M1)) (n0:=22) (n:=60) (zD8 w mg mb).2 (zDj hr) (zP rfl) rfl (T:=.side (IntMulOk (L0.v0 / 4) 4) (.side (IntMulOk 4 (cause % 2147483648)) (.br (Decidable.decide (2147483648<=cause)) (.side (IntMulOk (4 * (cause % 2147483648)) (if (L0.v0 % 2==1)=Bool.true then 1 else 0)) (.side (0<=la cause 31/\la cause 31<=31/\xa.natAbs < 18446744073709551616) (.side (0<=la cause 31/\la cause 31<=31/\xb.natAbs < 18446744073709551616) (.side ((M0.map jZ).length<=900) (.br ((PyData.list [PyData.tuple [PyData.int (jQ (jM L0 L0.x L1 L1.x c0) cause value place xa).fst,PyData.int (jQ (jM L0 L0.x L1 L1.x c0) cause value place xa).snd.fst],PyData.tuple [PyData.int (jQ (jM L1 L1.y L0 L0.y c1) cause value place xb).fst,PyData.int (jQ (jM L1 L1.y L0 L0.y c1) cause value place xb).snd.fst]]).eqv (PyData.list [PyData.tuple [PyData.int 1,PyData.int ((L0.v0 / 4 * 4 + 4 * (cause % 2147483648) * if (L0.v0 % 2==1)=Bool.true then 1 else 0) % 4294967296)],PyData.tuple [PyData.int 3,PyData.int ((L0.v0 / 4 * 4 + 4 * (cause % 2147483648) * if (L0.v0 % 2==1)=Bool.true then 1 else 0) % 4294967296)]])) (.side (zy ⟨side,1,3,[L0.v0,L0.v1,L0.v2,place,cause,value % 4294967296,0,L0.l,xa],[L0.v0,L0.v1,L0.v2,place,cause,value % 4294967296,0,L0.l,xb],(L1.ints L1.x),(L1.ints L1.y),c0.ints,c1.ints,(jQ (jM L0 L0.x L1 L1.x c0) cause value place xa).snd.snd,(jQ (jM L1 L1.y L0 L0.y c1) cause value place xb).snd.snd,(M0.map jZ)++[.ref 100086],(M1.map jZ)⟩) (.prop (jv r (za (k + 1) side N (jJ r 0)) (.bool Bool.true) [100000,100078,100004,100006,100008,100010,100104,100014,100098,100102,100020,100022,100024,100026,100028,100030,100032,100034,100036,100038,100040,100042] ⟨side,1,3,[L0.v0,L0.v1,L0.v2,place,cause,value % 4294967296,0,L0.l,xa],[L0.v0,L0.v1,L0.v2,place,cause,value % 4294967296,0,L0.l,xb],(L1.ints L1.x),(L1.ints L1.y),c0.ints,c1.ints,(jQ (jM L0 L0.x L1 L1.x c0) cause value place xa).snd.snd,(jQ (jM L1 L1.y L0 L0.y c1) cause value place xb).snd.snd,(M0.map jZ)++[.ref 100086],(M1.map jZ)⟩ [(100086,.tup [.ref 100002,.int place,.int L0.l]),(100002,.tup [.int xa,.int xb])] 59))) .fail))))) (.side (IntMulOk (4 * (cause % 2147483648)) 0) (.side (0<=la cause 31/\la cause 31<=31/\xa.natAbs < 18446744073709551616) (.side (0<=la cause 31/\la cause 31<=31/\xb.natAbs < 18446744073709551616) (.side ((M0.map jZ).length<=900) (.br ((PyData.list [PyData.tuple [PyData.int (jQ (jM L0 L0.x L1 L1.x c0) cause value place xa).fst,PyData.int (jQ (jM L0 L0.x L1 L1.x c0) cause value place xa).snd.fst],PyData.tuple [PyData.int (jQ (jM L1 L1.y L0 L0.y c1) cause value place xb).fst,PyData.int (jQ (jM L1 L1.y L0 L0.y c1) cause value place xb).snd.fst]]).eqv (PyData.list [PyData.tuple [PyData.int 1,PyData.int ((L0.v0 / 4 * 4 + 4 * (cause % 2147483648) * 0) % 4294967296)],PyData.tuple [PyData.int 3,PyData.int ((L0.v0 / 4 * 4 + 4 * (cause % 2147483648) * 0) % 4294967296)]])) (.side (zy ⟨side,1,3,[L0.v0,L0.v1,L0.v2,place,cause,value % 4294967296,0,L0.l,xa],[L0.v0,L0.v1,L0.v2,place,cause,value % 4294967296,0,L0.l,xb],(L1.ints L1.x),(L1.ints L1.y),c0.ints,c1.ints,(jQ (jM L0 L0.x L1 L1.x c0) cause value place xa).snd.snd,(jQ (jM L1 L1.y L0 L0.y c1) cause value place xb).snd.snd,(M0.map jZ)++[.ref 100086],(M1.map jZ)⟩) (.prop (jv r (za (k + 1) side N (jJ r 0)) (.bool Bool.true) [100000,100078,100004,100006,100008,100010,100104,100014,100098,100102,100020,100022,100024,100026,100028,100030,100032,100034,100036,100038,100040,100042] ⟨side,1,3,[L0.v0,L0.v1,L0.v2,place,cause,value % 4294967296,0,L0.l,xa],[L0.v0,L0.v1,L0.v2,place,cause,value % 4294967296,0,L0.l,xb],(L1.ints L1.x),(L1.ints L1.y),c0.ints,c1.ints,(jQ (jM L0 L0.x L1 L1.x c0) cause value place xa).snd.snd,(jQ (jM L1 L1.y L0 L0.y c1) cause value place xb).snd.snd,(M0.map jZ)++[.ref 100086],(M1.map jZ)⟩ [(100086,.tup [.ref 100002,.int place,.int L0.l]),(100002,.tup [.int xa,.int xb])] 59))) .fail)))))))) ?e ?h;case e=>kernel_rfl
 case h =>
  obtain ⟨iC,h0c,h1c⟩:=VZ hW.mir (lv:=0) (by decide) hm;have k0:=JT hW.o0 hW.o1 hW.r0;have k1:=JU hW.o0 hW.o1 hW.r1;obtain ⟨hxa,hxb⟩:=zBc hb;have hM:(!(xb==3)&&zR (jM L1 L1.y L0 L0.y c1) cause)=false:=by rw [show zR (jM L1 L1.y L0 L0.y c1) cause=false from h1c,Bool.and_false]
  have cf:=Jd iC;have k0':Z4 (trL L0 cause value place xa xb) xa L1 L1.x c0:=⟨zn,hW.o0.l,hxa,k0.ml,k0.ma,k0.mx,hW.r0⟩;have k1':Z4 L1 L1.y (trL L0 cause value place xa xb) xb c1:=⟨k1.sl,k1.sa,k1.sx,zn,hW.o0.l,hxb,hW.r1⟩;have hN:(M0.map jZ).length<=900:=by rw [List.length_map];exact Nat.le_trans hW.e0.len (Nat.le_trans hk (by decide))
  rw [V9 k0 iC hxa h0c hW.o0.v0 hW.o0.v1,Va k1 iC hxb hM hW.o0.v0 hW.o0.v1];have lf:=λt (_:(r++t).length=59)=>ZD (k:=k + 1) (N:=N) (R:=r++t) (ns:=[100000,100078,100004,100006,100008,100010,100104,100014,100098,100102,100020,100022,100024,100026,100028,100030,100032,100034,100036,100038,100040,100042]) (o:=[(100086,.tup [.ref 100002,.int place,.int L0.l]),(100002,.tup [.int xa,.int xb])]) (side:=side) (xa:=1) (xb:=3) (C0:=M0.map jZ++[.ref 100086]) (C1:=M1.map jZ) (wd:=jJ r 0) (trL L0 cause value place xa xb) L1 c0 c1 rfl zAU jl rfl (jn (k:=0) hr (by decide)) (zEb hW hb (List.ne_nil_of_mem hm) p0 p1);exact ⟨J0 (by decide),Zu (by decide),jY (λq=>⟨Zu yu,⟨cf.2.2.1,cf.2.2.2,jN hxa⟩,⟨cf.2.2.1,cf.2.2.2,zS hxb⟩,hN,jy (by rw [zGv q];exact zAV rfl) ⟨⟨side,_,_,(trL L0 cause value place xa xb),L1,c0,c1,_,_,rfl,k0',k1'⟩,lf⟩⟩) (λq=>⟨Zu yu,⟨cf.2.2.1,cf.2.2.2,jN hxa⟩,⟨cf.2.2.1,cf.2.2.2,zS hxb⟩,hN,jy (by rw [zGw q];exact zAV rfl) ⟨⟨side,_,_,(trL L0 cause value place xa xb),L1,c0,c1,_,_,rfl,k0',k1'⟩,lf⟩⟩)⟩
theorem zIu {k:Nat}{side xa xb:Int}{L0 L1:Lv}{c0 c1:Cm}{M0 M1:List V}{N:jA}{cause value place:Int}(hW:WOk k side xa xb L0 L1 c0 c1 M0 M1 N) (hb:(xa=0/\xb=0)\/(xa=1/\xb=1)\/(xa=YF 1/\xb=YG 1/\M1≠[])) (hk:k<=800) (hm:cause ∈ jR c0 1) (p0:0<=place/\place % 4=0) (p1:place < 4294967296) (r:List Addr) (hr:r.length=22):Ct (Mine.KP.heap_1 w.params) mg mb 6 (.ref 513) [.ref (jJ r 0),.int 1,.int cause,.int value,.int place] (wF (jJ r) (zb side xa xb L0 L1 c0 c1 M0 M1)) (za (k + 1) side N (jJ r 0)):=by
 rw [<- yg];refine JP (E:=EW w mg mb 6 [100006,100008] []) (r:=r) (f:=513) (Q:=za (k + 1) side N (jJ r 0)) 100000 [100086,100002] (xs:=[.ref 100000,.int 1,.int cause,.int value,.int place]) (o:=(wL side xa xb L0 L1 c0 c1 M0 M1)) (n0:=22) (n:=60) (zD8 w mg mb).2 (zDj hr) (zP rfl) rfl (T:=.side (IntMulOk (L1.v0 / 4) 4) (.side (IntMulOk 4 (cause % 2147483648)) (.br (Decidable.decide (2147483648<=cause)) (.side (IntMulOk (4 * (cause % 2147483648)) (if (L1.v0 % 2==1)=Bool.true then 1 else 0)) (.side (0<=la cause 31/\la cause 31<=31/\xa.natAbs < 18446744073709551616) (.side (0<=la cause 31/\la cause 31<=31/\xb.natAbs < 18446744073709551616) (.side ((M1.map jZ).length<=900) (.br ((PyData.list [PyData.tuple [PyData.int (jQ (jM L0 L0.x L1 L1.x c0) cause value place xa).fst,PyData.int (jQ (jM L0 L0.x L1 L1.x c0) cause value place xa).snd.fst],PyData.tuple [PyData.int (jQ (jM L1 L1.y L0 L0.y c1) cause value place xb).fst,PyData.int (jQ (jM L1 L1.y L0 L0.y c1) cause value place xb).snd.fst]]).eqv (PyData.list [PyData.tuple [PyData.int 3,PyData.int ((L1.v0 / 4 * 4 + 4 * (cause % 2147483648) * if (L1.v0 % 2==1)=Bool.true then 1 else 0) % 4294967296)],PyData.tuple [PyData.int 1,PyData.int ((L1.v0 / 4 * 4 + 4 * (cause % 2147483648) * if (L1.v0 % 2==1)=Bool.true then 1 else 0) % 4294967296)]])) (.side (zy ⟨side,3,1,(L0.ints L0.x),(L0.ints L0.y),[L1.v0,L1.v1,L1.v2,place,cause,value % 4294967296,0,L1.l,xa],[L1.v0,L1.v1,L1.v2,place,cause,value % 4294967296,0,L1.l,xb],c0.ints,c1.ints,(jQ (jM L0 L0.x L1 L1.x c0) cause value place xa).snd.snd,(jQ (jM L1 L1.y L0 L0.y c1) cause value place xb).snd.snd,(M0.map jZ),(M1.map jZ)++[.ref 100086]⟩) (.prop (jv r (za (k + 1) side N (jJ r 0)) (.bool Bool.true) [100000,100080,100004,100006,100008,100010,100012,100104,100016,100018,100098,100102,100024,100026,100028,100030,100032,100034,100036,100038,100040,100042] ⟨side,3,1,(L0.ints L0.x),(L0.ints L0.y),[L1.v0,L1.v1,L1.v2,place,cause,value % 4294967296,0,L1.l,xa],[L1.v0,L1.v1,L1.v2,place,cause,value % 4294967296,0,L1.l,xb],c0.ints,c1.ints,(jQ (jM L0 L0.x L1 L1.x c0) cause value place xa).snd.snd,(jQ (jM L1 L1.y L0 L0.y c1) cause value place xb).snd.snd,(M0.map jZ),(M1.map jZ)++[.ref 100086]⟩ [(100086,.tup [.ref 100002,.int place,.int L1.l]),(100002,.tup [.int xa,.int xb])] 59))) .fail))))) (.side (IntMulOk (4 * (cause % 2147483648)) 0) (.side (0<=la cause 31/\la cause 31<=31/\xa.natAbs < 18446744073709551616) (.side (0<=la cause 31/\la cause 31<=31/\xb.natAbs < 18446744073709551616) (.side ((M1.map jZ).length<=900) (.br ((PyData.list [PyData.tuple [PyData.int (jQ (jM L0 L0.x L1 L1.x c0) cause value place xa).fst,PyData.int (jQ (jM L0 L0.x L1 L1.x c0) cause value place xa).snd.fst],PyData.tuple [PyData.int (jQ (jM L1 L1.y L0 L0.y c1) cause value place xb).fst,PyData.int (jQ (jM L1 L1.y L0 L0.y c1) cause value place xb).snd.fst]]).eqv (PyData.list [PyData.tuple [PyData.int 3,PyData.int ((L1.v0 / 4 * 4 + 4 * (cause % 2147483648) * 0) % 4294967296)],PyData.tuple [PyData.int 1,PyData.int ((L1.v0 / 4 * 4 + 4 * (cause % 2147483648) * 0) % 4294967296)]])) (.side (zy ⟨side,3,1,(L0.ints L0.x),(L0.ints L0.y),[L1.v0,L1.v1,L1.v2,place,cause,value % 4294967296,0,L1.l,xa],[L1.v0,L1.v1,L1.v2,place,cause,value % 4294967296,0,L1.l,xb],c0.ints,c1.ints,(jQ (jM L0 L0.x L1 L1.x c0) cause value place xa).snd.snd,(jQ (jM L1 L1.y L0 L0.y c1) cause value place xb).snd.snd,(M0.map jZ),(M1.map jZ)++[.ref 100086]⟩) (.prop (jv r (za (k + 1) side N (jJ r 0)) (.bool Bool.true) [100000,100080,100004,100006,100008,100010,100012,100104,100016,100018,100098,100102,100024,100026,100028,100030,100032,100034,100036,100038,100040,100042] ⟨side,3,1,(L0.ints L0.x),(L0.ints L0.y),[L1.v0,L1.v1,L1.v2,place,cause,value % 4294967296,0,L1.l,xa],[L1.v0,L1.v1,L1.v2,place,cause,value % 4294967296,0,L1.l,xb],c0.ints,c1.ints,(jQ (jM L0 L0.x L1 L1.x c0) cause value place xa).snd.snd,(jQ (jM L1 L1.y L0 L0.y c1) cause value place xb).snd.snd,(M0.map jZ),(M1.map jZ)++[.ref 100086]⟩ [(100086,.tup [.ref 100002,.int place,.int L1.l]),(100002,.tup [.int xa,.int xb])] 59))) .fail)))))))) ?e ?h;case e=>kernel_rfl
 case h =>
  obtain ⟨iC,h0c,h1c⟩:=VZ hW.mir (lv:=1) (by decide) hm;have k0:=JT hW.o0 hW.o1 hW.r0;have k1:=JU hW.o0 hW.o1 hW.r1;obtain ⟨hxa,hxb⟩:=zBd hb;have hM:(!(xa==3)&&zR (jM L0 L0.x L1 L1.x c0) cause)=false:=by rw [show zR (jM L0 L0.x L1 L1.x c0) cause=false from h0c,Bool.and_false]
  have cf:=Jd iC;have k0':Z4 L0 L0.x (trL L1 cause value place xa xb) xa c0:=⟨k0.sl,k0.sa,k0.sx,zn,hW.o1.l,hxa,hW.r0⟩;have k1':Z4 (trL L1 cause value place xa xb) xb L0 L0.y c1:=⟨zn,hW.o1.l,hxb,k1.ml,k1.ma,k1.mx,hW.r1⟩;have hN:(M1.map jZ).length<=900:=by rw [List.length_map];exact Nat.le_trans hW.e1.len (Nat.le_trans hk (by decide))
  rw [Va k0 iC hxa hM hW.o1.v0 hW.o1.v1,V9 k1 iC hxb h1c hW.o1.v0 hW.o1.v1];have lf:=λt (_:(r++t).length=59)=>ZD (k:=k + 1) (N:=N) (R:=r++t) (ns:=[100000,100080,100004,100006,100008,100010,100012,100104,100016,100018,100098,100102,100024,100026,100028,100030,100032,100034,100036,100038,100040,100042]) (o:=[(100086,.tup [.ref 100002,.int place,.int L1.l]),(100002,.tup [.int xa,.int xb])]) (side:=side) (xa:=3) (xb:=1) (C0:=M0.map jZ) (C1:=M1.map jZ++[.ref 100086]) (wd:=jJ r 0) L0 (trL L1 cause value place xa xb) c0 c1 rfl jl zAU rfl (jn (k:=0) hr (by decide)) (zEc hW hb (List.ne_nil_of_mem hm) p0 p1);exact ⟨J0 (by decide),Zu (by decide),jY (λq=>⟨Zu yu,⟨cf.2.2.1,cf.2.2.2,zS hxa⟩,⟨cf.2.2.1,cf.2.2.2,jN hxb⟩,hN,jy (by rw [zGv q];exact zAV rfl) ⟨⟨side,_,_,L0,(trL L1 cause value place xa xb),c0,c1,_,_,rfl,k0',k1'⟩,lf⟩⟩) (λq=>⟨Zu yu,⟨cf.2.2.1,cf.2.2.2,zS hxa⟩,⟨cf.2.2.1,cf.2.2.2,jN hxb⟩,hN,jy (by rw [zGw q];exact zAV rfl) ⟨⟨side,_,_,L0,(trL L1 cause value place xa xb),c0,c1,_,_,rfl,k0',k1'⟩,lf⟩⟩)⟩
end
section
variable {w:World} {mg mb:Str->Option Value}
section
variable {S M:Lv} {sx mx:Int} {c:Cm}
noncomputable def lfL (L:Lv):Lv:={ L with l:=L.a,a:=1,x:=0,y:=0 }
noncomputable def hfC (c:Cm):Cm:={ c with r:=c.r / 2 * 2 }
theorem Vb (h:Z4 S sx M mx c):zE (jM S sx M mx c)=(sx,jM (lfL S) 0 M mx (hfC c)):=by obtain ⟨e1,e2⟩:=zEN h.sl h.sa h.sx h.ml h.ma h.mx h.r;unfold zE jM lfL hfC;dsimp only;rw [e1,e2]
theorem Vc (h:Z4 S sx M mx c):zD (jM S sx M mx c)=(mx,jM S sx (lfL M) 0 (if (mx != 3)=true then hfC c else c)):=by obtain ⟨e1,e2⟩:=zEM h.sl h.sa h.sx h.ml h.ma h.mx h.r;unfold lvM at e2;unfold zD jM lfL hfC;dsimp only at e2 ⊢;rw [e2,e1];cases mx != 3<;>rfl
end
section
variable {k:Nat} {side:Int} {L0 L1:Lv} {c0 c1:Cm} {M0 M1:List V} {N:jA} {a b:Int}
theorem Qa (h:WOk k side 0 0 L0 L1 c0 c1 M0 M1 N) (hx:(L0.x=0/\L0.y=0)\/(L0.x=1/\L0.y=1)\/(L0.x=YF 0/\L0.y=YG 0/\M0≠[]/\jR c0 0≠[])) (h0:a ∈ b8) (h1:b ∈ b8):WOk k side L0.x L0.y (lfL L0) L1 { c0 with r:=a } { c1 with r:=b } M0 M1 N :=
 ⟨⟨h.o0.v0,h.o0.v1,h.o0.a,JQ,.inl ⟨rfl,rfl⟩⟩,h.o1,h0,h1,⟨h.mir.de,h.mir.li⟩,⟨h.lok.en,h.lok.en1,h.lok.wa,h.lok.wa1,h.lok.li⟩,hx.imp_right λq=>q.imp_right .inl,h.e0,h.e1⟩
theorem Qb (h:WOk k side 0 0 L0 L1 c0 c1 M0 M1 N) (hx:(L1.x=0/\L1.y=0)\/(L1.x=1/\L1.y=1)\/(L1.x=YF 1/\L1.y=YG 1/\M1≠[]/\jR c0 1≠[])) (h0:a ∈ b8) (h1:b ∈ b8):WOk k side L1.x L1.y L0 (lfL L1) { c0 with r:=a } { c1 with r:=b } M0 M1 N :=
 ⟨h.o0,⟨h.o1.v0,h.o1.v1,h.o1.a,JQ,.inl ⟨rfl,rfl⟩⟩,h0,h1,⟨h.mir.de,h.mir.li⟩,⟨h.lok.en,h.lok.en1,h.lok.wa,h.lok.wa1,h.lok.li⟩,hx.imp_right λq=>q.imp_right .inr,h.e0,h.e1⟩
end
theorem zAW {k:Nat}{side xa xb:Int}{L0 L1:Lv}{c0 c1:Cm}{M0 M1:List V}{N:jA}(hW:WOk k side 0 0 L0 L1 c0 c1 M0 M1 N) (hx:(L0.x=0/\L0.y=0)\/(L0.x=1/\L0.y=1)\/(L0.x=YF 0/\L0.y=YG 0/\M0≠[]/\jR c0 0≠[])) (r:List Addr) (hr:r.length=22):Ct (Mine.KP.heap_1 w.params) mg mb 6 (.ref 544) [.ref (jJ r 0),.int 0] (wF (jJ r) (zb side xa xb L0 L1 c0 c1 M0 M1)) (za k side N (jJ r 0)):=by
 rw [<- yg];refine JP (E:=EW w mg mb 6 [100006,100008] []) (r:=r) (f:=544) (Q:=za k side N (jJ r 0)) 100000 [] (xs:=[.ref 100000,.int 0]) (o:=(wL side xa xb L0 L1 c0 c1 M0 M1)) (n0:=22) (n:=60) (zDb w mg mb).2 (zDj hr) (zP rfl) rfl (T:=.br (L0.y != 3) (.br ((PyData.list [PyData.tuple [PyData.int (zE (jM L0 L0.x L1 L1.x c0)).fst,PyData.int (jM L0 L0.x L1 L1.x c0).s3],PyData.tuple [PyData.int (zD (jM L1 L1.y L0 L0.y c1)).fst,PyData.int (jM L1 L1.y L0 L0.y c1).m3]]).eqv (PyData.list [PyData.tuple [PyData.int L0.x,PyData.int L0.v3],PyData.tuple [PyData.int L0.y,PyData.int L0.v3]])) (.side (zy ⟨side,L0.x,L0.y,[L0.v0,L0.v1,L0.v2,L0.v3,L0.v4,L0.v5,L0.a,1,0],[L0.v0,L0.v1,L0.v2,L0.v3,L0.v4,L0.v5,L0.a,1,0],(L1.ints L1.x),(L1.ints L1.y),[la (c0.r * 131072) 786432,c0.sa,c0.de,c0.li,c0.en,c0.wa],[la (c1.r * 131072) 786432,c1.sa,c1.de,c1.li,c1.en,c1.wa],(zE (jM L0 L0.x L1 L1.x c0)).snd,(zD (jM L1 L1.y L0 L0.y c1)).snd,(M0.map jZ),(M1.map jZ)⟩) (.prop (jv r (za k side N (jJ r 0)) (.bool Bool.true) [100000,100062,100004,100006,100008,100010,100082,100014,100076,100080,100020,100022,100024,100026,100028,100030,100032,100034,100036,100038,100040,100042] ⟨side,L0.x,L0.y,[L0.v0,L0.v1,L0.v2,L0.v3,L0.v4,L0.v5,L0.a,1,0],[L0.v0,L0.v1,L0.v2,L0.v3,L0.v4,L0.v5,L0.a,1,0],(L1.ints L1.x),(L1.ints L1.y),[la (c0.r * 131072) 786432,c0.sa,c0.de,c0.li,c0.en,c0.wa],[la (c1.r * 131072) 786432,c1.sa,c1.de,c1.li,c1.en,c1.wa],(zE (jM L0 L0.x L1 L1.x c0)).snd,(zD (jM L1 L1.y L0 L0.y c1)).snd,(M0.map jZ),(M1.map jZ)⟩ [] 48))) .fail) (.br ((PyData.list [PyData.tuple [PyData.int (zE (jM L0 L0.x L1 L1.x c0)).fst,PyData.int (jM L0 L0.x L1 L1.x c0).s3],PyData.tuple [PyData.int (zD (jM L1 L1.y L0 L0.y c1)).fst,PyData.int (jM L1 L1.y L0 L0.y c1).m3]]).eqv (PyData.list [PyData.tuple [PyData.int L0.x,PyData.int L0.v3],PyData.tuple [PyData.int L0.y,PyData.int L0.v3]])) (.side (zy ⟨side,L0.x,L0.y,[L0.v0,L0.v1,L0.v2,L0.v3,L0.v4,L0.v5,L0.a,1,0],[L0.v0,L0.v1,L0.v2,L0.v3,L0.v4,L0.v5,L0.a,1,0],(L1.ints L1.x),(L1.ints L1.y),[la (c0.r * 131072) 786432,c0.sa,c0.de,c0.li,c0.en,c0.wa],c1.ints,(zE (jM L0 L0.x L1 L1.x c0)).snd,(zD (jM L1 L1.y L0 L0.y c1)).snd,(M0.map jZ),(M1.map jZ)⟩) (.prop (jv r (za k side N (jJ r 0)) (.bool Bool.true) [100000,100062,100004,100006,100008,100010,100082,100014,100076,100080,100020,100022,100024,100026,100028,100030,100032,100034,100036,100038,100040,100042] ⟨side,L0.x,L0.y,[L0.v0,L0.v1,L0.v2,L0.v3,L0.v4,L0.v5,L0.a,1,0],[L0.v0,L0.v1,L0.v2,L0.v3,L0.v4,L0.v5,L0.a,1,0],(L1.ints L1.x),(L1.ints L1.y),[la (c0.r * 131072) 786432,c0.sa,c0.de,c0.li,c0.en,c0.wa],c1.ints,(zE (jM L0 L0.x L1 L1.x c0)).snd,(zD (jM L1 L1.y L0 L0.y c1)).snd,(M0.map jZ),(M1.map jZ)⟩ [] 48))) .fail)) ?e ?h;case e=>kernel_rfl
 case h =>
  have k0:=JT hW.o0 hW.o1 hW.r0;have k1:=JU hW.o0 hW.o1 hW.r1;obtain ⟨h0,z0⟩:=Za k0.r;obtain ⟨h1,z1⟩:=Za k1.r;rw [Vb k0,Vc k1,z0,z1];refine jY (λq=>?_) λq=>?_
  ·rw [yF q];exact jy (zAV rfl) ⟨⟨side,_,_,(lfL L0),L1,{ c0 with r:=(c0.r / 2 * 2) },{ c1 with r:=(c1.r / 2 * 2) },_,_,rfl,⟨k0.sa,JQ,zn,k0.ml,k0.ma,k0.mx,h0⟩,⟨k1.sl,k1.sa,k1.sx,k1.ma,JQ,QB,h1⟩⟩,λt _=>ZD (R:=r++t) (lfL L0) L1 { c0 with r:=(c0.r / 2 * 2) } { c1 with r:=(c1.r / 2 * 2) } rfl jl jl rfl (jn (k:=0) hr (by decide)) (Qa hW hx h0 h1)⟩
  ·rw [zu q];exact jy (zAV rfl) ⟨⟨side,_,_,(lfL L0),L1,{ c0 with r:=(c0.r / 2 * 2) },{ c1 with r:=c1.r },_,_,rfl,⟨k0.sa,JQ,zn,k0.ml,k0.ma,k0.mx,h0⟩,⟨k1.sl,k1.sa,k1.sx,k1.ma,JQ,QB,k1.r⟩⟩,λt _=>ZD (R:=r++t) (lfL L0) L1 { c0 with r:=(c0.r / 2 * 2) } { c1 with r:=c1.r } rfl jl jl rfl (jn (k:=0) hr (by decide)) (Qa hW hx h0 k1.r)⟩
theorem zAX {k:Nat}{side xa xb:Int}{L0 L1:Lv}{c0 c1:Cm}{M0 M1:List V}{N:jA}(hW:WOk k side 0 0 L0 L1 c0 c1 M0 M1 N) (hx:(L1.x=0/\L1.y=0)\/(L1.x=1/\L1.y=1)\/(L1.x=YF 1/\L1.y=YG 1/\M1≠[]/\jR c0 1≠[])) (r:List Addr) (hr:r.length=22):Ct (Mine.KP.heap_1 w.params) mg mb 6 (.ref 544) [.ref (jJ r 0),.int 1] (wF (jJ r) (zb side xa xb L0 L1 c0 c1 M0 M1)) (za k side N (jJ r 0)):=by
 rw [<- yg];refine JP (E:=EW w mg mb 6 [100006,100008] []) (r:=r) (f:=544) (Q:=za k side N (jJ r 0)) 100000 [] (xs:=[.ref 100000,.int 1]) (o:=(wL side xa xb L0 L1 c0 c1 M0 M1)) (n0:=22) (n:=60) (zDb w mg mb).2 (zDj hr) (zP rfl) rfl (T:=.br (L1.x != 3) (.br ((PyData.list [PyData.tuple [PyData.int (zD (jM L0 L0.x L1 L1.x c0)).fst,PyData.int (jM L0 L0.x L1 L1.x c0).m3],PyData.tuple [PyData.int (zE (jM L1 L1.y L0 L0.y c1)).fst,PyData.int (jM L1 L1.y L0 L0.y c1).s3]]).eqv (PyData.list [PyData.tuple [PyData.int L1.x,PyData.int L1.v3],PyData.tuple [PyData.int L1.y,PyData.int L1.v3]])) (.side (zy ⟨side,L1.x,L1.y,(L0.ints L0.x),(L0.ints L0.y),[L1.v0,L1.v1,L1.v2,L1.v3,L1.v4,L1.v5,L1.a,1,0],[L1.v0,L1.v1,L1.v2,L1.v3,L1.v4,L1.v5,L1.a,1,0],[la (c0.r * 131072) 786432,c0.sa,c0.de,c0.li,c0.en,c0.wa],[la (c1.r * 131072) 786432,c1.sa,c1.de,c1.li,c1.en,c1.wa],(zD (jM L0 L0.x L1 L1.x c0)).snd,(zE (jM L1 L1.y L0 L0.y c1)).snd,(M0.map jZ),(M1.map jZ)⟩) (.prop (jv r (za k side N (jJ r 0)) (.bool Bool.true) [100000,100062,100004,100006,100008,100010,100012,100082,100016,100018,100076,100080,100024,100026,100028,100030,100032,100034,100036,100038,100040,100042] ⟨side,L1.x,L1.y,(L0.ints L0.x),(L0.ints L0.y),[L1.v0,L1.v1,L1.v2,L1.v3,L1.v4,L1.v5,L1.a,1,0],[L1.v0,L1.v1,L1.v2,L1.v3,L1.v4,L1.v5,L1.a,1,0],[la (c0.r * 131072) 786432,c0.sa,c0.de,c0.li,c0.en,c0.wa],[la (c1.r * 131072) 786432,c1.sa,c1.de,c1.li,c1.en,c1.wa],(zD (jM L0 L0.x L1 L1.x c0)).snd,(zE (jM L1 L1.y L0 L0.y c1)).snd,(M0.map jZ),(M1.map jZ)⟩ [] 48))) .fail) (.br ((PyData.list [PyData.tuple [PyData.int (zD (jM L0 L0.x L1 L1.x c0)).fst,PyData.int (jM L0 L0.x L1 L1.x c0).m3],PyData.tuple [PyData.int (zE (jM L1 L1.y L0 L0.y c1)).fst,PyData.int (jM L1 L1.y L0 L0.y c1).s3]]).eqv (PyData.list [PyData.tuple [PyData.int L1.x,PyData.int L1.v3],PyData.tuple [PyData.int L1.y,PyData.int L1.v3]])) (.side (zy ⟨side,L1.x,L1.y,(L0.ints L0.x),(L0.ints L0.y),[L1.v0,L1.v1,L1.v2,L1.v3,L1.v4,L1.v5,L1.a,1,0],[L1.v0,L1.v1,L1.v2,L1.v3,L1.v4,L1.v5,L1.a,1,0],c0.ints,[la (c1.r * 131072) 786432,c1.sa,c1.de,c1.li,c1.en,c1.wa],(zD (jM L0 L0.x L1 L1.x c0)).snd,(zE (jM L1 L1.y L0 L0.y c1)).snd,(M0.map jZ),(M1.map jZ)⟩) (.prop (jv r (za k side N (jJ r 0)) (.bool Bool.true) [100000,100062,100004,100006,100008,100010,100012,100082,100016,100018,100076,100080,100024,100026,100028,100030,100032,100034,100036,100038,100040,100042] ⟨side,L1.x,L1.y,(L0.ints L0.x),(L0.ints L0.y),[L1.v0,L1.v1,L1.v2,L1.v3,L1.v4,L1.v5,L1.a,1,0],[L1.v0,L1.v1,L1.v2,L1.v3,L1.v4,L1.v5,L1.a,1,0],c0.ints,[la (c1.r * 131072) 786432,c1.sa,c1.de,c1.li,c1.en,c1.wa],(zD (jM L0 L0.x L1 L1.x c0)).snd,(zE (jM L1 L1.y L0 L0.y c1)).snd,(M0.map jZ),(M1.map jZ)⟩ [] 48))) .fail)) ?e ?h;case e=>kernel_rfl
 case h =>
  have k0:=JT hW.o0 hW.o1 hW.r0;have k1:=JU hW.o0 hW.o1 hW.r1;obtain ⟨h0,z0⟩:=Za k0.r;obtain ⟨h1,z1⟩:=Za k1.r;rw [Vb k1,Vc k0,z0,z1];refine jY (λq=>?_) λq=>?_
  ·rw [yF q];exact jy (zAV rfl) ⟨⟨side,_,_,L0,(lfL L1),{ c0 with r:=(c0.r / 2 * 2) },{ c1 with r:=(c1.r / 2 * 2) },_,_,rfl,⟨k0.sl,k0.sa,k0.sx,k0.ma,JQ,QB,h0⟩,⟨k1.sa,JQ,zn,k1.ml,k1.ma,k1.mx,h1⟩⟩,λt _=>ZD (R:=r++t) L0 (lfL L1) { c0 with r:=(c0.r / 2 * 2) } { c1 with r:=(c1.r / 2 * 2) } rfl jl jl rfl (jn (k:=0) hr (by decide)) (Qb hW hx h0 h1)⟩
  ·rw [zu q];exact jy (zAV rfl) ⟨⟨side,_,_,L0,(lfL L1),{ c0 with r:=c0.r },{ c1 with r:=(c1.r / 2 * 2) },_,_,rfl,⟨k0.sl,k0.sa,k0.sx,k0.ma,JQ,QB,k0.r⟩,⟨k1.sa,JQ,zn,k1.ml,k1.ma,k1.mx,h1⟩⟩,λt _=>ZD (R:=r++t) L0 (lfL L1) { c0 with r:=c0.r } { c1 with r:=(c1.r / 2 * 2) } rfl jl jl rfl (jn (k:=0) hr (by decide)) (Qb hW hx k0.r h1)⟩
end
section
variable {w:World} {mg mb:Str->Option Value}
noncomputable def nt4 (place lt x y:Int):jA:=[(100044,.tup [.ref 100046,.int place,.int lt]),(100046,.tup [.int x,.int y])]
noncomputable def yv (t m:Addr) (place lt x y:Int):jA:=[(t,.tup [.ref m,.int place,.int lt]),(m,.tup [.int x,.int y])]
noncomputable def bkL (L:Lv) (place lt x y:Int):Lv:={ L with v3:=place,l:=0,a:=lt,x:=x,y:=y }
section
variable {S M:Lv} {sx mx x y place lt:Int} {c:Cm}
theorem Qc (h:Z4 S sx M mx c) (hl:lt ∈ b2) (hx:x ∈ b2):({ jM S sx M mx c with st:=ja 256 (jM S sx M mx c).st 0 lt x,s3:=place }:Bd)=jM (bkL S place lt x y) x M mx c:=by rw [show (jM S sx M mx c).st=zw S.l S.a sx M.l M.a mx c.r from rfl,show ja 256=zEI from rfl,zDO h.sl h.sa h.sx h.ml h.ma h.mx h.r zn hl hx];rfl
theorem Qd (h:Z4 S sx M mx c) (hl:lt ∈ b2) (hy:y ∈ b3):({ jM S sx M mx c with st:=ja 768 (jM S sx M mx c).st 0 lt y,m3:=place }:Bd)=jM S sx (bkL M place lt x y) y c:=by rw [show (jM S sx M mx c).st=zw S.l S.a sx M.l M.a mx c.r from rfl,show ja 768=zEJ from rfl,zDP h.sl h.sa h.sx h.ml h.ma h.mx h.r zn hl hy];rfl
theorem zBe (h0:0<=place/\place % 4=0) (h1:place < 4294967296):la (la place 4294967295) 4294967292=place:=by rw [Jt,Int.emod_eq_of_lt h0.1 h1,show (4294967292:Int)=lx 4294967295 3 from by decide +kernel,zDe h0.1 h1];omega
end
section
variable {r:List Addr} {side xa xb place lt x y:Int} {L0 L1:Lv} {c0 c1:Cm} {M0 M1 C0 C1:List V}
theorem zK7 (hr:r.length=24) (h0:∀ x ∈ C0,x.wf 24) (h1:∀ x ∈ C1,x.wf 24):SS.ok r ⟨wK side xa xb L0 L1 c0 c1 C0 C1++nt4 place lt x y,[],24⟩ :=
 ⟨hr,λp hp=>(List.mem_append.mp hp).elim (zK6 (by decide) h0 h1 p) (YN (n:=24) (o:=nt4 place lt x y) rfl p),λ_ h=>absurd h List.not_mem_nil⟩
theorem zDk:∀ x ∈ M0.map jZ++[V.ref 100044],x.wf 24:=λx hx=>(List.mem_append.mp hx).elim (zBb x) λhx=>by obtain rfl:=List.mem_singleton.mp hx;exact (wfB_h rfl:wfA 24 100044)
theorem zGx:jC r (nt4 place lt x y)=yv (jJ r 22) (jJ r 23) place lt x y:=by show yv (jL r (nm 22)) (jL r (nm 23)) place lt x y=_;rw [z9,z9]
theorem Qe:(M0.map jZ++[V.ref 100044]).map (V.ren r)=M0++[.ref (jJ r 22)]:=by rw [<- z9 (k:=22)];exact zAU
theorem zEd:jC r (wK side xa xb L0 L1 c0 c1 (M0.map jZ++[.ref 100044]) (M1.map jZ)++nt4 place lt x y)=wF (jJ r) (zb side xa xb L0 L1 c0 c1 (M0++[.ref (jJ r 22)]) M1)++yv (jJ r 22) (jJ r 23) place lt x y:=by rw [show ∀ a b,jC r (a++b)=jC r a++jC r b from λ_ _=>List.map_append,zGu,zGx,Qe,jl]
theorem zEe:jC r (wK side xa xb L0 L1 c0 c1 (M0.map jZ) (M1.map jZ++[.ref 100044])++nt4 place lt x y)=wF (jJ r) (zb side xa xb L0 L1 c0 c1 M0 (M1++[.ref (jJ r 22)]))++yv (jJ r 22) (jJ r 23) place lt x y:=by rw [show ∀ a b,jC r (a++b)=jC r a++jC r b from λ_ _=>List.map_append,zGu,zGx,Qe,jl]
theorem zEf {k:Nat}{N:jA}(h:WOk k side xa xb L0 L1 c0 c1 M0 M1 N) (p0:0<=place) (hl:lt ∈ b2) (hm:(x=0/\y=0)\/(x=1/\y=1)\/(x=YF 0/\y=YG 0)):WOk k side 0 0 (bkL L0 place lt x y) L1 c0 c1 M0 M1 N :=
 ⟨⟨h.o0.v0,h.o0.v1,zn,hl,hm⟩,h.o1,h.r0,h.r1,h.mir,h.lok,.inl ⟨rfl,rfl⟩,h.e0,h.e1⟩
theorem zEg {k:Nat}{N:jA}(h:WOk k side xa xb L0 L1 c0 c1 M0 M1 N) (p0:0<=place) (hl:lt ∈ b2) (hm:(x=0/\y=0)\/(x=1/\y=1)\/(x=YF 1/\y=YG 1)):WOk k side 0 0 L0 (bkL L1 place lt x y) c0 c1 M0 M1 N :=
 ⟨h.o0,⟨h.o1.v0,h.o1.v1,zn,hl,hm⟩,h.r0,h.r1,h.mir,h.lok,.inl ⟨rfl,rfl⟩,h.e0,h.e1⟩
end
theorem Yk {K:Frag}{k:Nat}{f:Value}{xs:List V}{Q:V->jA->Prop}{R ns:List Addr}{v:Wv}{side xa xb:Int}{C0 C1 M0 M1:List V}{o o':jA}(L0 L1:Lv) (c0 c1:Cm) (hv:v=zb side xa xb L0 L1 c0 c1 C0 C1) (h0:C0.map (V.ren R)=M0) (h1:C1.map (V.ren R)=M1) (ho:jC R o=o')
  (c:Ct K mg mb k f xs (wF (jJ (ns.map (jL R))) (zb side xa xb L0 L1 c0 c1 M0 M1)++o') Q):Ct K mg mb k f xs (wF (jJ (ns.map (jL R))) (v.cm (V.ren R))++jC R o) Q:=by
 subst hv h0 h1 ho;exact c
theorem Ct.frame {K:Frag}{k:Nat}{f:Value}{xs:List V}{o o₂:jA}{Q Q':V->jA->Prop}(c:Ct K mg mb k f xs o Q) (h:∀ x o',Q x o'->∃ o'',Sel o'' (o'++o₂)/\Q' x o''):Ct K mg mb k f xs (o++o₂) Q':=λ_ _ G R =>
 c.cc G R (Nat.le_refl _) (.refl _) λx o' q=>(h x o' q).elim λo'' q=>⟨o'',q.1,q.2⟩
theorem zH {o:jA}:Sel o o:=Sel.of_perm (l':=[]) (by rw [List.append_nil])
theorem yw {K:Frag}{kk k:Nat}{f:Value}{xs:List V}{o n:jA}{side:Int}{N:jA}{wd:Addr}(h:Ct K mg mb kk f xs o (za k side (n++N) wd)):Ct K mg mb kk f xs (o++n) (za k side N wd) :=
 h.frame λx o' q=>by
  induction q with
  | mk r xa xb L0 L1 c0 c1 M0 M1 N' hr hd hW hy ho =>
  subst ho;exact ⟨_,zH,.mk r xa xb L0 L1 c0 c1 M0 M1 (N'++n) hr hd (by rw [List.append_assoc];exact hW) hy (List.append_assoc _ _ _)⟩
theorem zK8 {r t:List Addr}{place lt x y:Int}(hr:r.length=24):jC (r++t) (nt4 place lt x y)=yv (jJ r 22) (jJ r 23) place lt x y:=by show yv (jL (r++t) (nm 22)) (jL (r++t) (nm 23)) place lt x y=_;rw [jn hr (by decide),jn hr (by decide)]
theorem zIv {k:Nat}{side xa xb:Int}{L0 L1:Lv}{c0 c1:Cm}{M0 M1:List V}{N:jA}{place lt x y:Int}(r:List Addr) (hr:r.length=24) (hW:WOk k side 0 0 L0 L1 c0 c1 M0 M1 (yv (jJ r 22) (jJ r 23) place lt x y++N)) (hk:k<=800) (hl:lt ∈ b2) (hp:0<=place/\place % 4=0) (hp1:place < 4294967296) (hm:(x=0/\y=0)\/(x=1/\y=1)\/(x=YF 0/\y=YG 0/\M0≠[])) (hc:jR c0 0≠[]):Ct (Mine.KP.heap_1 w.params) mg mb 7 (.ref 551) [.ref (jJ r 0),.int 0] (wF (jJ r) (zb side xa xb L0 L1 c0 c1 (M0++[.ref (jJ r 22)]) M1)++yv (jJ r 22) (jJ r 23) place lt x y) (za k side N (jJ r 0)):=by
 rw [<- zEd];refine yD (E:=(EW w mg mb 7 [100006,100008] [(100006,(M0.map jZ,.ref 100044))])) (r:=r) (f:=551) (Q:=za k side N (jJ r 0)) 100000 [100044,100046] (xs:=[.ref 100000,.int 0]) (o:=(wK side xa xb L0 L1 c0 c1 (M0.map jZ++[V.ref 100044]) (M1.map jZ)++nt4 place lt x y)) (n0:=24) (n:=60) (zDc w mg mb).2 (zK7 hr zDk zBb) (zP rfl) rfl (T:=.side ((M0.map jZ)++[V.ref 100044]=(M0.map jZ)++[V.ref 100044]/\((M0.map jZ)++[V.ref 100044]).length<=900) (.side ((0:Int).natAbs < 18446744073709551616/\lt.natAbs < 18446744073709551616/\x.natAbs < 18446744073709551616) (.side ((0:Int).natAbs < 18446744073709551616/\lt.natAbs < 18446744073709551616/\y.natAbs < 18446744073709551616) (.prop (ZX (EW w mg mb 7 [100006,100008] [(100006,(M0.map jZ,.ref 100044))]).dn r (za k side N (jJ r 0)) 544 [.ref 100000,.int 0] [100000,100002,100004,100006,100008,100010,100116,100014,100110,100114,100020,100022,100024,100026,100028,100030,100032,100034,100036,100038,100040,100042] ⟨side,xa,xb,[L0.v0,L0.v1,L0.v2,place,L0.v4,L0.v5,0,lt,x],[L0.v0,L0.v1,L0.v2,place,L0.v4,L0.v5,0,lt,y],(L1.ints L1.x),(L1.ints L1.y),c0.ints,c1.ints,({ (jM L0 L0.x L1 L1.x c0) with st:=ja 256 (jM L0 L0.x L1 L1.x c0).st 0 lt x,s3:=la (la place 4294967295) 4294967292 }),({ (jM L1 L1.y L0 L0.y c1) with st:=ja 768 (jM L1 L1.y L0 L0.y c1).st 0 lt y,m3:=la (la place 4294967295) 4294967292 }),(M0.map jZ),(M1.map jZ)⟩ [(100044,.tup [.ref 100046,.int place,.int lt]),(100046,.tup [.int x,.int y])] 59))))) ?e ?h;case e=>kernel_rfl
 case h =>
  have k0:=JT hW.o0 hW.o1 hW.r0;have k1:=JU hW.o0 hW.o1 hW.r1;have hxy:=zBc hm;have hz:((M0.map jZ)++[V.ref 100044]).length<=900:=by rw [List.length_append,List.length_map];exact Nat.succ_le_of_lt (Nat.lt_of_le_of_lt hW.e0.len (Nat.lt_of_le_of_lt hk (by decide)))
  rw [zBe hp hp1,Qc (y:=y) k0 hl hxy.1,Qd (x:=x) k1 hl hxy.2];refine ⟨⟨rfl,hz⟩,⟨jN zn,jN hl,jN hxy.1⟩,⟨jN zn,jN hl,zS hxy.2⟩,.mk 6 (Nat.le_refl _) λt _=>?_⟩;have c:=zAW (w:=w) (mg:=mg) (mb:=mb) (xa:=xa) (xb:=xb) (zEf (xa:=0) (xb:=0) hW hp.1 hl (Zh hm)) (hm.imp_right λq=>q.imp_right λq=>⟨q.1,q.2.1,q.2.2,hc⟩) ([100000,100002,100004,100006,100008,100010,100116,100014,100110,100114,100020,100022,100024,100026,100028,100030,100032,100034,100036,100038,100040,100042].map (jL (r++t))) rfl;rw [show jJ ([100000,100002,100004,100006,100008,100010,100116,100014,100110,100114,100020,100022,100024,100026,100028,100030,100032,100034,100036,100038,100040,100042].map (jL (r++t))) 0=jJ r 0 from jn (k:=0) hr (by decide)] at c;rw [show ([.ref 100000,.int 0]:List V).map (V.ren (r++t))=[.ref (jJ r 0),.int 0] from congrArg (λa=>[V.ref a,.int 0]) (jn (k:=0) hr (by decide))];exact Yk (bkL L0 place lt x y) L1 c0 c1 rfl jl jl (zK8 hr) (yw c)
theorem zIw {k:Nat}{side xa xb:Int}{L0 L1:Lv}{c0 c1:Cm}{M0 M1:List V}{N:jA}{place lt x y:Int}(r:List Addr) (hr:r.length=24) (hW:WOk k side 0 0 L0 L1 c0 c1 M0 M1 (yv (jJ r 22) (jJ r 23) place lt x y++N)) (hk:k<=800) (hl:lt ∈ b2) (hp:0<=place/\place % 4=0) (hp1:place < 4294967296) (hm:(x=0/\y=0)\/(x=1/\y=1)\/(x=YF 1/\y=YG 1/\M1≠[])) (hc:jR c0 1≠[]):Ct (Mine.KP.heap_1 w.params) mg mb 7 (.ref 551) [.ref (jJ r 0),.int 1] (wF (jJ r) (zb side xa xb L0 L1 c0 c1 M0 (M1++[.ref (jJ r 22)]))++yv (jJ r 22) (jJ r 23) place lt x y) (za k side N (jJ r 0)):=by
 rw [<- zEe];refine yD (E:=(EW w mg mb 7 [100006,100008] [(100008,(M1.map jZ,.ref 100044))])) (r:=r) (f:=551) (Q:=za k side N (jJ r 0)) 100000 [100044,100046] (xs:=[.ref 100000,.int 1]) (o:=(wK side xa xb L0 L1 c0 c1 (M0.map jZ) (M1.map jZ++[V.ref 100044])++nt4 place lt x y)) (n0:=24) (n:=60) (zDc w mg mb).2 (zK7 hr zBb zDk) (zP rfl) rfl (T:=.side ((M1.map jZ)++[V.ref 100044]=(M1.map jZ)++[V.ref 100044]/\((M1.map jZ)++[V.ref 100044]).length<=900) (.side ((0:Int).natAbs < 18446744073709551616/\lt.natAbs < 18446744073709551616/\x.natAbs < 18446744073709551616) (.side ((0:Int).natAbs < 18446744073709551616/\lt.natAbs < 18446744073709551616/\y.natAbs < 18446744073709551616) (.prop (ZX (EW w mg mb 7 [100006,100008] [(100008,(M1.map jZ,.ref 100044))]).dn r (za k side N (jJ r 0)) 544 [.ref 100000,.int 1] [100000,100002,100004,100006,100008,100010,100012,100116,100016,100018,100110,100114,100024,100026,100028,100030,100032,100034,100036,100038,100040,100042] ⟨side,xa,xb,(L0.ints L0.x),(L0.ints L0.y),[L1.v0,L1.v1,L1.v2,place,L1.v4,L1.v5,0,lt,x],[L1.v0,L1.v1,L1.v2,place,L1.v4,L1.v5,0,lt,y],c0.ints,c1.ints,({ (jM L0 L0.x L1 L1.x c0) with st:=ja 768 (jM L0 L0.x L1 L1.x c0).st 0 lt x,m3:=la (la place 4294967295) 4294967292 }),({ (jM L1 L1.y L0 L0.y c1) with st:=ja 256 (jM L1 L1.y L0 L0.y c1).st 0 lt y,s3:=la (la place 4294967295) 4294967292 }),(M0.map jZ),(M1.map jZ)⟩ [(100044,.tup [.ref 100046,.int place,.int lt]),(100046,.tup [.int x,.int y])] 59))))) ?e ?h;case e=>kernel_rfl
 case h =>
  have k0:=JT hW.o0 hW.o1 hW.r0;have k1:=JU hW.o0 hW.o1 hW.r1;have hxy:=zBd hm;have hz:((M1.map jZ)++[V.ref 100044]).length<=900:=by rw [List.length_append,List.length_map];exact Nat.succ_le_of_lt (Nat.lt_of_le_of_lt hW.e1.len (Nat.lt_of_le_of_lt hk (by decide)))
  rw [zBe hp hp1,Qc (y:=x) k1 hl hxy.2,Qd (x:=y) k0 hl hxy.1];refine ⟨⟨rfl,hz⟩,⟨jN zn,jN hl,zS hxy.1⟩,⟨jN zn,jN hl,jN hxy.2⟩,.mk 6 (Nat.le_refl _) λt _=>?_⟩;have c:=zAX (w:=w) (mg:=mg) (mb:=mb) (xa:=xa) (xb:=xb) (zEg (xa:=0) (xb:=0) hW hp.1 hl (Zh hm)) (hm.imp_right λq=>q.imp_right λq=>⟨q.1,q.2.1,q.2.2,hc⟩) ([100000,100002,100004,100006,100008,100010,100012,100116,100016,100018,100110,100114,100024,100026,100028,100030,100032,100034,100036,100038,100040,100042].map (jL (r++t))) rfl;rw [show jJ ([100000,100002,100004,100006,100008,100010,100012,100116,100016,100018,100110,100114,100024,100026,100028,100030,100032,100034,100036,100038,100040,100042].map (jL (r++t))) 0=jJ r 0 from jn (k:=0) hr (by decide)] at c;rw [show ([.ref 100000,.int 1]:List V).map (V.ren (r++t))=[.ref (jJ r 0),.int 1] from congrArg (λa=>[V.ref a,.int 1]) (jn (k:=0) hr (by decide))];exact Yk L0 (bkL L1 place lt x y) c0 c1 rfl jl jl (zK8 hr) (yw c)
end
section
set_option linter.unusedVariables false
variable {w:World} {mg mb:Str->Option Value}
theorem ZE {C P:Prop}{t:Tree}(p:C->P) (h:C->t.holds):C->(Tree.side P t).holds:=λc=>⟨p c,h c⟩
theorem YR {C:Prop}{c:Bool}{t u:Tree}(h:C/\c=true->t.holds) (k:C/\c=false->u.holds):C->(Tree.br c t u).holds:=λx=>jY (λq=>h ⟨x,q⟩) λq=>k ⟨x,q⟩
theorem i_t {C:Prop}{c:Bool}{t u:Tree}(e:C->c=true) (h:C->t.holds):C->(Tree.br c t u).holds:=λx=>jy (e x) (h x)
inductive WEndB (k:Nat) (side:Int) (N:jA) (wd bx sm:Addr) (c:Int) (y:V) (o:jA):Prop
 | mk (r:List Addr) (xa xb:Int) (L0 L1:Lv) (c0 c1:Cm) (M0 M1:List V) (X:Bx) (N':jA) (hr:r.length=22) (hd:jJ r 0=wd) (hW:WOk k side xa xb L0 L1 c0 c1 M0 M1 (N'++N)) (hB:BxI X c) (hy:y = .bool true)
  (ho:o=wF (jJ r) (zb side xa xb L0 L1 c0 c1 M0 M1)++(jc bx sm X++N'))
section
variable {r R ns:List Addr} {bx sm wd:Addr} {side xa xb c:Int} {L0 L1:Lv} {c0 c1:Cm} {M0 M1 C0 C1:List V} {X:Bx}
theorem zDl {l:List Addr}{k:Nat}(hk:k < r.length):jJ (r++l) k=jJ r k:=by unfold jJ;rw [List.getD_eq_getElem?_getD,List.getD_eq_getElem?_getD,List.getElem?_append_left hk]
theorem y7 {l:List Addr}{k:Nat}:jJ (r++l) (r.length + k)=jJ l k:=by unfold jJ;rw [List.getD_eq_getElem?_getD,List.getD_eq_getElem?_getD,List.getElem?_append_right (Nat.le_add_right ..),Nat.add_sub_cancel_left]
theorem ji {a b:jA}:jC r (a++b)=jC r a++jC r b:=List.map_append
theorem YS {l:List Addr}(hr:r.length=22):wF (jJ (r++l)) (zb side xa xb L0 L1 c0 c1 M0 M1)=wF (jJ r) (zb side xa xb L0 L1 c0 c1 M0 M1):=by rw [<- yg,<- yg,yB (hr▸Q9 (Nat.le_refl _))]
theorem zGy (hr:r.length=22):(r++[bx,sm]).length=24:=by rw [List.length_append,hr];rfl
theorem zCo {e:List Addr}(hr:r.length=22):24<=(r++bx::sm::e).length:=by rw [List.length_append,hr,List.length_cons,List.length_cons];omega
theorem ZF {e t:List Addr}(hr:r.length=22):jL (r++bx::sm::e++t) 100044=bx:=by refine (jn (k:=22) rfl (Nat.lt_of_lt_of_le (by decide) (zCo hr))).trans ?_;have:=y7 (r:=r) (l:=bx::sm::e) (k:=0);rw [hr] at this;exact this
theorem zCp {e t:List Addr}(hr:r.length=22):jL (r++bx::sm::e++t) 100046=sm:=by refine (jn (k:=23) rfl (Nat.lt_of_lt_of_le (by decide) (zCo hr))).trans ?_;have:=y7 (r:=r) (l:=bx::sm::e) (k:=1);rw [hr] at this;exact this
theorem ZG {e t:List Addr}(hr:r.length=22):jL (r++bx::sm::e++t) 100000=jJ r 0 :=
 (jn (k:=0) rfl (Nat.lt_of_lt_of_le (by decide) (zCo hr))).trans (zDl (hr▸by decide))
theorem Jh (hr:r.length=22) (hB:BxI X c):jC (r++[bx,sm]) (wL side xa xb L0 L1 c0 c1 M0 M1++jc 100044 100046 X)=wF (jJ r) (zb side xa xb L0 L1 c0 c1 M0 M1)++jc bx sm X:=by have h1:=ZF (bx:=bx) (sm:=sm) (e:=[]) (t:=[]) hr;have h2:=zCp (bx:=bx) (sm:=sm) (e:=[]) (t:=[]) hr;rw [List.append_nil] at h1 h2;rw [ji,yg,YS hr,yf hB,h1,h2]
theorem ZY (hr:r.length=22) (hB:BxI X c):SS.ok (r++[bx,sm]) ⟨wL side xa xb L0 L1 c0 c1 M0 M1++jc 100044 100046 X,[],24⟩ :=
 ⟨zGy hr,λp hp=>(List.mem_append.mp hp).elim (Q9 (n:=24) (by decide) p) (Yj (n:=24) hB (wfB_h rfl) (wfB_h rfl) p),λ_ h=>absurd h List.not_mem_nil⟩
theorem zMh {k:Nat}{N o:jA}{v:Wv}(L0 L1:Lv) (c0 c1:Cm) (X:Bx) (hB:BxI X c) (hv:v=zb side xa xb L0 L1 c0 c1 C0 C1) (h0:C0.map (V.ren R)=M0) (h1:C1.map (V.ren R)=M1) (hl:ns.length=22) (hd:jJ (ns.map (jL R)) 0=wd) (hb:jL R 100044=bx) (hs:jL R 100046=sm)
  (hW:WOk k side xa xb L0 L1 c0 c1 M0 M1 (jC R o++N)):WEndB k side N wd bx sm c (.bool true) (wF (jJ (ns.map (jL R))) (v.cm (V.ren R))++jC R (jc 100044 100046 X++o)):=by
 subst h0 h1 hv;exact .mk (ns.map (jL R)) xa xb L0 L1 c0 c1 _ _ X _ (by rw [List.length_map];exact hl) hd hW hB rfl (by rw [ji,yf hB,hb,hs];rfl)
theorem Zi {e t:List Addr}(hr:r.length=22) (h:jJ ns 0=100000):jJ (ns.map (jL (r++bx::sm::e++t))) 0=jJ r 0:=by rw [<- yt];show jL _ (jJ ns 0)=_;rw [h];exact ZG hr
theorem zGz {k n:Nat}{N:jA}{v:Wv}{Y:Bx}(hr:r.length=22) (L0 L1:Lv) (c0 c1:Cm) (hl:ns.length=22) (hd:jJ ns 0=100000) (e:v=zb side xa xb L0 L1 c0 c1 (M0.map jZ) (M1.map jZ)) (hW:WOk k side xa xb L0 L1 c0 c1 M0 M1 N) (hB:BxI Y c) :
  (Tree.side (zy v) (.prop (jv (r++[bx,sm]) (WEndB k side N (jJ r 0) bx sm c) (.bool true) ns v (jc 100044 100046 Y) n))).holds :=
 ⟨⟨side,_,_,L0,L1,c0,c1,_,_,e,JT hW.o0 hW.o1 hW.r0,JU hW.o0 hW.o1 hW.r1⟩,λt _=>by have:=zMh (k:=k) (N:=N) (R:=r++[bx,sm]++t) (o:=[]) L0 L1 c0 c1 Y hB e jl jl hl (Zi hr hd) (ZF hr) (zCp hr) hW;rwa [List.append_nil] at this⟩
theorem yH {C:Prop}{k n:Nat}{N:jA}{B0 B1:Bd}{Y:Bx}(hr:r.length=22) (L0 L1:Lv) (c0 c1:Cm) (hl:ns.length=22) (hd:jJ ns 0=100000) (e0:C->B0=jM L0 L0.x L1 L1.x c0) (e1:C->B1=jM L1 L1.y L0 L0.y c1) (hW:C->WOk k side xa xb L0 L1 c0 c1 M0 M1 N) (hB:BxI Y c) :
  C->(Tree.side (zy ⟨side,xa,xb,L0.ints L0.x,L0.ints L0.y,L1.ints L1.x,L1.ints L1.y,c0.ints,c1.ints,B0,B1,M0.map jZ,M1.map jZ⟩) (.prop (jv (r++[bx,sm]) (WEndB k side N (jJ r 0) bx sm c) (.bool true) ns ⟨side,xa,xb,L0.ints L0.x,L0.ints L0.y,L1.ints L1.x,L1.ints L1.y,c0.ints,c1.ints,B0,B1,M0.map jZ,M1.map jZ⟩ (jc 100044 100046 Y) n))).holds:=λq =>
 zGz hr L0 L1 c0 c1 hl hd (by rw [e0 q,e1 q];rfl) (hW q) hB
end
theorem zQB (b:Bool):(if b=true then (1:Int) else 0).natAbs < 2 ^ 64:=by cases b<;>decide
theorem zK9 (n:Nat):((2 ^ n:Nat):Int)=2 ^ n:=Int.natCast_pow 2 n
theorem Vd {wa n:Int}(hw:wa ∈ waL) (hn:n ∈ ([1,5,9,3,7,11]:List Int)) (b:Bool):j5 wa n b ∈ waL/\jd (la wa (4294967295 - 1 * ((2 ^ n.toNat:Nat):Int))) ((if b=true then 1 else 0) * ((2 ^ n.toNat:Nat):Int))=j5 wa n b:=by rw [zK9];exact Q4 hw hn b
theorem zHA {k:Int}{is:List Int}(h0:0<=k) (h1:k < is.length):jw k is ∈ is:=by unfold jw;rw [List.getD_eq_getElem?_getD,List.getElem?_eq_getElem (by omega)];exact List.getElem_mem _
theorem WOk.line {k:Nat}{side xa xb:Int}{L0 L1:Lv}{c0 c1:Cm}{N0 N1:List V}{N:jA}{n:Int}{b:Bool}(h:WOk k side xa xb L0 L1 c0 c1 N0 N1 N) (hn:n ∈ ([1,5,9,3,7,11]:List Int)) :
  WOk k side xa xb L0 L1 { c0 with wa:=j5 c0.wa n b } { c1 with wa:=j5 c1.wa n b } N0 N1 N :=
 ⟨h.o0,h.o1,h.r0,h.r1,⟨h.mir.de,h.mir.li⟩,⟨h.lok.en,h.lok.en1,(Q4 h.lok.wa hn b).1,by show j5 c1.wa n b=j5 c0.wa n b;rw [h.lok.wa1],h.lok.li⟩,h.modes,h.e0,h.e1⟩
theorem ge1 {k:Int}(n:Int) (h:n<=k) (q:(k==n)=false):n + 1<=k:=Int.add_one_le_of_lt (Int.lt_iff_le_and_ne.mpr ⟨h,(ne_of_beq_false q).symm⟩)
theorem no6 {k:Int}(h0:0<=k) (h:k < 6) (q0:(k==0)=false) (q1:(k==1)=false) (q2:(k==2)=false) (q3:(k==3)=false) (q4:(k==4)=false) (q5:(k==5)=false):False :=
 Int.not_le.mpr h (ge1 5 (ge1 4 (ge1 3 (ge1 2 (ge1 1 (ge1 0 h0 q0) q1) q2) q3) q4) q5)
theorem no3 {k:Int}(h:0<=k/\k < 3) (q0:(k==0)=false) (q1:(k==1)=false) (q2:(k==2)=false):False :=
 Int.not_le.mpr h.2 (ge1 2 (ge1 1 (ge1 0 h.1 q0) q1) q2)
theorem i_6 {C:Prop}{k:Int}{A0 A1 A2 A3 A4 A5:Tree}(h:C->0<=k/\k < 6) (a0:C/\(k==0)=true->A0.holds) (a1:C/\(k==1)=true->A1.holds) (a2:C/\(k==2)=true->A2.holds) (a3:C/\(k==3)=true->A3.holds) (a4:C/\(k==4)=true->A4.holds) (a5:C/\(k==5)=true->A5.holds) :
  C->(Tree.br (k==0) A0 (.br (k==1) A1 (.br (k==2) A2 (.br (k==3) A3 (.br (k==4) A4 (.br (k==5) A5 .fail)))))).holds:=λc =>
 jY (λq=>a0 ⟨c,q⟩) λq0=>jY (λq=>a1 ⟨c,q⟩) λq1=>jY (λq=>a2 ⟨c,q⟩) λq2=>jY (λq=>a3 ⟨c,q⟩) λq3=>jY (λq=>a4 ⟨c,q⟩) λq4=>jY (λq=>a5 ⟨c,q⟩) λq5=>no6 (h c).1 (h c).2 q0 q1 q2 q3 q4 q5
theorem i_3 {C:Prop}{k:Int}{A0 A1 A2:Tree}(h:C->0<=k/\k < 3) (a0:C/\(k==0)=true->A0.holds) (a1:C/\(k==1)=true->A1.holds) (a2:C/\(k==2)=true->A2.holds):C->(Tree.br (k==0) A0 (.br (k==1) A1 (.br (k==2) A2 .fail))).holds:=λc =>
 jY (λq=>a0 ⟨c,q⟩) λq0=>jY (λq=>a1 ⟨c,q⟩) λq1=>jY (λq=>a2 ⟨c,q⟩) λq2=>no3 (h c) q0 q1 q2
theorem zMi {r:List Addr}{bx sm:Addr}(hr:r.length=22):V.ren (r++[bx,sm]) (.ref 100044) = .ref bx:=by have h1:=ZF (bx:=bx) (sm:=sm) (e:=[]) (t:=[]) hr;rw [List.append_nil] at h1;exact congrArg V.ref h1
theorem zMj {r:List Addr}{bx sm:Addr}(hr:r.length=22):V.ren (r++[bx,sm]) (.ref 100000) = .ref (jJ r 0):=by have h2:=ZG (bx:=bx) (sm:=sm) (e:=[]) (t:=[]) hr;rw [List.append_nil] at h2;exact congrArg V.ref h2
theorem ZZ {r:List Addr}{bx sm:Addr}{l:List V}(hr:r.length=22):(.ref 100044::.ref 100000::l:List V).map (V.ren (r++[bx,sm])) = .ref bx::.ref (jJ r 0)::l.map (V.ren (r++[bx,sm])):=by rw [List.map_cons,List.map_cons,zMi hr,zMj hr]
theorem Zj {k:Nat}{side xa xb:Int}{L0 L1:Lv}{c0 c1:Cm}{M0 M1:List V}{N:jA}{X:Bx}{c:Int}(hW:WOk k side xa xb L0 L1 c0 c1 M0 M1 N) (hB:BxI X c) (hc:c<=99000) (r:List Addr) (hr:r.length=22) (bx sm:Addr):Ct (Mine.KP.heap_1 w.params) mg mb 6 (.ref 532) [.ref bx,.ref (jJ r 0)] (wF (jJ r) (zb side xa xb L0 L1 c0 c1 M0 M1)++jc bx sm X) (WEndB k side N (jJ r 0) bx sm (c + 2)):=by
 rw [<- Jh hr hB];rw [show [.ref bx,.ref (jJ r 0)]=([.ref 100044,.ref 100000]:List V).map (V.ren (r++[bx,sm])) from (ZZ (bx:=bx) (sm:=sm) (l:=[]) hr).symm];refine JP (E:=(EW w mg mb 6 [100006,100008,100046] [])) (r:=(r++[bx,sm])) (f:=532) (Q:=WEndB k side N (jJ r 0) bx sm (c + 2)) 100000 [100044,100046] (xs:=[.ref 100044,.ref 100000]) (o:=(wL side xa xb L0 L1 c0 c1 M0 M1++jc 100044 100046 X)) (n0:=24) (n:=60) (zG2 w mg mb).2 (ZY hr hB) (zP rfl) rfl (T:=.side (zX X 6) (.br (Decidable.decide (0<=jF X 6/\jF X 6 < 6)) (.side (zX (jD X 6) 3) (.side (0<=jw (jF X 6) [1,5,9,3,7,11]/\jw (jF X 6) [1,5,9,3,7,11]<=64) (.br (Decidable.decide (0<=jw (jF X 6) [1,5,9,3,7,11])&&(Decidable.decide (jw (jF X 6) [1,5,9,3,7,11]<=64)&&Decidable.decide (1 < 18446744073709551616))) (.br (Decidable.decide (0<=jw (jF X 6) [1,5,9,3,7,11])&&(Decidable.decide (jw (jF X 6) [1,5,9,3,7,11]<=64)&&Decidable.decide ((if Decidable.decide (0 < jF (jD X 6) 3)=Bool.true then (1:Int) else 0).natAbs < 18446744073709551616))) (.side (0<=jw (jF X 6) [1,5,9,3,7,11]/\jw (jF X 6) [1,5,9,3,7,11]<=64) (.br (Decidable.decide (0<=jw (jF X 6) [1,5,9,3,7,11])&&(Decidable.decide (jw (jF X 6) [1,5,9,3,7,11]<=64)&&Decidable.decide (1 < 18446744073709551616))) (.br (Decidable.decide (0<=jw (jF X 6) [1,5,9,3,7,11])&&(Decidable.decide (jw (jF X 6) [1,5,9,3,7,11]<=64)&&Decidable.decide ((if Decidable.decide (0 < jF (jD X 6) 3)=Bool.true then (1:Int) else 0).natAbs < 18446744073709551616))) (.side (zy ⟨side,xa,xb,(L0.ints L0.x),(L0.ints L0.y),(L1.ints L1.x),(L1.ints L1.y),[c0.r * 131072,c0.sa,c0.de,c0.li,c0.en,jd (la c0.wa (4294967295 - 1 * ((2 ^ (jw (jF X 6) [1,5,9,3,7,11]).toNat:Nat):Int))) ((if Decidable.decide (0 < jF (jD X 6) 3)=Bool.true then 1 else 0) * ((2 ^ (jw (jF X 6) [1,5,9,3,7,11]).toNat:Nat):Int))],[c1.r * 131072,c1.sa,c1.de,c1.li,c1.en,jd (la c1.wa (4294967295 - 1 * ((2 ^ (jw (jF X 6) [1,5,9,3,7,11]).toNat:Nat):Int))) ((if Decidable.decide (0 < jF (jD X 6) 3)=Bool.true then 1 else 0) * ((2 ^ (jw (jF X 6) [1,5,9,3,7,11]).toNat:Nat):Int))],({ (jM L0 L0.x L1 L1.x c0) with wa:=j5 (jM L0 L0.x L1 L1.x c0).wa (jw (jF X 6) [1,5,9,3,7,11]) (Decidable.decide (0 < jF (jD X 6) 3)) }),({ (jM L1 L1.y L0 L0.y c1) with wa:=j5 (jM L1 L1.y L0 L0.y c1).wa (jw (jF X 6) [1,5,9,3,7,11]) (Decidable.decide (0 < jF (jD X 6) 3)) }),(M0.map jZ),(M1.map jZ)⟩) (.prop (jv (r++[bx,sm]) (WEndB k side N (jJ r 0) bx sm (c + 2)) (.bool Bool.true) [100000,100002,100004,100006,100008,100010,100012,100014,100016,100018,100020,100022,100024,100026,100028,100030,100032,100034,100036,100038,100040,100042] ⟨side,xa,xb,(L0.ints L0.x),(L0.ints L0.y),(L1.ints L1.x),(L1.ints L1.y),[c0.r * 131072,c0.sa,c0.de,c0.li,c0.en,jd (la c0.wa (4294967295 - 1 * ((2 ^ (jw (jF X 6) [1,5,9,3,7,11]).toNat:Nat):Int))) ((if Decidable.decide (0 < jF (jD X 6) 3)=Bool.true then 1 else 0) * ((2 ^ (jw (jF X 6) [1,5,9,3,7,11]).toNat:Nat):Int))],[c1.r * 131072,c1.sa,c1.de,c1.li,c1.en,jd (la c1.wa (4294967295 - 1 * ((2 ^ (jw (jF X 6) [1,5,9,3,7,11]).toNat:Nat):Int))) ((if Decidable.decide (0 < jF (jD X 6) 3)=Bool.true then 1 else 0) * ((2 ^ (jw (jF X 6) [1,5,9,3,7,11]).toNat:Nat):Int))],({ (jM L0 L0.x L1 L1.x c0) with wa:=j5 (jM L0 L0.x L1 L1.x c0).wa (jw (jF X 6) [1,5,9,3,7,11]) (Decidable.decide (0 < jF (jD X 6) 3)) }),({ (jM L1 L1.y L0 L0.y c1) with wa:=j5 (jM L1 L1.y L0 L0.y c1).wa (jw (jF X 6) [1,5,9,3,7,11]) (Decidable.decide (0 < jF (jD X 6) 3)) }),(M0.map jZ),(M1.map jZ)⟩ (jc 100044 100046 (jD (jD X 6) 3)) 28))) .fail) .fail)) .fail) .fail))) .fail)) ?e ?h;case e=>kernel_rfl
 case h =>
  have hd:=jG (X:=X) (m:=6) (by decide);have hn:=zHA (is:=[1,5,9,3,7,11]) hd.1 hd.2;have hb2:=(hB.next (m:=6) (by decide)).next (m:=3) (by decide)
  have t2:=(hB.next (m:=6) (by decide)).tk (m:=3) (by omega) (by decide) (by decide);refine ⟨hB.tk (by omega) (by decide) (by decide),jy (decide_eq_true hd) ⟨t2,?_⟩⟩;generalize jw (jF X 6) [1,5,9,3,7,11]=n at hn ⊢;generalize decide (0 < jF (jD X 6) 3)=b;generalize jD (jD X 6) 3=Y at hb2 ⊢;have hb:0<=n/\n<=64:=(by decide:∀ n ∈ ([1,5,9,3,7,11]:List Int),0<=n/\n<=64) n hn;have s0:∀ p:Bool,p=true->(decide (0<=n)&&(decide (n<=64)&&p))=true:=λp h=>by rw [decide_eq_true hb.1,decide_eq_true hb.2,h];rfl
  have s1:=s0 (decide ((1:Nat) < 18446744073709551616)) rfl;have s2:=s0 (decide ((if b=true then (1:Int) else 0).natAbs < 18446744073709551616)) (decide_eq_true (zQB b));rw [(Vd hW.lok.wa hn b).2,(Vd (hW.lok.wa1▸hW.lok.wa) hn b).2];have k0:=JT hW.o0 hW.o1 hW.r0;have k1:=JU hW.o0 hW.o1 hW.r1;exact ⟨hb,jy s1 (jy s2 ⟨hb,jy s1 (jy s2 (zGz hr L0 L1 { c0 with wa:=j5 c0.wa n b } { c1 with wa:=j5 c1.wa n b } rfl rfl rfl (hW.line hn) (by rw [show c + 2=c + 1 + 1 from by omega];exact hb2)))⟩)⟩
end
section
set_option linter.unusedVariables false
variable {w:World} {mg mb:Str->Option Value}
theorem zHB {v m:Int}(h:0<=v) (hm:0<=m):0<=la v m/\la v m<=v:=by unfold la PySem.Builtin.bitAnd;simp only [h,hm,decide_true];have:=Nat.and_le_left (n:=v.toNat) (m:=m.toNat);omega
theorem zDm (z:Int):la (z % 4294967296) 4294967295=z % 4294967296:=by rw [Jt,Int.emod_emod]
theorem zW {z m:Int}(hm:0<=m):0<=la (z % 4294967296) m/\la (z % 4294967296) m < 4294967296:=by have h1:=Int.emod_nonneg z (b:=4294967296) (by decide);have h2:=Int.emod_lt_of_pos z (b:=4294967296) (by decide);have:=zHB h1 hm;omega
noncomputable def j4 (L:Lv) (k v:Int):Lv:=⟨if (k==0)=true then v else L.v0,if (k==1)=true then v else L.v1,if (k==2)=true then v else L.v2,if (k==3)=true then v else L.v3,if (k==4)=true then v else L.v4,if (k==5)=true then v else L.v5,if (k==6)=true then v else L.l,if (k==7)=true then v else L.a,L.x,L.y⟩
section
variable {S M:Lv} {sx mx k u v l a x y:Int} {c:Cm} {C:Prop}
theorem zKa (hv:u=v) (q:C/\(k==0)=true):({ jM S sx M mx c with s0:=u }:Bd)=jM (j4 S k v) sx M mx c:=by obtain rfl:=eq_of_beq q.2;subst hv;rfl
theorem zKb (hv:u=v) (q:C/\(k==1)=true):({ jM S sx M mx c with s1:=u }:Bd)=jM (j4 S k v) sx M mx c:=by obtain rfl:=eq_of_beq q.2;subst hv;rfl
theorem zKc (hv:u=v) (q:C/\(k==2)=true):({ jM S sx M mx c with s2:=u }:Bd)=jM (j4 S k v) sx M mx c:=by obtain rfl:=eq_of_beq q.2;subst hv;rfl
theorem zKd (hv:u=v) (q:C/\(k==3)=true):({ jM S sx M mx c with s3:=u }:Bd)=jM (j4 S k v) sx M mx c:=by obtain rfl:=eq_of_beq q.2;subst hv;rfl
theorem zKe (hv:u=v) (q:C/\(k==4)=true):({ jM S sx M mx c with s4:=u }:Bd)=jM (j4 S k v) sx M mx c:=by obtain rfl:=eq_of_beq q.2;subst hv;rfl
theorem zKf (hv:u=v) (q:C/\(k==5)=true):({ jM S sx M mx c with s5:=u }:Bd)=jM (j4 S k v) sx M mx c:=by obtain rfl:=eq_of_beq q.2;subst hv;rfl
theorem zKg (hv:u=v) (q:C/\(k==0)=true):({ jM S sx M mx c with m0:=u }:Bd)=jM S sx (j4 M k v) mx c:=by obtain rfl:=eq_of_beq q.2;subst hv;rfl
theorem zKh (hv:u=v) (q:C/\(k==1)=true):({ jM S sx M mx c with m1:=u }:Bd)=jM S sx (j4 M k v) mx c:=by obtain rfl:=eq_of_beq q.2;subst hv;rfl
theorem zKi (hv:u=v) (q:C/\(k==2)=true):({ jM S sx M mx c with m2:=u }:Bd)=jM S sx (j4 M k v) mx c:=by obtain rfl:=eq_of_beq q.2;subst hv;rfl
theorem zKj (hv:u=v) (q:C/\(k==3)=true):({ jM S sx M mx c with m3:=u }:Bd)=jM S sx (j4 M k v) mx c:=by obtain rfl:=eq_of_beq q.2;subst hv;rfl
theorem zKk (hv:u=v) (q:C/\(k==4)=true):({ jM S sx M mx c with m4:=u }:Bd)=jM S sx (j4 M k v) mx c:=by obtain rfl:=eq_of_beq q.2;subst hv;rfl
theorem zKl (hv:u=v) (q:C/\(k==5)=true):({ jM S sx M mx c with m5:=u }:Bd)=jM S sx (j4 M k v) mx c:=by obtain rfl:=eq_of_beq q.2;subst hv;rfl
theorem zk {lv:Int}{L:Lv}(h:Okl lv L) (hk:k < 6) (v0:0<=v/\v < 4294967296):Okl lv (j4 L k v):=by
 have e6:(k==6)=false:=by simp only [beq_eq_false_iff_ne];omega
 have e7:(k==7)=false:=by simp only [beq_eq_false_iff_ne];omega
 refine ⟨?_,?_,?_,?_,h.xy⟩<;>unfold j4<;>dsimp only
 ·cases k==0
  ·exact h.v0
  ·exact v0.1
 ·cases k==0
  ·exact h.v1
  ·exact v0.2
 ·rw [e6];exact h.l
 ·rw [e7];exact h.a
theorem WOk.row0 {n:Nat}{side xa xb:Int}{L0 L1 L:Lv}{c0 c1:Cm}{M0 M1:List V}{N:jA}(h:WOk n side xa xb L0 L1 c0 c1 M0 M1 N) (o:Okl 0 L):WOk n side xa xb L L1 c0 c1 M0 M1 N:=⟨o,h.o1,h.r0,h.r1,h.mir,h.lok,h.modes,h.e0,h.e1⟩
theorem WOk.row1 {n:Nat}{side xa xb:Int}{L0 L1 L:Lv}{c0 c1:Cm}{M0 M1:List V}{N:jA}(h:WOk n side xa xb L0 L1 c0 c1 M0 M1 N) (o:Okl 1 L):WOk n side xa xb L0 L c0 c1 M0 M1 N:=⟨h.o0,o,h.r0,h.r1,h.mir,h.lok,h.modes,h.e0,h.e1⟩
noncomputable def putL (L:Lv) (l a x y:Int):Lv:={ L with l:=l,a:=a,x:=x,y:=y }
theorem yh (h:Z4 S sx M mx c) (hl:l ∈ b2) (ha:a ∈ b2) (hx:x ∈ b2):({ jM S sx M mx c with st:=ja 256 (jM S sx M mx c).st l a x }:Bd)=jM (putL S l a x y) x M mx c:=by rw [show (jM S sx M mx c).st=zw S.l S.a sx M.l M.a mx c.r from rfl,show ja 256=zEI from rfl,zDO h.sl h.sa h.sx h.ml h.ma h.mx h.r hl ha hx];rfl
theorem yi (h:Z4 S sx M mx c) (hl:l ∈ b2) (ha:a ∈ b2) (hy:y ∈ b3):({ jM S sx M mx c with st:=ja 768 (jM S sx M mx c).st l a y }:Bd)=jM S sx (putL M l a x y) y c:=by rw [show (jM S sx M mx c).st=zw S.l S.a sx M.l M.a mx c.r from rfl,show ja 768=zEJ from rfl,zDP h.sl h.sa h.sx h.ml h.ma h.mx h.r hl ha hy];rfl
end
theorem j9 {d:Int}(h:0<=d/\d < 2):d ∈ b2:=by
 have:d=0\/d=1:=by omega
 rcases this with rfl | rfl
 ·exact zn
 ·exact JQ
theorem zJ (z m:Int):la (la (z % 4294967296) 4294967295) m=la (z % 4294967296) m:=by rw [zDm]
theorem hk8 {a b c d e f g h k:Int}(h0:0<=k) (h6:k < 6):decide (0<=k/\k < (([a,b,c,d,e,f,g,h]:List Int).length:Int))=true:=decide_eq_true ⟨h0,Int.lt_of_lt_of_le h6 (show (6:Int)<=8 by decide)⟩
theorem zIx:(1:Int) ∈ b3:=by decide
theorem zIy:(3:Int) ∈ b3:=by decide
theorem Jv {lv:Int}{L:Lv}{l a x y:Int}(h:Okl lv L) (hl:l ∈ b2) (ha:a ∈ b2) (hx:(x=0/\y=0)\/(x=1/\y=1)\/(x=YF lv/\y=YG lv)):Okl lv (putL L l a x y):=⟨h.v0,h.v1,hl,ha,hx⟩
theorem Ve {k:Nat}{side xa xb:Int}{L0 L1:Lv}{c0 c1:Cm}{M0 M1:List V}{N:jA}{X:Bx}{c:Int}(hW:WOk k side xa xb L0 L1 c0 c1 M0 M1 N) (hB:BxI X c) (hc:c<=99000) (r:List Addr) (hr:r.length=22) (bx sm:Addr):Ct (Mine.KP.heap_1 w.params) mg mb 7 (.ref 539) [.ref bx,.ref (jJ r 0),.int 0] (wF (jJ r) (zb side xa xb L0 L1 c0 c1 M0 M1)++jc bx sm X) (WEndB k side N (jJ r 0) bx sm (c + 5)):=by
 rw [<- Jh hr hB];rw [show [.ref bx,.ref (jJ r 0),.int 0]=([.ref 100044,.ref 100000,.int 0]:List V).map (V.ren (r++[bx,sm])) from (ZZ (bx:=bx) (sm:=sm) (l:=[.int 0]) hr).symm];refine JP (E:=(EW w mg mb 7 [100006,100008,100046] [(100052,([],V.none))])) (r:=(r++[bx,sm])) (f:=539) (Q:=WEndB k side N (jJ r 0) bx sm (c + 5)) 100000 [100044,100046] (xs:=[.ref 100044,.ref 100000,.int 0]) (o:=(wL side xa xb L0 L1 c0 c1 M0 M1++jc 100044 100046 X)) (n0:=24) (n:=60) (zDa w mg mb).2 (ZY hr hB) (zP rfl) rfl (T:=.side (zX X 9) (.br (Decidable.decide (jF X 9 < 6)) (.side (zX (jD X 9) 65536) (.side (IntMulOk (jF (jD X 9) 65536 + 1) 2654435761) (.br (jF X 9==0) (.br (Decidable.decide (0<=jF X 9/\jF X 9 < (([L0.v0,L0.v1,L0.v2,L0.v3,L0.v4,L0.v5,L0.l,L0.a]:List Int).length:Int))) (.side (zy ⟨side,xa,xb,((j4 L0 (jF X 9) (la ((jF (jD X 9) 65536 + 1) * 2654435761 % 4294967296) 4294967293)).ints L0.x),((j4 L0 (jF X 9) (la ((jF (jD X 9) 65536 + 1) * 2654435761 % 4294967296) 4294967293)).ints L0.y),(L1.ints L1.x),(L1.ints L1.y),c0.ints,c1.ints,({ (jM L0 L0.x L1 L1.x c0) with s0:=la (la ((jF (jD X 9) 65536 + 1) * 2654435761 % 4294967296) 4294967295) 4294967293 }),({ (jM L1 L1.y L0 L0.y c1) with m0:=la (la ((jF (jD X 9) 65536 + 1) * 2654435761 % 4294967296) 4294967295) 4294967293 }),(M0.map jZ),(M1.map jZ)⟩) (.prop (jv (r++[bx,sm]) (WEndB k side N (jJ r 0) bx sm (c + 5)) (.bool Bool.true) [100000,100002,100004,100006,100008,100010,100122,100014,100116,100120,100020,100022,100024,100026,100028,100030,100032,100034,100036,100038,100040,100042] ⟨side,xa,xb,((j4 L0 (jF X 9) (la ((jF (jD X 9) 65536 + 1) * 2654435761 % 4294967296) 4294967293)).ints L0.x),((j4 L0 (jF X 9) (la ((jF (jD X 9) 65536 + 1) * 2654435761 % 4294967296) 4294967293)).ints L0.y),(L1.ints L1.x),(L1.ints L1.y),c0.ints,c1.ints,({ (jM L0 L0.x L1 L1.x c0) with s0:=la (la ((jF (jD X 9) 65536 + 1) * 2654435761 % 4294967296) 4294967295) 4294967293 }),({ (jM L1 L1.y L0 L0.y c1) with m0:=la (la ((jF (jD X 9) 65536 + 1) * 2654435761 % 4294967296) 4294967295) 4294967293 }),(M0.map jZ),(M1.map jZ)⟩ (jc 100044 100046 (jD (jD X 9) 65536)) 62))) .fail) (.br (jF X 9==1) (.br (Decidable.decide (0<=jF X 9/\jF X 9 < (([L0.v0,L0.v1,L0.v2,L0.v3,L0.v4,L0.v5,L0.l,L0.a]:List Int).length:Int))) (.side (zy ⟨side,xa,xb,((j4 L0 (jF X 9) (la ((jF (jD X 9) 65536 + 1) * 2654435761 % 4294967296) 7)).ints L0.x),((j4 L0 (jF X 9) (la ((jF (jD X 9) 65536 + 1) * 2654435761 % 4294967296) 7)).ints L0.y),(L1.ints L1.x),(L1.ints L1.y),c0.ints,c1.ints,({ (jM L0 L0.x L1 L1.x c0) with s1:=la (la ((jF (jD X 9) 65536 + 1) * 2654435761 % 4294967296) 4294967295) 7 }),({ (jM L1 L1.y L0 L0.y c1) with m1:=la (la ((jF (jD X 9) 65536 + 1) * 2654435761 % 4294967296) 4294967295) 7 }),(M0.map jZ),(M1.map jZ)⟩) (.prop (jv (r++[bx,sm]) (WEndB k side N (jJ r 0) bx sm (c + 5)) (.bool Bool.true) [100000,100002,100004,100006,100008,100010,100122,100014,100116,100120,100020,100022,100024,100026,100028,100030,100032,100034,100036,100038,100040,100042] ⟨side,xa,xb,((j4 L0 (jF X 9) (la ((jF (jD X 9) 65536 + 1) * 2654435761 % 4294967296) 7)).ints L0.x),((j4 L0 (jF X 9) (la ((jF (jD X 9) 65536 + 1) * 2654435761 % 4294967296) 7)).ints L0.y),(L1.ints L1.x),(L1.ints L1.y),c0.ints,c1.ints,({ (jM L0 L0.x L1 L1.x c0) with s1:=la (la ((jF (jD X 9) 65536 + 1) * 2654435761 % 4294967296) 4294967295) 7 }),({ (jM L1 L1.y L0 L0.y c1) with m1:=la (la ((jF (jD X 9) 65536 + 1) * 2654435761 % 4294967296) 4294967295) 7 }),(M0.map jZ),(M1.map jZ)⟩ (jc 100044 100046 (jD (jD X 9) 65536)) 62))) .fail) (.br (jF X 9==2) (.br (Decidable.decide (0<=jF X 9/\jF X 9 < (([L0.v0,L0.v1,L0.v2,L0.v3,L0.v4,L0.v5,L0.l,L0.a]:List Int).length:Int))) (.side (zy ⟨side,xa,xb,((j4 L0 (jF X 9) (la ((jF (jD X 9) 65536 + 1) * 2654435761 % 4294967296) 4294967295)).ints L0.x),((j4 L0 (jF X 9) (la ((jF (jD X 9) 65536 + 1) * 2654435761 % 4294967296) 4294967295)).ints L0.y),(L1.ints L1.x),(L1.ints L1.y),c0.ints,c1.ints,({ (jM L0 L0.x L1 L1.x c0) with s2:=la ((jF (jD X 9) 65536 + 1) * 2654435761 % 4294967296) 4294967295 }),({ (jM L1 L1.y L0 L0.y c1) with m2:=la ((jF (jD X 9) 65536 + 1) * 2654435761 % 4294967296) 4294967295 }),(M0.map jZ),(M1.map jZ)⟩) (.prop (jv (r++[bx,sm]) (WEndB k side N (jJ r 0) bx sm (c + 5)) (.bool Bool.true) [100000,100002,100004,100006,100008,100010,100126,100014,100120,100124,100020,100022,100024,100026,100028,100030,100032,100034,100036,100038,100040,100042] ⟨side,xa,xb,((j4 L0 (jF X 9) (la ((jF (jD X 9) 65536 + 1) * 2654435761 % 4294967296) 4294967295)).ints L0.x),((j4 L0 (jF X 9) (la ((jF (jD X 9) 65536 + 1) * 2654435761 % 4294967296) 4294967295)).ints L0.y),(L1.ints L1.x),(L1.ints L1.y),c0.ints,c1.ints,({ (jM L0 L0.x L1 L1.x c0) with s2:=la ((jF (jD X 9) 65536 + 1) * 2654435761 % 4294967296) 4294967295 }),({ (jM L1 L1.y L0 L0.y c1) with m2:=la ((jF (jD X 9) 65536 + 1) * 2654435761 % 4294967296) 4294967295 }),(M0.map jZ),(M1.map jZ)⟩ (jc 100044 100046 (jD (jD X 9) 65536)) 64))) .fail) (.br (jF X 9==3) (.br (Decidable.decide (0<=jF X 9/\jF X 9 < (([L0.v0,L0.v1,L0.v2,L0.v3,L0.v4,L0.v5,L0.l,L0.a]:List Int).length:Int))) (.side (zy ⟨side,xa,xb,((j4 L0 (jF X 9) (la ((jF (jD X 9) 65536 + 1) * 2654435761 % 4294967296) 4294967292)).ints L0.x),((j4 L0 (jF X 9) (la ((jF (jD X 9) 65536 + 1) * 2654435761 % 4294967296) 4294967292)).ints L0.y),(L1.ints L1.x),(L1.ints L1.y),c0.ints,c1.ints,({ (jM L0 L0.x L1 L1.x c0) with s3:=la (la ((jF (jD X 9) 65536 + 1) * 2654435761 % 4294967296) 4294967295) 4294967292 }),({ (jM L1 L1.y L0 L0.y c1) with m3:=la (la ((jF (jD X 9) 65536 + 1) * 2654435761 % 4294967296) 4294967295) 4294967292 }),(M0.map jZ),(M1.map jZ)⟩) (.prop (jv (r++[bx,sm]) (WEndB k side N (jJ r 0) bx sm (c + 5)) (.bool Bool.true) [100000,100002,100004,100006,100008,100010,100126,100014,100120,100124,100020,100022,100024,100026,100028,100030,100032,100034,100036,100038,100040,100042] ⟨side,xa,xb,((j4 L0 (jF X 9) (la ((jF (jD X 9) 65536 + 1) * 2654435761 % 4294967296) 4294967292)).ints L0.x),((j4 L0 (jF X 9) (la ((jF (jD X 9) 65536 + 1) * 2654435761 % 4294967296) 4294967292)).ints L0.y),(L1.ints L1.x),(L1.ints L1.y),c0.ints,c1.ints,({ (jM L0 L0.x L1 L1.x c0) with s3:=la (la ((jF (jD X 9) 65536 + 1) * 2654435761 % 4294967296) 4294967295) 4294967292 }),({ (jM L1 L1.y L0 L0.y c1) with m3:=la (la ((jF (jD X 9) 65536 + 1) * 2654435761 % 4294967296) 4294967295) 4294967292 }),(M0.map jZ),(M1.map jZ)⟩ (jc 100044 100046 (jD (jD X 9) 65536)) 64))) .fail) (.br (jF X 9==4) (.br (Decidable.decide (0<=jF X 9/\jF X 9 < (([L0.v0,L0.v1,L0.v2,L0.v3,L0.v4,L0.v5,L0.l,L0.a]:List Int).length:Int))) (.side (zy ⟨side,xa,xb,((j4 L0 (jF X 9) (la ((jF (jD X 9) 65536 + 1) * 2654435761 % 4294967296) 4294967295)).ints L0.x),((j4 L0 (jF X 9) (la ((jF (jD X 9) 65536 + 1) * 2654435761 % 4294967296) 4294967295)).ints L0.y),(L1.ints L1.x),(L1.ints L1.y),c0.ints,c1.ints,({ (jM L0 L0.x L1 L1.x c0) with s4:=la ((jF (jD X 9) 65536 + 1) * 2654435761 % 4294967296) 4294967295 }),({ (jM L1 L1.y L0 L0.y c1) with m4:=la ((jF (jD X 9) 65536 + 1) * 2654435761 % 4294967296) 4294967295 }),(M0.map jZ),(M1.map jZ)⟩) (.prop (jv (r++[bx,sm]) (WEndB k side N (jJ r 0) bx sm (c + 5)) (.bool Bool.true) [100000,100002,100004,100006,100008,100010,100126,100014,100120,100124,100020,100022,100024,100026,100028,100030,100032,100034,100036,100038,100040,100042] ⟨side,xa,xb,((j4 L0 (jF X 9) (la ((jF (jD X 9) 65536 + 1) * 2654435761 % 4294967296) 4294967295)).ints L0.x),((j4 L0 (jF X 9) (la ((jF (jD X 9) 65536 + 1) * 2654435761 % 4294967296) 4294967295)).ints L0.y),(L1.ints L1.x),(L1.ints L1.y),c0.ints,c1.ints,({ (jM L0 L0.x L1 L1.x c0) with s4:=la ((jF (jD X 9) 65536 + 1) * 2654435761 % 4294967296) 4294967295 }),({ (jM L1 L1.y L0 L0.y c1) with m4:=la ((jF (jD X 9) 65536 + 1) * 2654435761 % 4294967296) 4294967295 }),(M0.map jZ),(M1.map jZ)⟩ (jc 100044 100046 (jD (jD X 9) 65536)) 64))) .fail) (.br (jF X 9==5) (.br (Decidable.decide (0<=jF X 9/\jF X 9 < (([L0.v0,L0.v1,L0.v2,L0.v3,L0.v4,L0.v5,L0.l,L0.a]:List Int).length:Int))) (.side (zy ⟨side,xa,xb,((j4 L0 (jF X 9) (la ((jF (jD X 9) 65536 + 1) * 2654435761 % 4294967296) 4294967295)).ints L0.x),((j4 L0 (jF X 9) (la ((jF (jD X 9) 65536 + 1) * 2654435761 % 4294967296) 4294967295)).ints L0.y),(L1.ints L1.x),(L1.ints L1.y),c0.ints,c1.ints,({ (jM L0 L0.x L1 L1.x c0) with s5:=la ((jF (jD X 9) 65536 + 1) * 2654435761 % 4294967296) 4294967295 }),({ (jM L1 L1.y L0 L0.y c1) with m5:=la ((jF (jD X 9) 65536 + 1) * 2654435761 % 4294967296) 4294967295 }),(M0.map jZ),(M1.map jZ)⟩) (.prop (jv (r++[bx,sm]) (WEndB k side N (jJ r 0) bx sm (c + 5)) (.bool Bool.true) [100000,100002,100004,100006,100008,100010,100126,100014,100120,100124,100020,100022,100024,100026,100028,100030,100032,100034,100036,100038,100040,100042] ⟨side,xa,xb,((j4 L0 (jF X 9) (la ((jF (jD X 9) 65536 + 1) * 2654435761 % 4294967296) 4294967295)).ints L0.x),((j4 L0 (jF X 9) (la ((jF (jD X 9) 65536 + 1) * 2654435761 % 4294967296) 4294967295)).ints L0.y),(L1.ints L1.x),(L1.ints L1.y),c0.ints,c1.ints,({ (jM L0 L0.x L1 L1.x c0) with s5:=la ((jF (jD X 9) 65536 + 1) * 2654435761 % 4294967296) 4294967295 }),({ (jM L1 L1.y L0 L0.y c1) with m5:=la ((jF (jD X 9) 65536 + 1) * 2654435761 % 4294967296) 4294967295 }),(M0.map jZ),(M1.map jZ)⟩ (jc 100044 100046 (jD (jD X 9) 65536)) 64))) .fail) .fail)))))))) (.side (zX (jD X 9) 2) (.side (zX (jD (jD X 9) 2) 2) (.side (zX (jD (jD (jD X 9) 2) 2) 3) (.br (jF (jD (jD (jD X 9) 2) 2) 3==0) (.side ((jF (jD X 9) 2).natAbs < 18446744073709551616/\(jF (jD (jD X 9) 2) 2).natAbs < 18446744073709551616/\(0:Int).natAbs < 18446744073709551616) (.side ((jF (jD X 9) 2).natAbs < 18446744073709551616/\(jF (jD (jD X 9) 2) 2).natAbs < 18446744073709551616/\(0:Int).natAbs < 18446744073709551616) (.side (zy ⟨side,xa,xb,((putL L0 (jF (jD X 9) 2) (jF (jD (jD X 9) 2) 2) 0 0).ints 0),((putL L0 (jF (jD X 9) 2) (jF (jD (jD X 9) 2) 2) 0 0).ints 0),(L1.ints L1.x),(L1.ints L1.y),c0.ints,c1.ints,({ (jM L0 L0.x L1 L1.x c0) with st:=ja 256 (jM L0 L0.x L1 L1.x c0).st (jF (jD X 9) 2) (jF (jD (jD X 9) 2) 2) 0 }),({ (jM L1 L1.y L0 L0.y c1) with st:=ja 768 (jM L1 L1.y L0 L0.y c1).st (jF (jD X 9) 2) (jF (jD (jD X 9) 2) 2) 0 }),(M0.map jZ),(M1.map jZ)⟩) (.prop (jv (r++[bx,sm]) (WEndB k side N (jJ r 0) bx sm (c + 5)) (.bool Bool.true) [100000,100002,100004,100006,100008,100010,100094,100014,100088,100092,100020,100022,100024,100026,100028,100030,100032,100034,100036,100038,100040,100042] ⟨side,xa,xb,((putL L0 (jF (jD X 9) 2) (jF (jD (jD X 9) 2) 2) 0 0).ints 0),((putL L0 (jF (jD X 9) 2) (jF (jD (jD X 9) 2) 2) 0 0).ints 0),(L1.ints L1.x),(L1.ints L1.y),c0.ints,c1.ints,({ (jM L0 L0.x L1 L1.x c0) with st:=ja 256 (jM L0 L0.x L1 L1.x c0).st (jF (jD X 9) 2) (jF (jD (jD X 9) 2) 2) 0 }),({ (jM L1 L1.y L0 L0.y c1) with st:=ja 768 (jM L1 L1.y L0 L0.y c1).st (jF (jD X 9) 2) (jF (jD (jD X 9) 2) 2) 0 }),(M0.map jZ),(M1.map jZ)⟩ (jc 100044 100046 (jD (jD (jD (jD X 9) 2) 2) 3)) 48))))) (.br (jF (jD (jD (jD X 9) 2) 2) 3==1) (.side ((jF (jD X 9) 2).natAbs < 18446744073709551616/\(jF (jD (jD X 9) 2) 2).natAbs < 18446744073709551616/\(1:Int).natAbs < 18446744073709551616) (.side ((jF (jD X 9) 2).natAbs < 18446744073709551616/\(jF (jD (jD X 9) 2) 2).natAbs < 18446744073709551616/\(1:Int).natAbs < 18446744073709551616) (.side (zy ⟨side,xa,xb,((putL L0 (jF (jD X 9) 2) (jF (jD (jD X 9) 2) 2) 1 1).ints 1),((putL L0 (jF (jD X 9) 2) (jF (jD (jD X 9) 2) 2) 1 1).ints 1),(L1.ints L1.x),(L1.ints L1.y),c0.ints,c1.ints,({ (jM L0 L0.x L1 L1.x c0) with st:=ja 256 (jM L0 L0.x L1 L1.x c0).st (jF (jD X 9) 2) (jF (jD (jD X 9) 2) 2) 1 }),({ (jM L1 L1.y L0 L0.y c1) with st:=ja 768 (jM L1 L1.y L0 L0.y c1).st (jF (jD X 9) 2) (jF (jD (jD X 9) 2) 2) 1 }),(M0.map jZ),(M1.map jZ)⟩) (.prop (jv (r++[bx,sm]) (WEndB k side N (jJ r 0) bx sm (c + 5)) (.bool Bool.true) [100000,100002,100004,100006,100008,100010,100094,100014,100088,100092,100020,100022,100024,100026,100028,100030,100032,100034,100036,100038,100040,100042] ⟨side,xa,xb,((putL L0 (jF (jD X 9) 2) (jF (jD (jD X 9) 2) 2) 1 1).ints 1),((putL L0 (jF (jD X 9) 2) (jF (jD (jD X 9) 2) 2) 1 1).ints 1),(L1.ints L1.x),(L1.ints L1.y),c0.ints,c1.ints,({ (jM L0 L0.x L1 L1.x c0) with st:=ja 256 (jM L0 L0.x L1 L1.x c0).st (jF (jD X 9) 2) (jF (jD (jD X 9) 2) 2) 1 }),({ (jM L1 L1.y L0 L0.y c1) with st:=ja 768 (jM L1 L1.y L0 L0.y c1).st (jF (jD X 9) 2) (jF (jD (jD X 9) 2) 2) 1 }),(M0.map jZ),(M1.map jZ)⟩ (jc 100044 100046 (jD (jD (jD (jD X 9) 2) 2) 3)) 48))))) (.br (jF (jD (jD (jD X 9) 2) 2) 3==2) (.side ((jF (jD X 9) 2).natAbs < 18446744073709551616/\(jF (jD (jD X 9) 2) 2).natAbs < 18446744073709551616/\(1:Int).natAbs < 18446744073709551616) (.side ((jF (jD X 9) 2).natAbs < 18446744073709551616/\(jF (jD (jD X 9) 2) 2).natAbs < 18446744073709551616/\(3:Int).natAbs < 18446744073709551616) (.side (zy ⟨side,xa,xb,((putL L0 (jF (jD X 9) 2) (jF (jD (jD X 9) 2) 2) 1 1).ints 1),((putL L0 (jF (jD X 9) 2) (jF (jD (jD X 9) 2) 2) 1 3).ints 3),(L1.ints L1.x),(L1.ints L1.y),c0.ints,c1.ints,({ (jM L0 L0.x L1 L1.x c0) with st:=ja 256 (jM L0 L0.x L1 L1.x c0).st (jF (jD X 9) 2) (jF (jD (jD X 9) 2) 2) 1 }),({ (jM L1 L1.y L0 L0.y c1) with st:=ja 768 (jM L1 L1.y L0 L0.y c1).st (jF (jD X 9) 2) (jF (jD (jD X 9) 2) 2) 3 }),(M0.map jZ),(M1.map jZ)⟩) (.prop (jv (r++[bx,sm]) (WEndB k side N (jJ r 0) bx sm (c + 5)) (.bool Bool.true) [100000,100002,100004,100006,100008,100010,100094,100014,100088,100092,100020,100022,100024,100026,100028,100030,100032,100034,100036,100038,100040,100042] ⟨side,xa,xb,((putL L0 (jF (jD X 9) 2) (jF (jD (jD X 9) 2) 2) 1 1).ints 1),((putL L0 (jF (jD X 9) 2) (jF (jD (jD X 9) 2) 2) 1 3).ints 3),(L1.ints L1.x),(L1.ints L1.y),c0.ints,c1.ints,({ (jM L0 L0.x L1 L1.x c0) with st:=ja 256 (jM L0 L0.x L1 L1.x c0).st (jF (jD X 9) 2) (jF (jD (jD X 9) 2) 2) 1 }),({ (jM L1 L1.y L0 L0.y c1) with st:=ja 768 (jM L1 L1.y L0 L0.y c1).st (jF (jD X 9) 2) (jF (jD (jD X 9) 2) 2) 3 }),(M0.map jZ),(M1.map jZ)⟩ (jc 100044 100046 (jD (jD (jD (jD X 9) 2) 2) 3)) 48))))) .fail)))))))) ?e ?h;case e=>kernel_rfl
 case h =>
  exact ZE (C:=True) (λ_=>hB.tk (by omega) (by decide) (by decide)) (YR
   (ZE (λ_=>(hB.next (m:=9) (by decide)).tk (by omega) (by decide) (by decide)) (ZE (λ_=>J0 (by decide)) (i_6 (λq=>⟨(jG (by decide)).1,of_decide_eq_true q.2⟩)
    (i_t (λq=>hk8 (jG (by decide)).1 (of_decide_eq_true q.1.2)) (yH hr (j4 L0 (jF X 9) (la ((jF (jD X 9) 65536 + 1) * 2654435761 % 4294967296) 4294967293)) L1 c0 c1 rfl rfl (zKa (zJ _ _)) (zKg (zJ _ _)) (λq=>WOk.row0 hW (zk hW.o0 (of_decide_eq_true q.1.2) (zW (by decide)))) (((hB.next (by decide)).next (by decide)).up (by omega)))) (i_t (λq=>hk8 (jG (by decide)).1 (of_decide_eq_true q.1.2)) (yH hr (j4 L0 (jF X 9) (la ((jF (jD X 9) 65536 + 1) * 2654435761 % 4294967296) 7)) L1 c0 c1 rfl rfl (zKb (zJ _ _)) (zKh (zJ _ _)) (λq=>WOk.row0 hW (zk hW.o0 (of_decide_eq_true q.1.2) (zW (by decide)))) (((hB.next (by decide)).next (by decide)).up (by omega)))) (i_t (λq=>hk8 (jG (by decide)).1 (of_decide_eq_true q.1.2)) (yH hr (j4 L0 (jF X 9) (la ((jF (jD X 9) 65536 + 1) * 2654435761 % 4294967296) 4294967295)) L1 c0 c1 rfl rfl (zKc rfl) (zKi rfl) (λq=>WOk.row0 hW (zk hW.o0 (of_decide_eq_true q.1.2) (zW (by decide)))) (((hB.next (by decide)).next (by decide)).up (by omega)))) (i_t (λq=>hk8 (jG (by decide)).1 (of_decide_eq_true q.1.2)) (yH hr (j4 L0 (jF X 9) (la ((jF (jD X 9) 65536 + 1) * 2654435761 % 4294967296) 4294967292)) L1 c0 c1 rfl rfl (zKd (zJ _ _)) (zKj (zJ _ _)) (λq=>WOk.row0 hW (zk hW.o0 (of_decide_eq_true q.1.2) (zW (by decide)))) (((hB.next (by decide)).next (by decide)).up (by omega)))) (i_t (λq=>hk8 (jG (by decide)).1 (of_decide_eq_true q.1.2)) (yH hr (j4 L0 (jF X 9) (la ((jF (jD X 9) 65536 + 1) * 2654435761 % 4294967296) 4294967295)) L1 c0 c1 rfl rfl (zKe rfl) (zKk rfl) (λq=>WOk.row0 hW (zk hW.o0 (of_decide_eq_true q.1.2) (zW (by decide)))) (((hB.next (by decide)).next (by decide)).up (by omega)))) (i_t (λq=>hk8 (jG (by decide)).1 (of_decide_eq_true q.1.2)) (yH hr (j4 L0 (jF X 9) (la ((jF (jD X 9) 65536 + 1) * 2654435761 % 4294967296) 4294967295)) L1 c0 c1 rfl rfl (zKf rfl) (zKl rfl) (λq=>WOk.row0 hW (zk hW.o0 (of_decide_eq_true q.1.2) (zW (by decide)))) (((hB.next (by decide)).next (by decide)).up (by omega)))))))
   (ZE (λ_=>(hB.next (m:=9) (by decide)).tk (by omega) (by decide) (by decide)) (ZE (λ_=>((hB.next (m:=9) (by decide)).next (m:=2) (by decide)).tk (by omega) (by decide) (by decide)) (ZE (λ_=>(((hB.next (m:=9) (by decide)).next (m:=2) (by decide)).next (m:=2) (by decide)).tk (by omega) (by decide) (by decide)) (i_3 (λ_=>jG (by decide))
    (ZE (λ_=>⟨jN (j9 (jG (by decide))),jN (j9 (jG (by decide))),jN zn⟩) (ZE (λ_=>⟨jN (j9 (jG (by decide))),jN (j9 (jG (by decide))),zS QB⟩) (yH hr (putL L0 (jF (jD X 9) 2) (jF (jD (jD X 9) 2) 2) 0 0) L1 c0 c1 rfl rfl (λ_=>yh (y:=0) (JT hW.o0 hW.o1 hW.r0) (j9 (jG (by decide))) (j9 (jG (by decide))) zn) (λ_=>yi (x:=0) (JU hW.o0 hW.o1 hW.r1) (j9 (jG (by decide))) (j9 (jG (by decide))) QB) (λ_=>WOk.row0 hW (Jv hW.o0 (j9 (jG (by decide))) (j9 (jG (by decide))) (.inl ⟨rfl,rfl⟩))) (((((hB.next (m:=9) (by decide)).next (m:=2) (by decide)).next (m:=2) (by decide)).next (m:=3) (by decide)).up (by omega))))) (ZE (λ_=>⟨jN (j9 (jG (by decide))),jN (j9 (jG (by decide))),jN JQ⟩) (ZE (λ_=>⟨jN (j9 (jG (by decide))),jN (j9 (jG (by decide))),zS zIx⟩) (yH hr (putL L0 (jF (jD X 9) 2) (jF (jD (jD X 9) 2) 2) 1 1) L1 c0 c1 rfl rfl (λ_=>yh (y:=1) (JT hW.o0 hW.o1 hW.r0) (j9 (jG (by decide))) (j9 (jG (by decide))) JQ) (λ_=>yi (x:=1) (JU hW.o0 hW.o1 hW.r1) (j9 (jG (by decide))) (j9 (jG (by decide))) zIx) (λ_=>WOk.row0 hW (Jv hW.o0 (j9 (jG (by decide))) (j9 (jG (by decide))) (.inr (.inl ⟨rfl,rfl⟩)))) (((((hB.next (m:=9) (by decide)).next (m:=2) (by decide)).next (m:=2) (by decide)).next (m:=3) (by decide)).up (by omega))))) (ZE (λ_=>⟨jN (j9 (jG (by decide))),jN (j9 (jG (by decide))),jN JQ⟩) (ZE (λ_=>⟨jN (j9 (jG (by decide))),jN (j9 (jG (by decide))),zS zIy⟩) (yH hr (putL L0 (jF (jD X 9) 2) (jF (jD (jD X 9) 2) 2) 1 3) L1 c0 c1 rfl rfl (λ_=>yh (y:=3) (JT hW.o0 hW.o1 hW.r0) (j9 (jG (by decide))) (j9 (jG (by decide))) JQ) (λ_=>yi (x:=1) (JU hW.o0 hW.o1 hW.r1) (j9 (jG (by decide))) (j9 (jG (by decide))) zIy) (λ_=>WOk.row0 hW (Jv hW.o0 (j9 (jG (by decide))) (j9 (jG (by decide))) (.inr (.inr ⟨rfl,rfl⟩)))) (((((hB.next (m:=9) (by decide)).next (m:=2) (by decide)).next (m:=2) (by decide)).next (m:=3) (by decide)).up (by omega)))))))))) trivial
theorem Vf {k:Nat}{side xa xb:Int}{L0 L1:Lv}{c0 c1:Cm}{M0 M1:List V}{N:jA}{X:Bx}{c:Int}(hW:WOk k side xa xb L0 L1 c0 c1 M0 M1 N) (hB:BxI X c) (hc:c<=99000) (r:List Addr) (hr:r.length=22) (bx sm:Addr):Ct (Mine.KP.heap_1 w.params) mg mb 7 (.ref 539) [.ref bx,.ref (jJ r 0),.int 1] (wF (jJ r) (zb side xa xb L0 L1 c0 c1 M0 M1)++jc bx sm X) (WEndB k side N (jJ r 0) bx sm (c + 5)):=by
 rw [<- Jh hr hB];rw [show [.ref bx,.ref (jJ r 0),.int 1]=([.ref 100044,.ref 100000,.int 1]:List V).map (V.ren (r++[bx,sm])) from (ZZ (bx:=bx) (sm:=sm) (l:=[.int 1]) hr).symm];refine JP (E:=(EW w mg mb 7 [100006,100008,100046] [(100052,([],V.none))])) (r:=(r++[bx,sm])) (f:=539) (Q:=WEndB k side N (jJ r 0) bx sm (c + 5)) 100000 [100044,100046] (xs:=[.ref 100044,.ref 100000,.int 1]) (o:=(wL side xa xb L0 L1 c0 c1 M0 M1++jc 100044 100046 X)) (n0:=24) (n:=60) (zDa w mg mb).2 (ZY hr hB) (zP rfl) rfl (T:=.side (zX X 9) (.br (Decidable.decide (jF X 9 < 6)) (.side (zX (jD X 9) 65536) (.side (IntMulOk (jF (jD X 9) 65536 + 1) 2654435761) (.br (jF X 9==0) (.br (Decidable.decide (0<=jF X 9/\jF X 9 < (([L1.v0,L1.v1,L1.v2,L1.v3,L1.v4,L1.v5,L1.l,L1.a]:List Int).length:Int))) (.side (zy ⟨side,xa,xb,(L0.ints L0.x),(L0.ints L0.y),((j4 L1 (jF X 9) (la ((jF (jD X 9) 65536 + 1) * 2654435761 % 4294967296) 4294967293)).ints L1.x),((j4 L1 (jF X 9) (la ((jF (jD X 9) 65536 + 1) * 2654435761 % 4294967296) 4294967293)).ints L1.y),c0.ints,c1.ints,({ (jM L0 L0.x L1 L1.x c0) with m0:=la (la ((jF (jD X 9) 65536 + 1) * 2654435761 % 4294967296) 4294967295) 4294967293 }),({ (jM L1 L1.y L0 L0.y c1) with s0:=la (la ((jF (jD X 9) 65536 + 1) * 2654435761 % 4294967296) 4294967295) 4294967293 }),(M0.map jZ),(M1.map jZ)⟩) (.prop (jv (r++[bx,sm]) (WEndB k side N (jJ r 0) bx sm (c + 5)) (.bool Bool.true) [100000,100002,100004,100006,100008,100010,100012,100122,100016,100018,100116,100120,100024,100026,100028,100030,100032,100034,100036,100038,100040,100042] ⟨side,xa,xb,(L0.ints L0.x),(L0.ints L0.y),((j4 L1 (jF X 9) (la ((jF (jD X 9) 65536 + 1) * 2654435761 % 4294967296) 4294967293)).ints L1.x),((j4 L1 (jF X 9) (la ((jF (jD X 9) 65536 + 1) * 2654435761 % 4294967296) 4294967293)).ints L1.y),c0.ints,c1.ints,({ (jM L0 L0.x L1 L1.x c0) with m0:=la (la ((jF (jD X 9) 65536 + 1) * 2654435761 % 4294967296) 4294967295) 4294967293 }),({ (jM L1 L1.y L0 L0.y c1) with s0:=la (la ((jF (jD X 9) 65536 + 1) * 2654435761 % 4294967296) 4294967295) 4294967293 }),(M0.map jZ),(M1.map jZ)⟩ (jc 100044 100046 (jD (jD X 9) 65536)) 62))) .fail) (.br (jF X 9==1) (.br (Decidable.decide (0<=jF X 9/\jF X 9 < (([L1.v0,L1.v1,L1.v2,L1.v3,L1.v4,L1.v5,L1.l,L1.a]:List Int).length:Int))) (.side (zy ⟨side,xa,xb,(L0.ints L0.x),(L0.ints L0.y),((j4 L1 (jF X 9) (la ((jF (jD X 9) 65536 + 1) * 2654435761 % 4294967296) 7)).ints L1.x),((j4 L1 (jF X 9) (la ((jF (jD X 9) 65536 + 1) * 2654435761 % 4294967296) 7)).ints L1.y),c0.ints,c1.ints,({ (jM L0 L0.x L1 L1.x c0) with m1:=la (la ((jF (jD X 9) 65536 + 1) * 2654435761 % 4294967296) 4294967295) 7 }),({ (jM L1 L1.y L0 L0.y c1) with s1:=la (la ((jF (jD X 9) 65536 + 1) * 2654435761 % 4294967296) 4294967295) 7 }),(M0.map jZ),(M1.map jZ)⟩) (.prop (jv (r++[bx,sm]) (WEndB k side N (jJ r 0) bx sm (c + 5)) (.bool Bool.true) [100000,100002,100004,100006,100008,100010,100012,100122,100016,100018,100116,100120,100024,100026,100028,100030,100032,100034,100036,100038,100040,100042] ⟨side,xa,xb,(L0.ints L0.x),(L0.ints L0.y),((j4 L1 (jF X 9) (la ((jF (jD X 9) 65536 + 1) * 2654435761 % 4294967296) 7)).ints L1.x),((j4 L1 (jF X 9) (la ((jF (jD X 9) 65536 + 1) * 2654435761 % 4294967296) 7)).ints L1.y),c0.ints,c1.ints,({ (jM L0 L0.x L1 L1.x c0) with m1:=la (la ((jF (jD X 9) 65536 + 1) * 2654435761 % 4294967296) 4294967295) 7 }),({ (jM L1 L1.y L0 L0.y c1) with s1:=la (la ((jF (jD X 9) 65536 + 1) * 2654435761 % 4294967296) 4294967295) 7 }),(M0.map jZ),(M1.map jZ)⟩ (jc 100044 100046 (jD (jD X 9) 65536)) 62))) .fail) (.br (jF X 9==2) (.br (Decidable.decide (0<=jF X 9/\jF X 9 < (([L1.v0,L1.v1,L1.v2,L1.v3,L1.v4,L1.v5,L1.l,L1.a]:List Int).length:Int))) (.side (zy ⟨side,xa,xb,(L0.ints L0.x),(L0.ints L0.y),((j4 L1 (jF X 9) (la ((jF (jD X 9) 65536 + 1) * 2654435761 % 4294967296) 4294967295)).ints L1.x),((j4 L1 (jF X 9) (la ((jF (jD X 9) 65536 + 1) * 2654435761 % 4294967296) 4294967295)).ints L1.y),c0.ints,c1.ints,({ (jM L0 L0.x L1 L1.x c0) with m2:=la ((jF (jD X 9) 65536 + 1) * 2654435761 % 4294967296) 4294967295 }),({ (jM L1 L1.y L0 L0.y c1) with s2:=la ((jF (jD X 9) 65536 + 1) * 2654435761 % 4294967296) 4294967295 }),(M0.map jZ),(M1.map jZ)⟩) (.prop (jv (r++[bx,sm]) (WEndB k side N (jJ r 0) bx sm (c + 5)) (.bool Bool.true) [100000,100002,100004,100006,100008,100010,100012,100126,100016,100018,100120,100124,100024,100026,100028,100030,100032,100034,100036,100038,100040,100042] ⟨side,xa,xb,(L0.ints L0.x),(L0.ints L0.y),((j4 L1 (jF X 9) (la ((jF (jD X 9) 65536 + 1) * 2654435761 % 4294967296) 4294967295)).ints L1.x),((j4 L1 (jF X 9) (la ((jF (jD X 9) 65536 + 1) * 2654435761 % 4294967296) 4294967295)).ints L1.y),c0.ints,c1.ints,({ (jM L0 L0.x L1 L1.x c0) with m2:=la ((jF (jD X 9) 65536 + 1) * 2654435761 % 4294967296) 4294967295 }),({ (jM L1 L1.y L0 L0.y c1) with s2:=la ((jF (jD X 9) 65536 + 1) * 2654435761 % 4294967296) 4294967295 }),(M0.map jZ),(M1.map jZ)⟩ (jc 100044 100046 (jD (jD X 9) 65536)) 64))) .fail) (.br (jF X 9==3) (.br (Decidable.decide (0<=jF X 9/\jF X 9 < (([L1.v0,L1.v1,L1.v2,L1.v3,L1.v4,L1.v5,L1.l,L1.a]:List Int).length:Int))) (.side (zy ⟨side,xa,xb,(L0.ints L0.x),(L0.ints L0.y),((j4 L1 (jF X 9) (la ((jF (jD X 9) 65536 + 1) * 2654435761 % 4294967296) 4294967292)).ints L1.x),((j4 L1 (jF X 9) (la ((jF (jD X 9) 65536 + 1) * 2654435761 % 4294967296) 4294967292)).ints L1.y),c0.ints,c1.ints,({ (jM L0 L0.x L1 L1.x c0) with m3:=la (la ((jF (jD X 9) 65536 + 1) * 2654435761 % 4294967296) 4294967295) 4294967292 }),({ (jM L1 L1.y L0 L0.y c1) with s3:=la (la ((jF (jD X 9) 65536 + 1) * 2654435761 % 4294967296) 4294967295) 4294967292 }),(M0.map jZ),(M1.map jZ)⟩) (.prop (jv (r++[bx,sm]) (WEndB k side N (jJ r 0) bx sm (c + 5)) (.bool Bool.true) [100000,100002,100004,100006,100008,100010,100012,100126,100016,100018,100120,100124,100024,100026,100028,100030,100032,100034,100036,100038,100040,100042] ⟨side,xa,xb,(L0.ints L0.x),(L0.ints L0.y),((j4 L1 (jF X 9) (la ((jF (jD X 9) 65536 + 1) * 2654435761 % 4294967296) 4294967292)).ints L1.x),((j4 L1 (jF X 9) (la ((jF (jD X 9) 65536 + 1) * 2654435761 % 4294967296) 4294967292)).ints L1.y),c0.ints,c1.ints,({ (jM L0 L0.x L1 L1.x c0) with m3:=la (la ((jF (jD X 9) 65536 + 1) * 2654435761 % 4294967296) 4294967295) 4294967292 }),({ (jM L1 L1.y L0 L0.y c1) with s3:=la (la ((jF (jD X 9) 65536 + 1) * 2654435761 % 4294967296) 4294967295) 4294967292 }),(M0.map jZ),(M1.map jZ)⟩ (jc 100044 100046 (jD (jD X 9) 65536)) 64))) .fail) (.br (jF X 9==4) (.br (Decidable.decide (0<=jF X 9/\jF X 9 < (([L1.v0,L1.v1,L1.v2,L1.v3,L1.v4,L1.v5,L1.l,L1.a]:List Int).length:Int))) (.side (zy ⟨side,xa,xb,(L0.ints L0.x),(L0.ints L0.y),((j4 L1 (jF X 9) (la ((jF (jD X 9) 65536 + 1) * 2654435761 % 4294967296) 4294967295)).ints L1.x),((j4 L1 (jF X 9) (la ((jF (jD X 9) 65536 + 1) * 2654435761 % 4294967296) 4294967295)).ints L1.y),c0.ints,c1.ints,({ (jM L0 L0.x L1 L1.x c0) with m4:=la ((jF (jD X 9) 65536 + 1) * 2654435761 % 4294967296) 4294967295 }),({ (jM L1 L1.y L0 L0.y c1) with s4:=la ((jF (jD X 9) 65536 + 1) * 2654435761 % 4294967296) 4294967295 }),(M0.map jZ),(M1.map jZ)⟩) (.prop (jv (r++[bx,sm]) (WEndB k side N (jJ r 0) bx sm (c + 5)) (.bool Bool.true) [100000,100002,100004,100006,100008,100010,100012,100126,100016,100018,100120,100124,100024,100026,100028,100030,100032,100034,100036,100038,100040,100042] ⟨side,xa,xb,(L0.ints L0.x),(L0.ints L0.y),((j4 L1 (jF X 9) (la ((jF (jD X 9) 65536 + 1) * 2654435761 % 4294967296) 4294967295)).ints L1.x),((j4 L1 (jF X 9) (la ((jF (jD X 9) 65536 + 1) * 2654435761 % 4294967296) 4294967295)).ints L1.y),c0.ints,c1.ints,({ (jM L0 L0.x L1 L1.x c0) with m4:=la ((jF (jD X 9) 65536 + 1) * 2654435761 % 4294967296) 4294967295 }),({ (jM L1 L1.y L0 L0.y c1) with s4:=la ((jF (jD X 9) 65536 + 1) * 2654435761 % 4294967296) 4294967295 }),(M0.map jZ),(M1.map jZ)⟩ (jc 100044 100046 (jD (jD X 9) 65536)) 64))) .fail) (.br (jF X 9==5) (.br (Decidable.decide (0<=jF X 9/\jF X 9 < (([L1.v0,L1.v1,L1.v2,L1.v3,L1.v4,L1.v5,L1.l,L1.a]:List Int).length:Int))) (.side (zy ⟨side,xa,xb,(L0.ints L0.x),(L0.ints L0.y),((j4 L1 (jF X 9) (la ((jF (jD X 9) 65536 + 1) * 2654435761 % 4294967296) 4294967295)).ints L1.x),((j4 L1 (jF X 9) (la ((jF (jD X 9) 65536 + 1) * 2654435761 % 4294967296) 4294967295)).ints L1.y),c0.ints,c1.ints,({ (jM L0 L0.x L1 L1.x c0) with m5:=la ((jF (jD X 9) 65536 + 1) * 2654435761 % 4294967296) 4294967295 }),({ (jM L1 L1.y L0 L0.y c1) with s5:=la ((jF (jD X 9) 65536 + 1) * 2654435761 % 4294967296) 4294967295 }),(M0.map jZ),(M1.map jZ)⟩) (.prop (jv (r++[bx,sm]) (WEndB k side N (jJ r 0) bx sm (c + 5)) (.bool Bool.true) [100000,100002,100004,100006,100008,100010,100012,100126,100016,100018,100120,100124,100024,100026,100028,100030,100032,100034,100036,100038,100040,100042] ⟨side,xa,xb,(L0.ints L0.x),(L0.ints L0.y),((j4 L1 (jF X 9) (la ((jF (jD X 9) 65536 + 1) * 2654435761 % 4294967296) 4294967295)).ints L1.x),((j4 L1 (jF X 9) (la ((jF (jD X 9) 65536 + 1) * 2654435761 % 4294967296) 4294967295)).ints L1.y),c0.ints,c1.ints,({ (jM L0 L0.x L1 L1.x c0) with m5:=la ((jF (jD X 9) 65536 + 1) * 2654435761 % 4294967296) 4294967295 }),({ (jM L1 L1.y L0 L0.y c1) with s5:=la ((jF (jD X 9) 65536 + 1) * 2654435761 % 4294967296) 4294967295 }),(M0.map jZ),(M1.map jZ)⟩ (jc 100044 100046 (jD (jD X 9) 65536)) 64))) .fail) .fail)))))))) (.side (zX (jD X 9) 2) (.side (zX (jD (jD X 9) 2) 2) (.side (zX (jD (jD (jD X 9) 2) 2) 3) (.br (jF (jD (jD (jD X 9) 2) 2) 3==0) (.side ((jF (jD X 9) 2).natAbs < 18446744073709551616/\(jF (jD (jD X 9) 2) 2).natAbs < 18446744073709551616/\(0:Int).natAbs < 18446744073709551616) (.side ((jF (jD X 9) 2).natAbs < 18446744073709551616/\(jF (jD (jD X 9) 2) 2).natAbs < 18446744073709551616/\(0:Int).natAbs < 18446744073709551616) (.side (zy ⟨side,xa,xb,(L0.ints L0.x),(L0.ints L0.y),((putL L1 (jF (jD X 9) 2) (jF (jD (jD X 9) 2) 2) 0 0).ints 0),((putL L1 (jF (jD X 9) 2) (jF (jD (jD X 9) 2) 2) 0 0).ints 0),c0.ints,c1.ints,({ (jM L0 L0.x L1 L1.x c0) with st:=ja 768 (jM L0 L0.x L1 L1.x c0).st (jF (jD X 9) 2) (jF (jD (jD X 9) 2) 2) 0 }),({ (jM L1 L1.y L0 L0.y c1) with st:=ja 256 (jM L1 L1.y L0 L0.y c1).st (jF (jD X 9) 2) (jF (jD (jD X 9) 2) 2) 0 }),(M0.map jZ),(M1.map jZ)⟩) (.prop (jv (r++[bx,sm]) (WEndB k side N (jJ r 0) bx sm (c + 5)) (.bool Bool.true) [100000,100002,100004,100006,100008,100010,100012,100094,100016,100018,100088,100092,100024,100026,100028,100030,100032,100034,100036,100038,100040,100042] ⟨side,xa,xb,(L0.ints L0.x),(L0.ints L0.y),((putL L1 (jF (jD X 9) 2) (jF (jD (jD X 9) 2) 2) 0 0).ints 0),((putL L1 (jF (jD X 9) 2) (jF (jD (jD X 9) 2) 2) 0 0).ints 0),c0.ints,c1.ints,({ (jM L0 L0.x L1 L1.x c0) with st:=ja 768 (jM L0 L0.x L1 L1.x c0).st (jF (jD X 9) 2) (jF (jD (jD X 9) 2) 2) 0 }),({ (jM L1 L1.y L0 L0.y c1) with st:=ja 256 (jM L1 L1.y L0 L0.y c1).st (jF (jD X 9) 2) (jF (jD (jD X 9) 2) 2) 0 }),(M0.map jZ),(M1.map jZ)⟩ (jc 100044 100046 (jD (jD (jD (jD X 9) 2) 2) 3)) 48))))) (.br (jF (jD (jD (jD X 9) 2) 2) 3==1) (.side ((jF (jD X 9) 2).natAbs < 18446744073709551616/\(jF (jD (jD X 9) 2) 2).natAbs < 18446744073709551616/\(1:Int).natAbs < 18446744073709551616) (.side ((jF (jD X 9) 2).natAbs < 18446744073709551616/\(jF (jD (jD X 9) 2) 2).natAbs < 18446744073709551616/\(1:Int).natAbs < 18446744073709551616) (.side (zy ⟨side,xa,xb,(L0.ints L0.x),(L0.ints L0.y),((putL L1 (jF (jD X 9) 2) (jF (jD (jD X 9) 2) 2) 1 1).ints 1),((putL L1 (jF (jD X 9) 2) (jF (jD (jD X 9) 2) 2) 1 1).ints 1),c0.ints,c1.ints,({ (jM L0 L0.x L1 L1.x c0) with st:=ja 768 (jM L0 L0.x L1 L1.x c0).st (jF (jD X 9) 2) (jF (jD (jD X 9) 2) 2) 1 }),({ (jM L1 L1.y L0 L0.y c1) with st:=ja 256 (jM L1 L1.y L0 L0.y c1).st (jF (jD X 9) 2) (jF (jD (jD X 9) 2) 2) 1 }),(M0.map jZ),(M1.map jZ)⟩) (.prop (jv (r++[bx,sm]) (WEndB k side N (jJ r 0) bx sm (c + 5)) (.bool Bool.true) [100000,100002,100004,100006,100008,100010,100012,100094,100016,100018,100088,100092,100024,100026,100028,100030,100032,100034,100036,100038,100040,100042] ⟨side,xa,xb,(L0.ints L0.x),(L0.ints L0.y),((putL L1 (jF (jD X 9) 2) (jF (jD (jD X 9) 2) 2) 1 1).ints 1),((putL L1 (jF (jD X 9) 2) (jF (jD (jD X 9) 2) 2) 1 1).ints 1),c0.ints,c1.ints,({ (jM L0 L0.x L1 L1.x c0) with st:=ja 768 (jM L0 L0.x L1 L1.x c0).st (jF (jD X 9) 2) (jF (jD (jD X 9) 2) 2) 1 }),({ (jM L1 L1.y L0 L0.y c1) with st:=ja 256 (jM L1 L1.y L0 L0.y c1).st (jF (jD X 9) 2) (jF (jD (jD X 9) 2) 2) 1 }),(M0.map jZ),(M1.map jZ)⟩ (jc 100044 100046 (jD (jD (jD (jD X 9) 2) 2) 3)) 48))))) (.br (jF (jD (jD (jD X 9) 2) 2) 3==2) (.side ((jF (jD X 9) 2).natAbs < 18446744073709551616/\(jF (jD (jD X 9) 2) 2).natAbs < 18446744073709551616/\(3:Int).natAbs < 18446744073709551616) (.side ((jF (jD X 9) 2).natAbs < 18446744073709551616/\(jF (jD (jD X 9) 2) 2).natAbs < 18446744073709551616/\(1:Int).natAbs < 18446744073709551616) (.side (zy ⟨side,xa,xb,(L0.ints L0.x),(L0.ints L0.y),((putL L1 (jF (jD X 9) 2) (jF (jD (jD X 9) 2) 2) 3 1).ints 3),((putL L1 (jF (jD X 9) 2) (jF (jD (jD X 9) 2) 2) 1 1).ints 1),c0.ints,c1.ints,({ (jM L0 L0.x L1 L1.x c0) with st:=ja 768 (jM L0 L0.x L1 L1.x c0).st (jF (jD X 9) 2) (jF (jD (jD X 9) 2) 2) 3 }),({ (jM L1 L1.y L0 L0.y c1) with st:=ja 256 (jM L1 L1.y L0 L0.y c1).st (jF (jD X 9) 2) (jF (jD (jD X 9) 2) 2) 1 }),(M0.map jZ),(M1.map jZ)⟩) (.prop (jv (r++[bx,sm]) (WEndB k side N (jJ r 0) bx sm (c + 5)) (.bool Bool.true) [100000,100002,100004,100006,100008,100010,100012,100094,100016,100018,100088,100092,100024,100026,100028,100030,100032,100034,100036,100038,100040,100042] ⟨side,xa,xb,(L0.ints L0.x),(L0.ints L0.y),((putL L1 (jF (jD X 9) 2) (jF (jD (jD X 9) 2) 2) 3 1).ints 3),((putL L1 (jF (jD X 9) 2) (jF (jD (jD X 9) 2) 2) 1 1).ints 1),c0.ints,c1.ints,({ (jM L0 L0.x L1 L1.x c0) with st:=ja 768 (jM L0 L0.x L1 L1.x c0).st (jF (jD X 9) 2) (jF (jD (jD X 9) 2) 2) 3 }),({ (jM L1 L1.y L0 L0.y c1) with st:=ja 256 (jM L1 L1.y L0 L0.y c1).st (jF (jD X 9) 2) (jF (jD (jD X 9) 2) 2) 1 }),(M0.map jZ),(M1.map jZ)⟩ (jc 100044 100046 (jD (jD (jD (jD X 9) 2) 2) 3)) 48))))) .fail)))))))) ?e ?h;case e=>kernel_rfl
 case h =>
  exact ZE (C:=True) (λ_=>hB.tk (by omega) (by decide) (by decide)) (YR
   (ZE (λ_=>(hB.next (m:=9) (by decide)).tk (by omega) (by decide) (by decide)) (ZE (λ_=>J0 (by decide)) (i_6 (λq=>⟨(jG (by decide)).1,of_decide_eq_true q.2⟩)
    (i_t (λq=>hk8 (jG (by decide)).1 (of_decide_eq_true q.1.2)) (yH hr L0 (j4 L1 (jF X 9) (la ((jF (jD X 9) 65536 + 1) * 2654435761 % 4294967296) 4294967293)) c0 c1 rfl rfl (zKg (zJ _ _)) (zKa (zJ _ _)) (λq=>WOk.row1 hW (zk hW.o1 (of_decide_eq_true q.1.2) (zW (by decide)))) (((hB.next (by decide)).next (by decide)).up (by omega)))) (i_t (λq=>hk8 (jG (by decide)).1 (of_decide_eq_true q.1.2)) (yH hr L0 (j4 L1 (jF X 9) (la ((jF (jD X 9) 65536 + 1) * 2654435761 % 4294967296) 7)) c0 c1 rfl rfl (zKh (zJ _ _)) (zKb (zJ _ _)) (λq=>WOk.row1 hW (zk hW.o1 (of_decide_eq_true q.1.2) (zW (by decide)))) (((hB.next (by decide)).next (by decide)).up (by omega)))) (i_t (λq=>hk8 (jG (by decide)).1 (of_decide_eq_true q.1.2)) (yH hr L0 (j4 L1 (jF X 9) (la ((jF (jD X 9) 65536 + 1) * 2654435761 % 4294967296) 4294967295)) c0 c1 rfl rfl (zKi rfl) (zKc rfl) (λq=>WOk.row1 hW (zk hW.o1 (of_decide_eq_true q.1.2) (zW (by decide)))) (((hB.next (by decide)).next (by decide)).up (by omega)))) (i_t (λq=>hk8 (jG (by decide)).1 (of_decide_eq_true q.1.2)) (yH hr L0 (j4 L1 (jF X 9) (la ((jF (jD X 9) 65536 + 1) * 2654435761 % 4294967296) 4294967292)) c0 c1 rfl rfl (zKj (zJ _ _)) (zKd (zJ _ _)) (λq=>WOk.row1 hW (zk hW.o1 (of_decide_eq_true q.1.2) (zW (by decide)))) (((hB.next (by decide)).next (by decide)).up (by omega)))) (i_t (λq=>hk8 (jG (by decide)).1 (of_decide_eq_true q.1.2)) (yH hr L0 (j4 L1 (jF X 9) (la ((jF (jD X 9) 65536 + 1) * 2654435761 % 4294967296) 4294967295)) c0 c1 rfl rfl (zKk rfl) (zKe rfl) (λq=>WOk.row1 hW (zk hW.o1 (of_decide_eq_true q.1.2) (zW (by decide)))) (((hB.next (by decide)).next (by decide)).up (by omega)))) (i_t (λq=>hk8 (jG (by decide)).1 (of_decide_eq_true q.1.2)) (yH hr L0 (j4 L1 (jF X 9) (la ((jF (jD X 9) 65536 + 1) * 2654435761 % 4294967296) 4294967295)) c0 c1 rfl rfl (zKl rfl) (zKf rfl) (λq=>WOk.row1 hW (zk hW.o1 (of_decide_eq_true q.1.2) (zW (by decide)))) (((hB.next (by decide)).next (by decide)).up (by omega)))))))
   (ZE (λ_=>(hB.next (m:=9) (by decide)).tk (by omega) (by decide) (by decide)) (ZE (λ_=>((hB.next (m:=9) (by decide)).next (m:=2) (by decide)).tk (by omega) (by decide) (by decide)) (ZE (λ_=>(((hB.next (m:=9) (by decide)).next (m:=2) (by decide)).next (m:=2) (by decide)).tk (by omega) (by decide) (by decide)) (i_3 (λ_=>jG (by decide))
    (ZE (λ_=>⟨jN (j9 (jG (by decide))),jN (j9 (jG (by decide))),zS QB⟩) (ZE (λ_=>⟨jN (j9 (jG (by decide))),jN (j9 (jG (by decide))),jN zn⟩) (yH hr L0 (putL L1 (jF (jD X 9) 2) (jF (jD (jD X 9) 2) 2) 0 0) c0 c1 rfl rfl (λ_=>yi (x:=0) (JT hW.o0 hW.o1 hW.r0) (j9 (jG (by decide))) (j9 (jG (by decide))) QB) (λ_=>yh (y:=0) (JU hW.o0 hW.o1 hW.r1) (j9 (jG (by decide))) (j9 (jG (by decide))) zn) (λ_=>WOk.row1 hW (Jv hW.o1 (j9 (jG (by decide))) (j9 (jG (by decide))) (.inl ⟨rfl,rfl⟩))) (((((hB.next (m:=9) (by decide)).next (m:=2) (by decide)).next (m:=2) (by decide)).next (m:=3) (by decide)).up (by omega))))) (ZE (λ_=>⟨jN (j9 (jG (by decide))),jN (j9 (jG (by decide))),zS zIx⟩) (ZE (λ_=>⟨jN (j9 (jG (by decide))),jN (j9 (jG (by decide))),jN JQ⟩) (yH hr L0 (putL L1 (jF (jD X 9) 2) (jF (jD (jD X 9) 2) 2) 1 1) c0 c1 rfl rfl (λ_=>yi (x:=1) (JT hW.o0 hW.o1 hW.r0) (j9 (jG (by decide))) (j9 (jG (by decide))) zIx) (λ_=>yh (y:=1) (JU hW.o0 hW.o1 hW.r1) (j9 (jG (by decide))) (j9 (jG (by decide))) JQ) (λ_=>WOk.row1 hW (Jv hW.o1 (j9 (jG (by decide))) (j9 (jG (by decide))) (.inr (.inl ⟨rfl,rfl⟩)))) (((((hB.next (m:=9) (by decide)).next (m:=2) (by decide)).next (m:=2) (by decide)).next (m:=3) (by decide)).up (by omega))))) (ZE (λ_=>⟨jN (j9 (jG (by decide))),jN (j9 (jG (by decide))),zS zIy⟩) (ZE (λ_=>⟨jN (j9 (jG (by decide))),jN (j9 (jG (by decide))),jN JQ⟩) (yH hr L0 (putL L1 (jF (jD X 9) 2) (jF (jD (jD X 9) 2) 2) 3 1) c0 c1 rfl rfl (λ_=>yi (x:=1) (JT hW.o0 hW.o1 hW.r0) (j9 (jG (by decide))) (j9 (jG (by decide))) zIy) (λ_=>yh (y:=3) (JU hW.o0 hW.o1 hW.r1) (j9 (jG (by decide))) (j9 (jG (by decide))) JQ) (λ_=>WOk.row1 hW (Jv hW.o1 (j9 (jG (by decide))) (j9 (jG (by decide))) (.inr (.inr ⟨rfl,rfl⟩)))) (((((hB.next (m:=9) (by decide)).next (m:=2) (by decide)).next (m:=2) (by decide)).next (m:=3) (by decide)).up (by omega)))))))))) trivial
end
section
set_option linter.unusedVariables false
variable {w:World} {mg mb:Str->Option Value}
theorem Ji {α:Type}{p:α->Bool}{f:α->Int}:∀ l:List α,jp (l.map λs=>(p s,f s))=(l.filter p).map f
 | []=>rfl
 | x::l=>by
  unfold jp;rw [List.map_cons,List.filter_cons];dsimp only;cases p x
  ·exact Ji l
  ·exact congrArg (f x::·) (Ji l)
theorem Vg:∀ l:List (Bool×Int),(jp l).length<=l.length
 | []=>Nat.le_refl _
 | (b,x)::l=>by
  unfold jp;cases b
  ·exact Nat.le_succ_of_le (Vg l)
  ·exact Nat.succ_le_succ (Vg l)
theorem Yl (l:List (Bool×Int)):((jp l).map V.int).length<=l.length:=by rw [List.length_map];exact Vg l
noncomputable def jW (de li lv:Int):List Int:=(causesL.filter λs=>jq de s==1 - lv)++((linesL.filter λs=>jq li s==1 - lv).map λs=>2147483648 + s)
noncomputable def zEh (sd x0 x1 de li x4 x5:Int):jA:=[(100000,.sdict [("side",.int sd),("modes",.ref 100002),("nest",.ref 100004),("due",.ref 100006),("boards",.ref 100008),("rest",.ref 100010)]),(100010,.list [.ref 100012,.ref 100014]),(100012,.list [.int x0,.int x1,.int de,.int li,.int x4,.int x5])]
noncomputable def zBf (sd x0 x1 de li x4 x5 lv:Int) (r:List Addr) (y:V) (o:jA):Prop:=∃ t,y = .ref t/\o=(t,.list ((jW de li lv).map V.int))::jC r (zEh sd x0 x1 de li x4 x5)
theorem zHC (sd x0 x1 de li x4 x5 lv:Int) (r:List Addr) (hr:r.length=8):Ct (Mine.KP.heap_1 w.params) mg mb 2 (.ref 508) (([.ref 100000,.int lv]:List V).map (V.ren r)) (jC r (zEh sd x0 x1 de li x4 x5)) (zBf sd x0 x1 de li x4 x5 lv r):=by
 refine zM (E:=EW w mg mb 2 [100028,100032,100034] []) (xs:=[.ref 100000,.int lv]) (o:=zEh sd x0 x1 de li x4 x5) (n0:=8) (n:=60) (zG0 w mg mb).2 (okB hr rfl) (zP rfl) rfl (T:=.side (((jp [(la (de / 1) 1==1 - lv,0),(la (de / 2) 1==1 - lv,1),(la (de / 4) 1==1 - lv,2),(la (de / 8) 1==1 - lv,3),(la (de / 16) 1==1 - lv,4),(la (de / 32) 1==1 - lv,5),(la (de / 64) 1==1 - lv,6),(la (de / 128) 1==1 - lv,7),(la (de / 256) 1==1 - lv,8),(la (de / 512) 1==1 - lv,9),(la (de / 4096) 1==1 - lv,12),(la (de / 8192) 1==1 - lv,13),(la (de / 32768) 1==1 - lv,15)]).map V.int).length<=900) (.side (((jp [(la (li / 2) 1==1 - lv,2147483649),(la (li / 32) 1==1 - lv,2147483653),(la (li / 512) 1==1 - lv,2147483657)]).map V.int).length<=900) (.side (((jp [(la (de / 1) 1==1 - lv,0),(la (de / 2) 1==1 - lv,1),(la (de / 4) 1==1 - lv,2),(la (de / 8) 1==1 - lv,3),(la (de / 16) 1==1 - lv,4),(la (de / 32) 1==1 - lv,5),(la (de / 64) 1==1 - lv,6),(la (de / 128) 1==1 - lv,7),(la (de / 256) 1==1 - lv,8),(la (de / 512) 1==1 - lv,9),(la (de / 4096) 1==1 - lv,12),(la (de / 8192) 1==1 - lv,13),(la (de / 32768) 1==1 - lv,15)]).map V.int).length + ((jp [(la (li / 2) 1==1 - lv,2147483649),(la (li / 32) 1==1 - lv,2147483653),(la (li / 512) 1==1 - lv,2147483657)]).map V.int).length<=900) (.prop (j8 r (zBf sd x0 x1 de li x4 x5 lv r) (.ref 100034) ((100034,.list ((jp [(la (de / 1) 1==1 - lv,0),(la (de / 2) 1==1 - lv,1),(la (de / 4) 1==1 - lv,2),(la (de / 8) 1==1 - lv,3),(la (de / 16) 1==1 - lv,4),(la (de / 32) 1==1 - lv,5),(la (de / 64) 1==1 - lv,6),(la (de / 128) 1==1 - lv,7),(la (de / 256) 1==1 - lv,8),(la (de / 512) 1==1 - lv,9),(la (de / 4096) 1==1 - lv,12),(la (de / 8192) 1==1 - lv,13),(la (de / 32768) 1==1 - lv,15)]).map V.int++(jp [(la (li / 2) 1==1 - lv,2147483649),(la (li / 32) 1==1 - lv,2147483653),(la (li / 512) 1==1 - lv,2147483657)]).map V.int))::zEh sd x0 x1 de li x4 x5) 18))))) ?e ?h;case e=>kernel_rfl
 case h =>exact ⟨Nat.le_trans (Yl _) (Nat.le_of_ble_eq_true rfl),Nat.le_trans (Yl _) (Nat.le_of_ble_eq_true rfl),Nat.le_trans (Nat.add_le_add (Yl _) (Yl _)) (Nat.le_of_ble_eq_true rfl),zQ [100034,100000,100010,100012] rfl λt ht=>⟨jL (r++t) 100034,rfl,by rw [<- yB (r:=r) (t:=t) (o:=zEh sd x0 x1 de li x4 x5) (hr.symm▸YN (by kernel_rfl))];show (_,Ob.list (List.map (V.ren (r++t)) _))::_=_;rw [<- List.map_append,j2,show (jp [(la (de / 1) 1==1 - lv,0),(la (de / 2) 1==1 - lv,1),(la (de / 4) 1==1 - lv,2),(la (de / 8) 1==1 - lv,3),(la (de / 16) 1==1 - lv,4),(la (de / 32) 1==1 - lv,5),(la (de / 64) 1==1 - lv,6),(la (de / 128) 1==1 - lv,7),(la (de / 256) 1==1 - lv,8),(la (de / 512) 1==1 - lv,9),(la (de / 4096) 1==1 - lv,12),(la (de / 8192) 1==1 - lv,13),(la (de / 32768) 1==1 - lv,15)])=jp (causesL.map λs=>(jq de s==1 - lv,s)) from by kernel_rfl,show (jp [(la (li / 2) 1==1 - lv,2147483649),(la (li / 32) 1==1 - lv,2147483653),(la (li / 512) 1==1 - lv,2147483657)])=jp (linesL.map λs=>(jq li s==1 - lv,2147483648 + s)) from by kernel_rfl,Ji,Ji,List.map_id'];rfl⟩⟩
noncomputable def rdC (a:Addr):Rk (Wh×((Addr×Addr)×List Int)):=(rdW a).bind λw=>(rd2 w.rl).bind λq=>rdI q.1
theorem zMk (a:Addr):RkOk (rdC a) λx=>[(a,zGn x.1)]++([(x.1.rl,.list [.ref x.2.1.1,.ref x.2.1.2])]++[(x.2.1.1,.list (x.2.2.map V.int))]):=(zCl a).bind λw=>(V1 w.rl).bind λq=>zAO q.1
noncomputable def causesS:Spec:=λxs s K=>jS (two xs) λq=>jS q.1.ref? λa=>jS q.2.int? λlv=>jS (rdC a s.o) λp=>j3 p.1.2.2 λl=>gd (Nat.beq l.length 6) (s.mkK (.list ((jW (l.getD 2 0) (l.getD 3 0) lv).map V.int)) K)
theorem zIz {r:List Addr}{a q0 q1:Addr}{wh:Wh}{x0 x1 de li x4 x5:Int}:jC r ([(a,zGn wh)]++([(wh.rl,.list [.ref q0,.ref q1])]++[(q0,.list (([x0,x1,de,li,x4,x5]:List Int).map V.int))]))=jC [jL r a,jL r wh.m,jL r wh.nl,jL r wh.D,jL r wh.bs,jL r wh.rl,jL r q0,jL r q1] (zEh wh.side x0 x1 de li x4 x5):=by kernel_rfl
theorem zJA {a:Addr}{l:List Addr}{lv:Int}:([.ref 100000,.int lv]:List V).map (V.ren (a::l))=[.ref a,.int lv]:=rfl
theorem zCq:jh (Mine.KP.heap_1 w.params) mg mb 508 2 causesS:=λxs s K h W A r G R ok hx =>
 jE h λq e0 h=>jE h λa e1 h=>jE h λlv e2 h=>jE h λp e h=>j1 (jT h) λhl h=>by rw [yL e0,jg e1,jk e2];have tk:=zMk a s.o p e;have e6:p.1.2.2=[p.1.2.2.getD 0 0,p.1.2.2.getD 1 0,p.1.2.2.getD 2 0,p.1.2.2.getD 3 0,p.1.2.2.getD 4 0,p.1.2.2.getD 5 0]:=V5 (Nat.eq_of_beq_eq_true hl);have pp:=tk.p r;dsimp only at pp;rw [congrArg (List.map V.int) e6,zIz] at pp;have c:=zHC (w:=w) (mg:=mg) (mb:=mb) p.1.1.side (p.1.2.2.getD 0 0) (p.1.2.2.getD 1 0) (p.1.2.2.getD 2 0) (p.1.2.2.getD 3 0) (p.1.2.2.getD 4 0) (p.1.2.2.getD 5 0) lv [jL r a,jL r p.1.1.m,jL r p.1.1.nl,jL r p.1.1.D,jL r p.1.1.bs,jL r p.1.1.rl,jL r p.1.2.1.1,jL r p.1.2.1.2] rfl;rw [zJA] at c;refine Cl.post (Cl.use c G R (Nat.le_refl _) pp ?_);rintro _ _ ⟨t,rfl,rfl⟩;refine ⟨(t,.list ((jW (p.1.2.2.getD 2 0) (p.1.2.2.getD 3 0) lv).map V.int))::jC r s.o,List.Perm.cons _ pp.symm,?_⟩;have:=yR (ob:=.list ((jW (p.1.2.2.getD 2 0) (p.1.2.2.getD 3 0) lv).map V.int)) (l:=t) ok (λx hx=>by obtain ⟨i,_,rfl⟩:=List.mem_map.mp hx;exact trivial) h;rwa [show Ob.ren r (.list ((jW (p.1.2.2.getD 2 0) (p.1.2.2.getD 3 0) lv).map V.int)) = .list ((jW (p.1.2.2.getD 2 0) (p.1.2.2.getD 3 0) lv).map V.int) from congrArg Ob.list j2] at this
noncomputable def SPv:List (Addr×(Nat×Spec)):=(508,(2,causesS))::SPw
theorem zMl:∀ p ∈ SPv,jh (Mine.KP.heap_1 w.params) mg mb p.1 p.2.1 p.2.2:=zI zCq zAT
noncomputable def EV (w:World) (mg mb:Str->Option Value) (k:Nat) (op:List Addr):Est:=EX w mg mb k op [] SPv zMl
end
section
set_option linter.unusedVariables false
variable {w:World} {mg mb:Str->Option Value}
theorem zEi {a b c:jA}:Sel (a++(c++b)) ((a++b)++c):=Sel.of_perm (l':=[]) (by rw [List.append_nil,List.append_assoc];exact (List.perm_append_comm).append_left a)
theorem zDn {K:Frag}{kk k:Nat}{f:Value}{xs:List V}{o:jA}{side:Int}{N:jA}{wd bx sm:Addr}{X:Bx}{c:Int}(h:Ct K mg mb kk f xs o (za k side N wd)) (hB:BxI X c):Ct K mg mb kk f xs (o++jc bx sm X) (WEndB k side N wd bx sm c) :=
 h.frame λx o' q=>by
  induction q with
  | mk r xa xb L0 L1 c0 c1 M0 M1 N' hr hd hW hy ho =>
  subst ho;exact ⟨_,zEi,.mk r xa xb L0 L1 c0 c1 M0 M1 X N' hr hd hW hB hy rfl⟩
noncomputable def zMm (lv:Int) (M0 M1:List V):List V:=if lv=0 then M0 else M1
noncomputable def Mds (lv xa xb:Int) (M0 M1:List V):Prop:=(xa=0/\xb=0)\/(xa=1/\xb=1)\/(xa=YF lv/\xb=YG lv/\zMm lv M0 M1≠[])
theorem zMn {k:Nat}{side xa xb:Int}{L0 L1:Lv}{c0 c1:Cm}{M0 M1:List V}{N:jA}{lv cause value place:Int}(hl:lv=0\/lv=1) (hW:WOk k side xa xb L0 L1 c0 c1 M0 M1 N) (hb:Mds lv xa xb M0 M1) (hk:k<=800) (hm:cause ∈ jR c0 lv) (p0:0<=place/\place % 4=0) (p1:place < 4294967296) (r:List Addr) (hr:r.length=22) :
  Ct (Mine.KP.heap_1 w.params) mg mb 6 (.ref 513) [.ref (jJ r 0),.int lv,.int cause,.int value,.int place] (wF (jJ r) (zb side xa xb L0 L1 c0 c1 M0 M1)) (za (k + 1) side N (jJ r 0)):=by
 rcases hl with rfl | rfl
 ·exact zIt hW hb hk hm p0 p1 r hr
 ·exact zIu hW hb hk hm p0 p1 r hr
theorem zQC {r:List Addr}{bx sm:Addr}{t:List Addr}{is:List Int}(hr:r.length=22):(.ref 100000::is.map V.int:List V).map (V.ren (r++[bx,sm]++t)) = .ref (jJ r 0)::is.map V.int:=by rw [List.map_cons,j2,show V.ren (r++[bx,sm]++t) (.ref 100000) = .ref (jJ r 0) from congrArg V.ref (ZG hr)]
theorem zDo {r:List Addr}{bx sm:Addr}{e t:List Addr}{Y:Bx}{c:Int}(hr:r.length=22) (hB:BxI Y c):jC (r++bx::sm::e++t) (jc 100044 100046 Y)=jc bx sm Y:=by rw [yf hB,ZF hr,zCp hr]
theorem Qf {k n:Nat}{side xa xb c:Int}{L0 L1:Lv}{c0 c1:Cm}{M0 M1:List V}{N:jA}{lv cause value place:Int}{r ns:List Addr}{bx sm:Addr}{Y:Bx}{op:List Addr}(hr:r.length=22) (hns:ns.length=22) (hd:jJ ns 0=100000) (hl:lv=0\/lv=1) (hW:WOk k side xa xb L0 L1 c0 c1 M0 M1 N) (hb:Mds lv xa xb M0 M1) (hk:k<=800) (hm:cause ∈ jR c0 lv)
  (p0:0<=place/\place % 4=0) (p1:place < 4294967296) (hB:BxI Y c):ZX (EV w mg mb 7 op).dn (r++[bx,sm]) (WEndB (k + 1) side N (jJ r 0) bx sm c) 513 [.ref 100000,.int lv,.int cause,.int value,.int place] ns (zb side xa xb L0 L1 c0 c1 (M0.map jZ) (M1.map jZ)) (jc 100044 100046 Y) n :=
 .mk 6 (Nat.le_refl 6) λt _=>by have h:=zMn (w:=w) (mg:=mg) (mb:=mb) (value:=value) hl hW hb hk hm p0 p1 (ns.map (jL (r++[bx,sm]++t))) (by rw [List.length_map];exact hns);rw [Zi hr hd] at h;refine (zQC (is:=[lv,cause,value,place]) hr:([.ref 100000,.int lv,.int cause,.int value,.int place]:List V).map _=_)▸?_;exact Yk L0 L1 c0 c1 rfl jl jl (zDo hr hB) (zDn h hB)
theorem zJB {is:List Int}{k:Int}(h0:0<=k) (h1:k < is.length):yo (is.map V.int) k ∈ is:=by unfold yo;rw [List.getElem?_map,List.getElem?_eq_getElem (by omega)];exact List.getElem_mem _
theorem zHD {lv xa xb:Int}{M0 M1:List V}(h:(xa=0/\xb=0)\/(xa=1/\xb=1)):Mds lv xa xb M0 M1:=h.imp_right .inl
theorem zKm {d:Int}(h:0<=d/\d < 2):d=0\/d=1:=by omega
theorem zJC {d:Int}(h:0<=d/\d < 2):1 - d=0\/1 - d=1:=by omega
theorem zMo {is:List Int}(h:(is.map V.int).isEmpty=true):is=[]:=by induction is using List.casesOn with
 | nil=>rfl
 | cons _ _=>contradiction
theorem zEj {c:Cm}{d:Int}(h:0<=d/\d < 2) (q:((jW c.de c.li d).map V.int).isEmpty=true):jR c (1 - d)≠[]:=by
 have e:jR c d=[]:=zMo q;have f:=zB1 c;rcases zKm h with rfl | rfl
 ·exact f e
 ·exact λg=>f g e
theorem zBg {c:Cm}{d:Int}(q:((jW c.de c.li d).map V.int).isEmpty=false):jR c d≠[]:=λe=>by rw [show jW c.de c.li d=[] from e] at q;contradiction
noncomputable def frT (w:World) (mg mb:Str->Option Value) (k:Nat) (side xa xb:Int) (L0 L1:Lv) (c0 c1:Cm) (M0 M1:List V) (N:jA) (c:Int) (r:List Addr) (bx sm:Addr) (X:Bx) (lv:Int) (n:Nat):Tree:=.side ((((jW c0.de c0.li lv).map V.int)).length<=900) (.side (zX X ((((jW c0.de c0.li lv).map V.int).length:Nat):Int)) (.side (yC (((jW c0.de c0.li lv).map V.int)) (jF X ((((jW c0.de c0.li lv).map V.int).length:Nat):Int))) (.side (zX (jD X ((((jW c0.de c0.li lv).map V.int).length:Nat):Int)) 65536) (.side (IntMulOk (jF (jD X ((((jW c0.de c0.li lv).map V.int).length:Nat):Int)) 65536 + 1) 2654435761) (.side (zX (jD (jD X ((((jW c0.de c0.li lv).map V.int).length:Nat):Int)) 65536) 3) (.side (IntMulOk 4294967296 (jF (jD (jD X ((((jW c0.de c0.li lv).map V.int).length:Nat):Int)) 65536) 3 - 1)) (.side (zX (jD (jD (jD X ((((jW c0.de c0.li lv).map V.int).length:Nat):Int)) 65536) 3) 65536) (.side (IntMulOk (jF (jD (jD (jD X ((((jW c0.de c0.li lv).map V.int).length:Nat):Int)) 65536) 3) 65536 + 1) 2654435761) (.side (IntMulOk ((jF (jD (jD (jD X ((((jW c0.de c0.li lv).map V.int).length:Nat):Int)) 65536) 3) 65536 + 1) * 2654435761 % 4294967296 / 4) 4) (.prop (ZX (EV w mg mb 7 [100006,100008,100046,100050,100054]).dn (r++[bx,sm]) (WEndB (k + 1) side N (jJ r 0) bx sm c) 513 [.ref 100000,.int lv,.int (yo (((jW c0.de c0.li lv).map V.int)) (jF X ((((jW c0.de c0.li lv).map V.int).length:Nat):Int))),.int ((jF (jD X ((((jW c0.de c0.li lv).map V.int).length:Nat):Int)) 65536 + 1) * 2654435761 % 4294967296 + 4294967296 * (jF (jD (jD X ((((jW c0.de c0.li lv).map V.int).length:Nat):Int)) 65536) 3 - 1)),.int ((jF (jD (jD (jD X ((((jW c0.de c0.li lv).map V.int).length:Nat):Int)) 65536) 3) 65536 + 1) * 2654435761 % 4294967296 / 4 * 4)] [100000,100002,100004,100006,100008,100010,100012,100014,100016,100018,100020,100022,100024,100026,100028,100030,100032,100034,100036,100038,100040,100042] ⟨side,xa,xb,(L0.ints L0.x),(L0.ints L0.y),(L1.ints L1.x),(L1.ints L1.y),c0.ints,c1.ints,jM L0 L0.x L1 L1.x c0,jM L1 L1.y L0 L0.y c1,(M0.map jZ),(M1.map jZ)⟩ (jc 100044 100046 (jD (jD (jD (jD X ((((jW c0.de c0.li lv).map V.int).length:Nat):Int)) 65536) 3) 65536)) n)))))))))))
theorem Vh {k:Nat}{side xa xb:Int}{L0 L1:Lv}{c0 c1:Cm}{M0 M1:List V}{N:jA}{c:Int}{r:List Addr}{bx sm:Addr}{X:Bx}{lv:Int}{n:Nat}(hr:r.length=22) (hW:WOk k side xa xb L0 L1 c0 c1 M0 M1 N) (hk:k<=800) {b:Int}(hB:BxI X b) (hc:b<=99500) (hbc:b + 4<=c) (hl:lv=0\/lv=1) (hm:Mds lv xa xb M0 M1) (hne:jR c0 lv≠[]) :
  (frT w mg mb k side xa xb L0 L1 c0 c1 M0 M1 N c r bx sm X lv n).holds:=by
 have hz:((jW c0.de c0.li lv).map V.int).length<=16:=by rw [List.length_map];exact zAK c0 lv
 have hp:0 < ((jW c0.de c0.li lv).map V.int).length:=by rw [List.length_map];exact List.length_pos_iff.mpr hne
 unfold frT;have el:(((jW c0.de c0.li lv).map V.int).length:Int)=((jW c0.de c0.li lv).length:Int):=by rw [List.length_map]
 generalize hm0:(((jW c0.de c0.li lv).map V.int).length:Int)=m at *
 have m0:0 < m:=by omega
 have m1:m<=16:=by omega
 have d:=jG (X:=X) (m:=m) m0;have b1:=hB.next (m:=m) m0;have b2':=b1.next (m:=65536) (by decide);have b3':=b2'.next (m:=3) (by decide);have b4':=b3'.next (m:=65536) (by decide);have dl:jF X m < ((jW c0.de c0.li lv).length:Int):=el▸d.2;exact ⟨by omega,hB.tk (by omega) m0 (by omega),⟨_,rfl,by omega,d.1,dl⟩,b1.tk (by omega) (by decide) (by decide),J0 (by decide),b2'.tk (by omega) (by decide) (by decide),Zu (by decide),b3'.tk (by omega) (by decide) (by decide),J0 (by decide),J0 (by decide),
  Qf hr rfl rfl hl hW hm hk (zJB d.1 dl) ⟨by omega,by omega⟩ (by omega) (b4'.up (by omega))⟩
theorem Ym {k:Nat}{side xa xb:Int}{L0 L1:Lv}{c0 c1:Cm}{M0 M1:List V}{N:jA}{X:Bx}{c:Int}(hW:WOk k side xa xb L0 L1 c0 c1 M0 M1 N) (hk:k<=800) (hB:BxI X c) (hc:c<=99000) {lv:Int}(hl:lv=0\/lv=1) (hm:Mds lv xa xb M0 M1) (hne:jR c0 lv≠[]) (r:List Addr) (hr:r.length=22) (bx sm:Addr):Ct (Mine.KP.heap_1 w.params) mg mb 7 (.ref 520) [.ref bx,.ref (jJ r 0),.int lv] (wF (jJ r) (zb side xa xb L0 L1 c0 c1 M0 M1)++jc bx sm X) (WEndB (k + 1) side N (jJ r 0) bx sm (c + 5)):=by rw [<- Jh hr hB];rw [show [.ref bx,.ref (jJ r 0),.int lv]=([.ref 100044,.ref 100000,.int lv]:List V).map (V.ren (r++[bx,sm])) from (ZZ (bx:=bx) (sm:=sm) (l:=[.int lv]) hr).symm];exact yD (E:=(EV w mg mb 7 [100006,100008,100046,100050,100054])) (r:=(r++[bx,sm])) (f:=520) (Q:=WEndB (k + 1) side N (jJ r 0) bx sm (c + 5)) 100000 [100044,100046] (xs:=[.ref 100044,.ref 100000,.int lv]) (o:=(wL side xa xb L0 L1 c0 c1 M0 M1++jc 100044 100046 X)) (n0:=24) (n:=60) (zD9 w mg mb).2 (ZY hr hB) (zP rfl) rfl (T:=frT w mg mb k side xa xb L0 L1 c0 c1 M0 M1 N (c + 5) r bx sm X lv 29) (by kernel_rfl) (Vh hr hW hk hB (by omega) (by omega) hl hm hne)
theorem JG {k:Nat}{side xa xb:Int}{L0 L1:Lv}{c0 c1:Cm}{M0 M1:List V}{N:jA}{X:Bx}{c:Int}(hW:WOk k side xa xb L0 L1 c0 c1 M0 M1 N) (hk:k<=800) (hB:BxI X c) (hc:c<=99000) (hm:(xa=0/\xb=0)\/(xa=1/\xb=1)) (r:List Addr) (hr:r.length=22) (bx sm:Addr):Ct (Mine.KP.heap_1 w.params) mg mb 7 (.ref 520) [.ref bx,.ref (jJ r 0),.none] (wF (jJ r) (zb side xa xb L0 L1 c0 c1 M0 M1)++jc bx sm X) (WEndB (k + 1) side N (jJ r 0) bx sm (c + 5)):=by rw [<- Jh hr hB];rw [show [.ref bx,.ref (jJ r 0),.none]=([.ref 100044,.ref 100000,.none]:List V).map (V.ren (r++[bx,sm])) from (ZZ (bx:=bx) (sm:=sm) (l:=[.none]) hr).symm];exact yD (E:=(EV w mg mb 7 [100006,100008,100046,100050,100054])) (r:=(r++[bx,sm])) (f:=520) (Q:=WEndB (k + 1) side N (jJ r 0) bx sm (c + 5)) 100000 [100044,100046] (xs:=[.ref 100044,.ref 100000,.none]) (o:=(wL side xa xb L0 L1 c0 c1 M0 M1++jc 100044 100046 X)) (n0:=24) (n:=60) (zD9 w mg mb).2 (ZY hr hB) (zP rfl) rfl (T:=.side (zX X 2) (.side (QO ((jW c0.de c0.li (jF X 2)).map V.int)) (.br ((jW c0.de c0.li (jF X 2)).map V.int).isEmpty (frT w mg mb k side xa xb L0 L1 c0 c1 M0 M1 N (c + 5) r bx sm (jD X 2) (1 - jF X 2) 31) (frT w mg mb k side xa xb L0 L1 c0 c1 M0 M1 N (c + 5) r bx sm (jD X 2) (jF X 2) 31)))) (by kernel_rfl) (ZE (C:=True) (λ_=>hB.tk (by omega) (by decide) (by decide)) (ZE (λ_=>⟨_,rfl⟩) (YR (λq=>Vh hr hW hk (hB.next (by decide)) (by omega) (by omega) (zJC (jG (by decide))) (zHD hm) (zEj (jG (by decide)) q.2)) (λq=>Vh hr hW hk (hB.next (by decide)) (by omega) (by omega) (zKm (jG (by decide))) (zHD hm) (zBg q.2)))) trivial)
end
section
set_option linter.unusedVariables false
variable {w:World} {mg mb:Str->Option Value}
noncomputable def yV (b:Bool) (z:Int):List (Bool×Int):=[(b&&la (z / 512) 1==1,2147483657),(b&&la (z / 2) 1==1,2147483649),(b&&la (z / 32) 1==1,2147483653)]
noncomputable def zAY (b:Bool) (z:Int):List Int:=if b=true then YO z else []
theorem zJD (b:Bool) (z:Int):jp (yV b z)=(zAY b z).map λs=>2147483648 + s:=by
 cases b
 ·rfl
 ·exact (show jp (yV true z)=jp (([9,1,5]:List Int).map λs=>(jq z s==1,2147483648 + s)) from by kernel_rfl).trans (Ji _)
theorem zJE (b:Bool) (z:Int):(zAY b z).length<=3:=by
 unfold zAY YO;cases b
 ·exact Nat.zero_le _
 ·exact List.length_filter_le _ _
structure zJF (side xa xb:Int) (L0 L1:Lv) (c0 c1:Cm) (b:Bool):Prop where
 ha:xa=0\/xa=1\/xa=3
 hb:xb=0\/xb=1\/xb=3
 p0:yG (jM L0 L0.x L1 L1.x c0) xa=yZ (zAY b (la c0.en c0.wa))
 p1:yG (jM L1 L1.y L0 L0.y c1) xb=yZ (zAY b (la c0.en c0.wa))
theorem Jw {S M:Lv}{sx mx m:Int}{c:Cm}(h:Z4 S sx M mx c):yG (jM S sx M mx c) m=jm c.wa c.en c.li m (S.l==1) (M.l==1):=by obtain ⟨e1,e2⟩:=zIG h.sl h.sa h.sx h.ml h.ma h.mx h.r;unfold yG;show jm c.wa c.en c.li m (la (zw S.l S.a sx M.l M.a mx c.r) 2 != 0) (la (zw S.l S.a sx M.l M.a mx c.r) 8 != 0)=_;rw [e1,e2]
theorem Jx {b:Bool}{z:Int}:yZ (zAY b z)=if b=true then yZ (YO z) else .none:=by cases b<;>rfl
section
variable {k:Nat} {side xa xb:Int} {L0 L1:Lv} {c0 c1:Cm} {M0 M1:List V} {N:jA}
theorem Lok.sides (h:Lok side c0 c1):side=0\/side=1:=h.li.imp And.left And.left
theorem Lok.caused (h:Lok side c0 c1):∀ s ∈ YO (la c0.en c0.wa),2147483648 + s ∈ jR c0 side:=λs hs=>by
 obtain ⟨m,e1,e2⟩:=zG8 h.wa h.en hs;unfold jR;refine List.mem_append_right _ (List.mem_map.mpr ⟨s,List.mem_filter.mpr ⟨m,?_⟩,rfl⟩);rcases h.li with ⟨rfl,e,_⟩ | ⟨rfl,e,_⟩
 ·rw [e,e1];rfl
 ·rw [e,e2];rfl
theorem zMp (h:WOk k side 0 0 L0 L1 c0 c1 M0 M1 N):zJF side 0 0 L0 L1 c0 c1 true:=by
 have f:=YP h.lok.wa h.lok.en;refine ⟨.inl rfl,.inl rfl,?_,?_⟩
 ·rw [Jw (JT h.o0 h.o1 h.r0),Jx];rcases h.lok.li with ⟨_,e,_⟩ | ⟨_,e,_⟩<;>rw [e]
  ·exact (f _ _).1
  ·exact (f _ _).2.1
 ·rw [Jw (JU h.o0 h.o1 h.r1),Jx,h.lok.wa1,h.lok.en1];rcases h.lok.li with ⟨_,_,e⟩ | ⟨_,_,e⟩<;>rw [e]
  ·exact (f _ _).2.1
  ·exact (f _ _).1
theorem zMq (h:WOk k 0 1 3 L0 L1 c0 c1 M0 M1 N):zJF 0 1 3 L0 L1 c0 c1 (L0.l==1):=by
 have f:=YP h.lok.wa h.lok.en;obtain ⟨e,e'⟩ : c0.li=c0.en/\c1.li=546 - c0.en:=h.lok.li.elim And.right λq=>absurd q.1 (by decide);refine ⟨.inr (.inl rfl),.inr (.inr rfl),?_,?_⟩
 ·rw [Jw (JT h.o0 h.o1 h.r0),Jx,e];exact (f _ _).2.2.1
 ·rw [Jw (JU h.o0 h.o1 h.r1),Jx,h.lok.wa1,h.lok.en1,e'];exact (f _ _).2.2.2
theorem zMr (h:WOk k 1 3 1 L0 L1 c0 c1 M0 M1 N):zJF 1 3 1 L0 L1 c0 c1 (L1.l==1):=by
 have f:=YP h.lok.wa h.lok.en;obtain ⟨e,e'⟩ : c0.li=546 - c0.en/\c1.li=c0.en:=h.lok.li.elim (λq=>absurd q.1 (by decide)) And.right;refine ⟨.inr (.inr rfl),.inr (.inl rfl),?_,?_⟩
 ·rw [Jw (JT h.o0 h.o1 h.r0),Jx,e];exact (f _ _).2.2.2
 ·rw [Jw (JU h.o0 h.o1 h.r1),Jx,h.lok.wa1,h.lok.en1,e'];exact (f _ _).2.2.1
end
noncomputable def zHE (w:World) (mg mb:Str->Option Value) (k:Nat) (side xa xb:Int) (L0 L1:Lv) (c0 c1:Cm) (M0 M1:List V) (N:jA) (c:Int) (r:List Addr) (bx sm:Addr) (X:Bx) (b:Bool):Tree:=.side (xa=0\/xa=1\/xa=3) (.br (yG (jM L0 L0.x L1 L1.x c0) xa).isNone (.side (xb=0\/xb=1\/xb=3) (.br (yG (jM L1 L1.y L0 L0.y c1) xb).isNone (.side (QO (List.map V.int (jp (yV b (la c0.en c0.wa))))) (.br (List.map V.int (jp (yV b (la c0.en c0.wa)))).isEmpty (.prop (jv (r++[bx,sm]) (WEndB (k + 1) side N (jJ r 0) bx sm (c + 5)) (.bool Bool.true) [100000,100002,100004,100006,100008,100010,100012,100014,100016,100018,100020,100022,100024,100026,100028,100030,100032,100034,100036,100038,100040,100042] ⟨side,xa,xb,(L0.ints L0.x),(L0.ints L0.y),(L1.ints L1.x),(L1.ints L1.y),c0.ints,c1.ints,jM L0 L0.x L1 L1.x c0,jM L1 L1.y L0 L0.y c1,(M0.map jZ),(M1.map jZ)⟩ (jc 100044 100046 X) 39)) (.side (yC (List.map V.int (jp (yV b (la c0.en c0.wa)))) 0) (.side (yC (List.map V.int (jp (yV b (la c0.en c0.wa)))) 0) .fail)))) (.side (QO (List.map V.int (jp (yV b (la c0.en c0.wa))))) (.br (List.map V.int (jp (yV b (la c0.en c0.wa)))).isEmpty .fail (.side (yC (List.map V.int (jp (yV b (la c0.en c0.wa)))) 0) (.side (yC (List.map V.int (jp (yV b (la c0.en c0.wa)))) 0) .fail)))))) (.side (xb=0\/xb=1\/xb=3) (.br (yG (jM L1 L1.y L0 L0.y c1) xb).isNone (.side (QO (List.map V.int (jp (yV b (la c0.en c0.wa))))) (.br (List.map V.int (jp (yV b (la c0.en c0.wa)))).isEmpty .fail (.side (yC (List.map V.int (jp (yV b (la c0.en c0.wa)))) 0) (.side (yC (List.map V.int (jp (yV b (la c0.en c0.wa)))) 0) (.br ((PyData.list [PyData.int (yG (jM L0 L0.x L1 L1.x c0) xa).num,PyData.none]).eqv (PyData.list [PyData.int (yo (List.map V.int (jp (yV b (la c0.en c0.wa)))) 0),PyData.int (yo (List.map V.int (jp (yV b (la c0.en c0.wa)))) 0)])) (.side (yC (List.map V.int (jp (yV b (la c0.en c0.wa)))) 0) (.side (zX X 65536) (.side (IntMulOk (jF X 65536 + 1) 2654435761) (.side (IntMulOk ((jF X 65536 + 1) * 2654435761 % 4294967296 / 4) 4) (.prop (ZX (EV w mg mb 7 [100006,100008,100046,100064]).dn (r++[bx,sm]) (WEndB (k + 1) side N (jJ r 0) bx sm (c + 5)) 513 [.ref 100000,.int side,.int (yo (List.map V.int (jp (yV b (la c0.en c0.wa)))) 0),.int 0,.int ((jF X 65536 + 1) * 2654435761 % 4294967296 / 4 * 4)] [100000,100002,100004,100006,100008,100010,100012,100014,100016,100018,100020,100022,100024,100026,100028,100030,100032,100034,100036,100038,100040,100042] ⟨side,xa,xb,(L0.ints L0.x),(L0.ints L0.y),(L1.ints L1.x),(L1.ints L1.y),c0.ints,c1.ints,jM L0 L0.x L1 L1.x c0,jM L1 L1.y L0 L0.y c1,(M0.map jZ),(M1.map jZ)⟩ (jc 100044 100046 (jD X 65536)) 40)))))) .fail))))) (.side (QO (List.map V.int (jp (yV b (la c0.en c0.wa))))) (.br (List.map V.int (jp (yV b (la c0.en c0.wa)))).isEmpty .fail (.side (yC (List.map V.int (jp (yV b (la c0.en c0.wa)))) 0) (.side (yC (List.map V.int (jp (yV b (la c0.en c0.wa)))) 0) (.br ((PyData.list [PyData.int (yG (jM L0 L0.x L1 L1.x c0) xa).num,PyData.int (yG (jM L1 L1.y L0 L0.y c1) xb).num]).eqv (PyData.list [PyData.int (yo (List.map V.int (jp (yV b (la c0.en c0.wa)))) 0),PyData.int (yo (List.map V.int (jp (yV b (la c0.en c0.wa)))) 0)])) (.side (yC (List.map V.int (jp (yV b (la c0.en c0.wa)))) 0) (.side (zX X 65536) (.side (IntMulOk (jF X 65536 + 1) 2654435761) (.side (IntMulOk ((jF X 65536 + 1) * 2654435761 % 4294967296 / 4) 4) (.prop (ZX (EV w mg mb 7 [100006,100008,100046,100064]).dn (r++[bx,sm]) (WEndB (k + 1) side N (jJ r 0) bx sm (c + 5)) 513 [.ref 100000,.int side,.int (yo (List.map V.int (jp (yV b (la c0.en c0.wa)))) 0),.int 0,.int ((jF X 65536 + 1) * 2654435761 % 4294967296 / 4 * 4)] [100000,100002,100004,100006,100008,100010,100012,100014,100016,100018,100020,100022,100024,100026,100028,100030,100032,100034,100036,100038,100040,100042] ⟨side,xa,xb,(L0.ints L0.x),(L0.ints L0.y),(L1.ints L1.x),(L1.ints L1.y),c0.ints,c1.ints,jM L0 L0.x L1 L1.x c0,jM L1 L1.y L0 L0.y c1,(M0.map jZ),(M1.map jZ)⟩ (jc 100044 100046 (jD X 65536)) 40)))))) .fail))))))))
theorem ZH {k:Nat}{side xa xb:Int}{L0 L1:Lv}{c0 c1:Cm}{M0 M1:List V}{N:jA}{X:Bx}{c:Int}(hW:WOk k side xa xb L0 L1 c0 c1 M0 M1 N) (hk:k<=800) (hB:BxI X c) (hc:c<=99000) {r:List Addr}{bx sm:Addr}{b:Bool}(hr:r.length=22) (hs:side=0\/side=1) (hm:Mds side xa xb M0 M1) (hp:zJF side xa xb L0 L1 c0 c1 b) (hd:∀ s ∈ YO (la c0.en c0.wa),2147483648 + s ∈ jR c0 side):(zHE w mg mb k side xa xb L0 L1 c0 c1 M0 M1 N c r bx sm X b).holds:=by
 have hl:∀ s ∈ zAY b (la c0.en c0.wa),2147483648 + s ∈ jR c0 side:=by
  unfold zAY;cases b
  ·exact λ_ h=>absurd h List.not_mem_nil
  ·exact hd
 have h3:=zJE b (la c0.en c0.wa);unfold zHE;rw [hp.p0,hp.p1,zJD];generalize zAY b (la c0.en c0.wa)=D at hl h3 ⊢;induction D using List.casesOn with
 | nil=>exact ⟨hp.ha,jy rfl ⟨hp.hb,jy rfl ⟨⟨_,rfl⟩,jy rfl (zGz hr L0 L1 c0 c1 rfl rfl rfl (hW.up (Nat.le_succ _)) (hB.up (by omega))).q⟩⟩⟩
 | cons s D =>
  have ia:yC (List.map V.int ((s::D).map λs=>2147483648 + s)) 0:=⟨_,rfl,by rw [List.length_map,List.length_map];exact Nat.le_trans h3 (by decide),by decide,by rw [List.length_map];exact Int.natCast_pos.mpr (Nat.succ_pos _)⟩;exact ⟨hp.ha,ZB rfl ⟨hp.hb,ZB rfl ⟨⟨_,rfl⟩,ZB rfl ⟨ia,ia,jy (zAV rfl) ⟨ia,hB.tk (by omega) (by decide) (by decide),J0 (by decide),J0 (by decide),
   Qf (cause:=2147483648 + s) hr rfl rfl hs hW hm hk (hl s (.head _)) ⟨by omega,by omega⟩ (by omega) ((hB.next (by decide)).up (by omega))⟩⟩⟩⟩⟩
theorem zHF {k:Nat}{side xa xb:Int}{L0 L1:Lv}{c0 c1:Cm}{M0 M1:List V}{N:jA}{X:Bx}{c:Int}(hW:WOk k side xa xb L0 L1 c0 c1 M0 M1 N) (hk:k<=800) (hB:BxI X c) (hc:c<=99000) (hx:(xa=0/\xb=0)\/(side=0/\xa=1/\xb=3/\M0≠[])\/(side=1/\xa=3/\xb=1/\M1≠[])) (r:List Addr) (hr:r.length=22) (bx sm:Addr):Ct (Mine.KP.heap_1 w.params) mg mb 7 (.ref 525) [.ref bx,.ref (jJ r 0)] (wF (jJ r) (zb side xa xb L0 L1 c0 c1 M0 M1)++jc bx sm X) (WEndB (k + 1) side N (jJ r 0) bx sm (c + 5)):=by
 rw [<- Jh hr hB];rw [show [.ref bx,.ref (jJ r 0)]=([.ref 100044,.ref 100000]:List V).map (V.ren (r++[bx,sm])) from (ZZ (bx:=bx) (sm:=sm) (l:=[]) hr).symm];refine yD (E:=(EV w mg mb 7 [100006,100008,100046,100064])) (r:=(r++[bx,sm])) (f:=525) (Q:=WEndB (k + 1) side N (jJ r 0) bx sm (c + 5)) 100000 [100044,100046] (xs:=[.ref 100044,.ref 100000]) (o:=(wL side xa xb L0 L1 c0 c1 M0 M1++jc 100044 100046 X)) (n0:=24) (n:=60) (zG1 w mg mb).2 (ZY hr hB) (zP rfl) rfl (T:=.br ((PyData.tuple [PyData.int xa,PyData.int xb]).eqv (PyData.tuple [PyData.int 0,PyData.int 0])) (zHE w mg mb k side xa xb L0 L1 c0 c1 M0 M1 N c r bx sm X ((PyData.tuple [PyData.int xa,PyData.int xb]).eqv (PyData.tuple [PyData.int 0,PyData.int 0]))) (.br (side==0) (zHE w mg mb k side xa xb L0 L1 c0 c1 M0 M1 N c r bx sm X (L0.l==1)) (.br (side==1) (zHE w mg mb k side xa xb L0 L1 c0 c1 M0 M1 N c r bx sm X (L1.l==1)) .fail))) (by kernel_rfl) ?h;have hs:=hW.lok.sides;have hd:=hW.lok.caused;rcases hx with ⟨rfl,rfl⟩ | ⟨rfl,rfl,rfl,hn⟩ | ⟨rfl,rfl,rfl,hn⟩
 ·exact jy rfl (ZH hW hk hB hc hr hs (.inl ⟨rfl,rfl⟩) (zMp hW) hd)
 ·exact ZB rfl (jy rfl (ZH hW hk hB hc hr hs (.inr (.inr ⟨rfl,rfl,hn⟩)) (zMq hW) hd))
 ·exact ZB rfl (ZB rfl (jy rfl (ZH hW hk hB hc hr hs (.inr (.inr ⟨rfl,rfl,hn⟩)) (zMr hW) hd)))
end
section
set_option linter.unusedVariables false
variable {w:World} {mg mb:Str->Option Value}
theorem Ct.perm {K:Frag}{k:Nat}{f:Value}{xs:List V}{o o₂:jA}{Q:V->jA->Prop}(c:Ct K mg mb k f xs o Q) (p:o₂.Perm o):Ct K mg mb k f xs o₂ Q:=λ_ _ G R =>
 c.cc G R (Nat.le_refl _) (o₂:=[]) (by rw [List.append_nil];exact p) λx o' q=>⟨o',by rw [List.append_nil];exact zH,q⟩
theorem Ct.mono' {K:Frag}{k:Nat}{f:Value}{xs:List V}{o:jA}{Q Q':V->jA->Prop}(c:Ct K mg mb k f xs o Q) (h:∀ x o',Q x o'->Q' x o'):Ct K mg mb k f xs o Q':=λ_ _ G R =>
 c.cc G R (Nat.le_refl _) (o₂:=[]) (by rw [List.append_nil]) λx o' q=>⟨o',by rw [List.append_nil];exact zH,h _ _ q⟩
theorem WEndB.up {k k':Nat}{side:Int}{N:jA}{wd bx sm:Addr}{c c':Int}{y:V}{o:jA}(h:WEndB k side N wd bx sm c y o) (hk:k<=k') (hc:c<=c'):WEndB k' side N wd bx sm c' y o:=by
 induction h with
 | mk r xa xb L0 L1 c0 c1 M0 M1 X N' hr hd hW hB hy ho=>exact .mk r xa xb L0 L1 c0 c1 M0 M1 X N' hr hd (hW.up hk) (hB.up hc) hy ho
theorem Jj {K:Frag}{kk k:Nat}{f:Value}{xs:List V}{o n:jA}{side:Int}{N:jA}{wd bx sm:Addr}{c:Int}(h:Ct K mg mb kk f xs o (WEndB k side (n++N) wd bx sm c)):Ct K mg mb kk f xs (o++n) (WEndB k side N wd bx sm c) :=
 h.frame λx o' q=>by
  induction q with
  | mk r xa xb L0 L1 c0 c1 M0 M1 X N' hr hd hW hB hy ho =>
  subst ho;exact ⟨_,zH,.mk r xa xb L0 L1 c0 c1 M0 M1 X (N'++n) hr hd (by rw [List.append_assoc];exact hW) hB hy (by rw [List.append_assoc,List.append_assoc])⟩
noncomputable def OPd:List Addr:=[100006,100008,100046]
noncomputable def dT (w:World) (mg mb:Str->Option Value) (r:List Addr) (bx sm:Addr) (e:List Addr) (Q:V->jA->Prop) (side xa xb:Int) (L0 L1:Lv) (c0 c1:Cm) (M0 M1:List V) (o:jA) (n:Nat) (g:Addr) (args:List V):Tree :=
 .prop (ZX (EV w mg mb 8 OPd).dn (r++bx::sm::e) Q g args [100000,100002,100004,100006,100008,100010,100012,100014,100016,100018,100020,100022,100024,100026,100028,100030,100032,100034,100036,100038,100040,100042] (zb side xa xb L0 L1 c0 c1 (M0.map jZ) (M1.map jZ)) o n)
section
variable {r e:List Addr} {bx sm g:Addr} {side xa xb c c' b:Int} {L0 L1:Lv} {c0 c1:Cm} {M0 M1:List V} {X:Bx} {N nt nt':jA} {k k' n kk:Nat} {l:List V}
theorem QC (hr:r.length=22) (hB:BxI X b) (hn:∀ t,jC (r++bx::sm::e++t) nt'=nt) (hk:kk<=7) (hkk:k'<=k) (hcc:c'<=c) (hl:∀ R,l.map (V.ren R)=l)
  (h:∀ r':List Addr,r'.length=22->Ct (Mine.KP.heap_1 w.params) mg mb kk (.ref g) (.ref bx::.ref (jJ r' 0)::l) (wF (jJ r') (zb side xa xb L0 L1 c0 c1 M0 M1)++jc bx sm X) (WEndB k' side (nt++N) (jJ r' 0) bx sm c')) :
  (dT w mg mb r bx sm e (WEndB k side N (jJ r 0) bx sm c) side xa xb L0 L1 c0 c1 M0 M1 (jc 100044 100046 X++nt') n g (.ref 100044::.ref 100000::l)).holds :=
 .mk kk hk λt _=>by have h:=h (([100000,100002,100004,100006,100008,100010,100012,100014,100016,100018,100020,100022,100024,100026,100028,100030,100032,100034,100036,100038,100040,100042]:List Addr).map (jL (r++bx::sm::e++t))) rfl;rw [Zi hr rfl] at h;rw [List.map_cons,List.map_cons,hl,show V.ren (r++bx::sm::e++t) (.ref 100044) = .ref bx from congrArg V.ref (ZF hr),show V.ren (r++bx::sm::e++t) (.ref 100000) = .ref (jJ r 0) from congrArg V.ref (ZG hr)];refine Yk L0 L1 c0 c1 rfl jl jl (o':=jc bx sm X++nt) (by rw [ji,zDo hr hB,hn]) ?_;rw [<- List.append_assoc];exact (Jj h).mono' λ_ _ q=>q.up hkk hcc
theorem t_w (hr:r.length=22) (hB:BxI X b) (hn:∀ t,jC (r++bx::sm::e++t) nt'=nt) (hk:kk<=7) (hkk:k'<=k) (hcc:b<=c) (hl:∀ R,l.map (V.ren R)=l)
  (h:∀ r':List Addr,r'.length=22->Ct (Mine.KP.heap_1 w.params) mg mb kk (.ref g) (.ref (jJ r' 0)::l) (wF (jJ r') (zb side xa xb L0 L1 c0 c1 M0 M1)++nt) (za k' side N (jJ r' 0))) :
  (dT w mg mb r bx sm e (WEndB k side N (jJ r 0) bx sm c) side xa xb L0 L1 c0 c1 M0 M1 (jc 100044 100046 X++nt') n g (.ref 100000::l)).holds :=
 .mk kk hk λt _=>by have h:=h (([100000,100002,100004,100006,100008,100010,100012,100014,100016,100018,100020,100022,100024,100026,100028,100030,100032,100034,100036,100038,100040,100042]:List Addr).map (jL (r++bx::sm::e++t))) rfl;rw [Zi hr rfl] at h;rw [List.map_cons,hl,show V.ren (r++bx::sm::e++t) (.ref 100000) = .ref (jJ r 0) from congrArg V.ref (ZG hr)];refine Yk L0 L1 c0 c1 rfl jl jl (o':=jc bx sm X++nt) (by rw [ji,zDo hr hB,hn]) ?_;exact ((zDn (bx:=bx) (sm:=sm) h hB).perm (by rw [List.append_assoc];exact List.perm_append_comm.append_left _)).mono' λ_ _ q=>q.up hkk hcc
end
theorem Jk {r:List Addr}{a b:Addr}(hr:r.length=22):jJ (r++[a,b]) 22=a:=by have:=y7 (r:=r) (l:=[a,b]) (k:=0);rw [hr] at this;exact this
theorem ZI {r:List Addr}{a b:Addr}(hr:r.length=22):jJ (r++[a,b]) 23=b:=by have:=y7 (r:=r) (l:=[a,b]) (k:=1);rw [hr] at this;exact this
theorem zBh {r:List Addr}{a b:Addr}(hr:r.length=22):jJ (r++[a,b]) 0=jJ r 0:=zDl (hr▸by decide)
section
variable {k:Nat} {side xa xb place lt x y:Int} {L0 L1:Lv} {c0 c1:Cm} {M0 M1:List V} {N:jA} {t m:Addr} {r:List Addr}
theorem WOk.m00 (h:WOk k side xa xb L0 L1 c0 c1 M0 M1 N):WOk k side 0 0 L0 L1 c0 c1 M0 M1 N:=⟨h.o0,h.o1,h.r0,h.r1,h.mir,h.lok,.inl ⟨rfl,rfl⟩,h.e0,h.e1⟩
structure Top (lv:Int) (t m:Addr) (place lt x y:Int) (M:List V):Prop where
 lt:lt ∈ b2
 p:0<=place/\place % 4=0
 p1:place < 4294967296
 xy:(x=0/\y=0)\/(x=1/\y=1)\/(x=YF lv/\y=YG lv/\M≠[])
theorem Vi (hr:r.length=22) (hW:WOk k side 0 0 L0 L1 c0 c1 M0 M1 (yv t m place lt x y++N)) (hk:k<=800) (hT:Top 0 t m place lt x y M0) (hc:jR c0 0≠[]) :
  Ct (Mine.KP.heap_1 w.params) mg mb 7 (.ref 551) [.ref (jJ r 0),.int 0] (wF (jJ r) (zb side xa xb L0 L1 c0 c1 (M0++[.ref t]) M1)++yv t m place lt x y) (za k side N (jJ r 0)):=by
 have h:=zIv (w:=w) (mg:=mg) (mb:=mb) (k:=k) (side:=side) (xa:=xa) (xb:=xb) (L0:=L0) (L1:=L1) (c0:=c0) (c1:=c1) (M0:=M0) (M1:=M1) (N:=N) (place:=place) (lt:=lt) (x:=x) (y:=y) (r++[t,m]) (zGy hr) (by rw [Jk hr,ZI hr];exact hW) hk hT.lt hT.p hT.p1 hT.xy hc;rwa [Jk hr,ZI hr,zBh hr,YS hr] at h
theorem Vj (hr:r.length=22) (hW:WOk k side 0 0 L0 L1 c0 c1 M0 M1 (yv t m place lt x y++N)) (hk:k<=800) (hT:Top 1 t m place lt x y M1) (hc:jR c0 1≠[]) :
  Ct (Mine.KP.heap_1 w.params) mg mb 7 (.ref 551) [.ref (jJ r 0),.int 1] (wF (jJ r) (zb side xa xb L0 L1 c0 c1 M0 (M1++[.ref t]))++yv t m place lt x y) (za k side N (jJ r 0)):=by
 have h:=zIw (w:=w) (mg:=mg) (mb:=mb) (k:=k) (side:=side) (xa:=xa) (xb:=xb) (L0:=L0) (L1:=L1) (c0:=c0) (c1:=c1) (M0:=M0) (M1:=M1) (N:=N) (place:=place) (lt:=lt) (x:=x) (y:=y) (r++[t,m]) (zGy hr) (by rw [Jk hr,ZI hr];exact hW) hk hT.lt hT.p hT.p1 hT.xy hc;rwa [Jk hr,ZI hr,zBh hr,YS hr] at h
end
noncomputable def Z1 (place lt x y:Int):jA:=[(100048,.tup [.ref 100050,.int place,.int lt]),(100050,.tup [.int x,.int y])]
section
variable {r:List Addr} {bx sm t m:Addr} {side xa xb c place lt x y:Int} {L0 L1:Lv} {c0 c1:Cm} {M0 M1:List V} {X:Bx}
theorem jo (hr:r.length=22) {u:List Addr}:jC (r++bx::sm::[t,m]++u) (Z1 place lt x y)=yv t m place lt x y:=by
 have h:(r++bx::sm::[t,m]).length=26:=by rw [List.length_append,hr];rfl
 show yv (jL _ (nm 24)) (jL _ (nm 25)) place lt x y=_;have e1:=y7 (r:=r) (l:=bx::sm::[t,m]) (k:=2);have e2:=y7 (r:=r) (l:=bx::sm::[t,m]) (k:=3);rw [hr] at e1 e2;rw [jn h (by decide),jn h (by decide),show jJ (r++bx::sm::[t,m]) 24=t from e1,show jJ (r++bx::sm::[t,m]) 25=m from e2]
theorem zHG (hr:r.length=22) (hB:BxI X c):jC (r++bx::sm::[t,m]) (wL side xa xb L0 L1 c0 c1 M0 M1++(jc 100044 100046 X++Z1 place lt x y))=wF (jJ r) (zb side xa xb L0 L1 c0 c1 M0 M1)++(jc bx sm X++yv t m place lt x y):=by have h1:=zDo (e:=[t,m]) (t:=[]) (bx:=bx) (sm:=sm) hr hB;have h2:=jo (bx:=bx) (sm:=sm) (t:=t) (m:=m) (place:=place) (lt:=lt) (x:=x) (y:=y) hr (u:=[]);rw [List.append_nil] at h1 h2;rw [ji,ji,yg,YS hr,h1,h2]
theorem zKn (hr:r.length=22) (hB:BxI X c):SS.ok (r++bx::sm::[t,m]) ⟨wL side xa xb L0 L1 c0 c1 M0 M1++(jc 100044 100046 X++Z1 place lt x y),[],26⟩ :=
 ⟨by rw [List.length_append,hr];rfl,λp hp=>(List.mem_append.mp hp).elim (Q9 (n:=26) (by decide) p) λhp=>(List.mem_append.mp hp).elim (Yj (n:=26) hB (wfB_h rfl) (wfB_h rfl) p) (YN (n:=26) (o:=Z1 place lt x y) rfl p),λ_ h=>absurd h List.not_mem_nil⟩
theorem zKo {e:List Addr}{l:List V}(hr:r.length=22):(.ref 100044::.ref 100000::l:List V).map (V.ren (r++bx::sm::e)) = .ref bx::.ref (jJ r 0)::l.map (V.ren (r++bx::sm::e)):=by have h1:=ZF (bx:=bx) (sm:=sm) (e:=e) (t:=[]) hr;have h2:=ZG (bx:=bx) (sm:=sm) (e:=e) (t:=[]) hr;rw [List.append_nil] at h1 h2;rw [List.map_cons,List.map_cons,show V.ren (r++bx::sm::e) (.ref 100044) = .ref bx from congrArg V.ref h1,show V.ren (r++bx::sm::e) (.ref 100000) = .ref (jJ r 0) from congrArg V.ref h2]
end
theorem zHH {k:Nat}{side way:Int}{L0 L1:Lv}{c0 c1:Cm}{M0 M1:List V}{N:jA}{X:Bx}{c:Int}(hW:WOk k side 0 0 L0 L1 c0 c1 M0 M1 N) (hk:k<=800) (hB:BxI X c) (hc:c<=99000) (r:List Addr) (hr:r.length=22) (bx sm:Addr):Ct (Mine.KP.heap_1 w.params) mg mb 8 (.ref 565) [.ref bx,.ref (jJ r 0),.int way] (wF (jJ r) (zb side 0 0 L0 L1 c0 c1 M0 M1)++jc bx sm X) (WEndB (k + 1) side N (jJ r 0) bx sm (c + 5)):=by rw [<- Jh hr hB];rw [show [.ref bx,.ref (jJ r 0),.int way]=([.ref 100044,.ref 100000,.int way]:List V).map (V.ren (r++[bx,sm])) from (ZZ (bx:=bx) (sm:=sm) (l:=[.int way]) hr).symm];exact yD (E:=EV w mg mb 8 OPd) (r:=(r++[bx,sm])) (f:=565) (Q:=WEndB (k + 1) side N (jJ r 0) bx sm (c + 5)) 100000 [100044,100046] (xs:=[.ref 100044,.ref 100000,.int way]) (o:=(wL side 0 0 L0 L1 c0 c1 M0 M1++jc 100044 100046 X)) (n0:=24) (n:=60) (Q2 w mg mb).2 (ZY hr hB) (zP rfl) rfl (T:=.br (way==0) (dT w mg mb r bx sm [] (WEndB (k + 1) side N (jJ r 0) bx sm (c + 5)) side 0 0 L0 L1 c0 c1 M0 M1 (jc 100044 100046 X++[]) 25 532 [.ref 100044,.ref 100000]) (.br (Decidable.decide (way < 3)) (dT w mg mb r bx sm [] (WEndB (k + 1) side N (jJ r 0) bx sm (c + 5)) side 0 0 L0 L1 c0 c1 M0 M1 (jc 100044 100046 X++[]) 25 525 [.ref 100044,.ref 100000]) (.br (Decidable.decide (way < 5)) (dT w mg mb r bx sm [] (WEndB (k + 1) side N (jJ r 0) bx sm (c + 5)) side 0 0 L0 L1 c0 c1 M0 M1 (jc 100044 100046 X++[]) 25 520 [.ref 100044,.ref 100000,.none]) (dT w mg mb r bx sm [] (WEndB (k + 1) side N (jJ r 0) bx sm (c + 5)) side 0 0 L0 L1 c0 c1 M0 M1 (jc 100044 100046 X++[]) 25 520 [.ref 100044,.ref 100000,.none])))) (by kernel_rfl) (YR (C:=True) (λ_=>QC (kk:=6) (k':=k) (c':=c + 2) (nt:=[]) (l:=[]) hr hB (λ_=>rfl) (by decide) (by omega) (by omega) (λ_=>rfl) λr' h'=>Zj hW hB hc r' h' bx sm) (YR (λ_=>QC (kk:=7) (k':=k + 1) (c':=c + 5) (nt:=[]) (l:=[]) hr hB (λ_=>rfl) (by decide) (by omega) (by omega) (λ_=>rfl) λr' h'=>zHF hW hk hB hc (.inl ⟨rfl,rfl⟩) r' h' bx sm) (YR (λ_=>QC (kk:=7) (k':=k + 1) (c':=c + 5) (nt:=[]) (l:=[.none]) hr hB (λ_=>rfl) (by decide) (by omega) (by omega) (λ_=>rfl) λr' h'=>JG hW hk hB hc (.inl ⟨rfl,rfl⟩) r' h' bx sm) (λ_=>QC (kk:=7) (k':=k + 1) (c':=c + 5) (nt:=[]) (l:=[.none]) hr hB (λ_=>rfl) (by decide) (by omega) (by omega) (λ_=>rfl) λr' h'=>JG hW hk hB hc (.inl ⟨rfl,rfl⟩) r' h' bx sm))) trivial)
theorem zHI {k:Nat}{side way:Int}{L0 L1:Lv}{c0 c1:Cm}{M0 M1:List V}{N:jA}{X:Bx}{c:Int}(hW:WOk k side 1 1 L0 L1 c0 c1 M0 M1 N) (hk:k<=800) (hB:BxI X c) (hc:c<=99000) (r:List Addr) (hr:r.length=22) (bx sm:Addr):Ct (Mine.KP.heap_1 w.params) mg mb 8 (.ref 565) [.ref bx,.ref (jJ r 0),.int way] (wF (jJ r) (zb side 1 1 L0 L1 c0 c1 M0 M1)++jc bx sm X) (WEndB (k + 1) side N (jJ r 0) bx sm (c + 5)):=by rw [<- Jh hr hB];rw [show [.ref bx,.ref (jJ r 0),.int way]=([.ref 100044,.ref 100000,.int way]:List V).map (V.ren (r++[bx,sm])) from (ZZ (bx:=bx) (sm:=sm) (l:=[.int way]) hr).symm];exact yD (E:=EV w mg mb 8 OPd) (r:=(r++[bx,sm])) (f:=565) (Q:=WEndB (k + 1) side N (jJ r 0) bx sm (c + 5)) 100000 [100044,100046] (xs:=[.ref 100044,.ref 100000,.int way]) (o:=(wL side 1 1 L0 L1 c0 c1 M0 M1++jc 100044 100046 X)) (n0:=24) (n:=60) (Q2 w mg mb).2 (ZY hr hB) (zP rfl) rfl (T:=.br (way==0) (dT w mg mb r bx sm [] (WEndB (k + 1) side N (jJ r 0) bx sm (c + 5)) side 1 1 L0 L1 c0 c1 M0 M1 (jc 100044 100046 X++[]) 25 532 [.ref 100044,.ref 100000]) (.br (Decidable.decide (way < 3)) (.br (Decidable.decide (way < 5)) (dT w mg mb r bx sm [] (WEndB (k + 1) side N (jJ r 0) bx sm (c + 5)) side 1 1 L0 L1 c0 c1 M0 M1 (jc 100044 100046 X++[]) 25 520 [.ref 100044,.ref 100000,.none]) (dT w mg mb r bx sm [] (WEndB (k + 1) side N (jJ r 0) bx sm (c + 5)) side 1 1 L0 L1 c0 c1 M0 M1 (jc 100044 100046 X++[]) 25 520 [.ref 100044,.ref 100000,.none])) (.br (Decidable.decide (way < 5)) (dT w mg mb r bx sm [] (WEndB (k + 1) side N (jJ r 0) bx sm (c + 5)) side 1 1 L0 L1 c0 c1 M0 M1 (jc 100044 100046 X++[]) 25 520 [.ref 100044,.ref 100000,.none]) (dT w mg mb r bx sm [] (WEndB (k + 1) side N (jJ r 0) bx sm (c + 5)) side 1 1 L0 L1 c0 c1 M0 M1 (jc 100044 100046 X++[]) 25 520 [.ref 100044,.ref 100000,.none])))) (by kernel_rfl) (YR (C:=True) (λ_=>QC (kk:=6) (k':=k) (c':=c + 2) (nt:=[]) (l:=[]) hr hB (λ_=>rfl) (by decide) (by omega) (by omega) (λ_=>rfl) λr' h'=>Zj hW hB hc r' h' bx sm) (YR (YR (λ_=>QC (kk:=7) (k':=k + 1) (c':=c + 5) (nt:=[]) (l:=[.none]) hr hB (λ_=>rfl) (by decide) (by omega) (by omega) (λ_=>rfl) λr' h'=>JG hW hk hB hc (.inr ⟨rfl,rfl⟩) r' h' bx sm) (λ_=>QC (kk:=7) (k':=k + 1) (c':=c + 5) (nt:=[]) (l:=[.none]) hr hB (λ_=>rfl) (by decide) (by omega) (by omega) (λ_=>rfl) λr' h'=>JG hW hk hB hc (.inr ⟨rfl,rfl⟩) r' h' bx sm)) (YR (λ_=>QC (kk:=7) (k':=k + 1) (c':=c + 5) (nt:=[]) (l:=[.none]) hr hB (λ_=>rfl) (by decide) (by omega) (by omega) (λ_=>rfl) λr' h'=>JG hW hk hB hc (.inr ⟨rfl,rfl⟩) r' h' bx sm) (λ_=>QC (kk:=7) (k':=k + 1) (c':=c + 5) (nt:=[]) (l:=[.none]) hr hB (λ_=>rfl) (by decide) (by omega) (by omega) (λ_=>rfl) λr' h'=>JG hW hk hB hc (.inr ⟨rfl,rfl⟩) r' h' bx sm))) trivial)
theorem zHJ {k:Nat}{side way:Int}{L0 L1:Lv}{c0 c1:Cm}{M0 M1:List V}{N:jA}{X:Bx}{c:Int}{place lt x y:Int}{t m:Addr}(hW:WOk k side 1 3 L0 L1 c0 c1 (M0++[V.ref t]) M1 (yv t m place lt x y++N)) (hP:WOk k side 0 0 L0 L1 c0 c1 M0 M1 (yv t m place lt x y++N)) (hT:Top 0 t m place lt x y M0) (hcs:jR c0 0≠[]) (hk:k<=800) (hB:BxI X c) (hc:c<=99000) (r:List Addr) (hr:r.length=22) (bx sm:Addr):Ct (Mine.KP.heap_1 w.params) mg mb 8 (.ref 565) [.ref bx,.ref (jJ r 0),.int way] (wF (jJ r) (zb side 1 3 L0 L1 c0 c1 (M0++[V.ref t]) M1)++(jc bx sm X++yv t m place lt x y)) (WEndB (k + 1) side N (jJ r 0) bx sm (c + 5)):=by
 have hne:M0++[V.ref t]≠[]:=by simp
 rw [<- zHG hr hB];rw [show [.ref bx,.ref (jJ r 0),.int way]=([.ref 100044,.ref 100000,.int way]:List V).map (V.ren (r++bx::sm::[t,m])) from (zKo (bx:=bx) (sm:=sm) (l:=[.int way]) hr).symm];exact yD (E:=EV w mg mb 8 OPd) (r:=r++bx::sm::[t,m]) (f:=565) (Q:=WEndB (k + 1) side N (jJ r 0) bx sm (c + 5)) 100000 [100044,100046,100048,100050] (xs:=[.ref 100044,.ref 100000,.int way]) (o:=(wL side 1 3 L0 L1 c0 c1 (M0++[V.ref t]) M1++(jc 100044 100046 X++Z1 place lt x y))) (n0:=26) (n:=60) (Q2 w mg mb).2 (zKn hr hB) (zP rfl) rfl (T:=.br (way==0) (dT w mg mb r bx sm [t,m] (WEndB (k + 1) side N (jJ r 0) bx sm (c + 5)) side 1 3 L0 L1 c0 c1 (M0++[V.ref t]) M1 (jc 100044 100046 X++Z1 place lt x y) 27 532 [.ref 100044,.ref 100000]) (.br (Decidable.decide (way < 3)) (.br (0==side) (dT w mg mb r bx sm [t,m] (WEndB (k + 1) side N (jJ r 0) bx sm (c + 5)) side 1 3 L0 L1 c0 c1 (M0++[V.ref t]) M1 (jc 100044 100046 X++Z1 place lt x y) 27 525 [.ref 100044,.ref 100000]) (.br (Decidable.decide (way < 5)) (dT w mg mb r bx sm [t,m] (WEndB (k + 1) side N (jJ r 0) bx sm (c + 5)) side 1 3 L0 L1 c0 c1 (M0++[V.ref t]) M1 (jc 100044 100046 X++Z1 place lt x y) 27 520 [.ref 100044,.ref 100000,.int 0]) (.br (Decidable.decide (way < 7)) (dT w mg mb r bx sm [t,m] (WEndB (k + 1) side N (jJ r 0) bx sm (c + 5)) side 1 3 L0 L1 c0 c1 (M0++[V.ref t]) M1 (jc 100044 100046 X++Z1 place lt x y) 27 539 [.ref 100044,.ref 100000,.int 0]) (.br (Decidable.decide (way < 9)) (dT w mg mb r bx sm [t,m] (WEndB (k + 1) side N (jJ r 0) bx sm (c + 5)) side 1 3 L0 L1 c0 c1 (M0++[V.ref t]) M1 (jc 100044 100046 X++Z1 place lt x y) 27 544 [.ref 100000,.int 0]) (dT w mg mb r bx sm [t,m] (WEndB (k + 1) side N (jJ r 0) bx sm (c + 5)) side 1 3 L0 L1 c0 c1 (M0++[V.ref t]) M1 (jc 100044 100046 X++Z1 place lt x y) 27 551 [.ref 100000,.int 0]))))) (.br (Decidable.decide (way < 5)) (dT w mg mb r bx sm [t,m] (WEndB (k + 1) side N (jJ r 0) bx sm (c + 5)) side 1 3 L0 L1 c0 c1 (M0++[V.ref t]) M1 (jc 100044 100046 X++Z1 place lt x y) 27 520 [.ref 100044,.ref 100000,.int 0]) (.br (Decidable.decide (way < 7)) (dT w mg mb r bx sm [t,m] (WEndB (k + 1) side N (jJ r 0) bx sm (c + 5)) side 1 3 L0 L1 c0 c1 (M0++[V.ref t]) M1 (jc 100044 100046 X++Z1 place lt x y) 27 539 [.ref 100044,.ref 100000,.int 0]) (.br (Decidable.decide (way < 9)) (dT w mg mb r bx sm [t,m] (WEndB (k + 1) side N (jJ r 0) bx sm (c + 5)) side 1 3 L0 L1 c0 c1 (M0++[V.ref t]) M1 (jc 100044 100046 X++Z1 place lt x y) 27 544 [.ref 100000,.int 0]) (dT w mg mb r bx sm [t,m] (WEndB (k + 1) side N (jJ r 0) bx sm (c + 5)) side 1 3 L0 L1 c0 c1 (M0++[V.ref t]) M1 (jc 100044 100046 X++Z1 place lt x y) 27 551 [.ref 100000,.int 0])))))) (by kernel_rfl) (YR (C:=True) (λ_=>QC (kk:=6) (k':=k) (c':=c + 2) (nt:=yv t m place lt x y) (l:=[]) hr hB (λ_=>jo hr) (by decide) (by omega) (by omega) (λ_=>rfl) λr' h'=>Zj hW hB hc r' h' bx sm) (YR (YR (λq=>QC (kk:=7) (k':=k + 1) (c':=c + 5) (nt:=yv t m place lt x y) (l:=[]) hr hB (λ_=>jo hr) (by decide) (by omega) (by omega) (λ_=>rfl) λr' h'=>zHF hW hk hB hc (.inr (.inl ⟨(eq_of_beq q.2).symm,rfl,rfl,hne⟩)) r' h' bx sm) (YR (λ_=>QC (kk:=7) (k':=k + 1) (c':=c + 5) (nt:=yv t m place lt x y) (l:=[.int 0]) hr hB (λ_=>jo hr) (by decide) (by omega) (by omega) (λ_=>rfl) λr' h'=>Ym hW hk hB hc (.inl rfl) (.inr (.inr ⟨rfl,rfl,hne⟩)) hcs r' h' bx sm) (YR (λ_=>QC (kk:=7) (k':=k) (c':=c + 5) (nt:=yv t m place lt x y) (l:=[.int 0]) hr hB (λ_=>jo hr) (by decide) (by omega) (by omega) (λ_=>rfl) λr' h'=>Ve hW hB hc r' h' bx sm) (YR (λ_=>t_w (kk:=6) (k':=k) (nt:=yv t m place lt x y) (l:=[.int 0]) hr hB (λ_=>jo hr) (by decide) (by omega) (by omega) (λ_=>rfl) λr' h'=>yw (zAW hW.m00 (hW.o0.xy.imp_right λq=>q.imp_right λq=>⟨q.1,q.2,hne,hcs⟩) r' h')) (λ_=>t_w (kk:=7) (k':=k) (nt:=yv t m place lt x y) (l:=[.int 0]) hr hB (λ_=>jo hr) (by decide) (by omega) (by omega) (λ_=>rfl) λr' h'=>Vi h' hP hk hT hcs))))) (YR (λ_=>QC (kk:=7) (k':=k + 1) (c':=c + 5) (nt:=yv t m place lt x y) (l:=[.int 0]) hr hB (λ_=>jo hr) (by decide) (by omega) (by omega) (λ_=>rfl) λr' h'=>Ym hW hk hB hc (.inl rfl) (.inr (.inr ⟨rfl,rfl,hne⟩)) hcs r' h' bx sm) (YR (λ_=>QC (kk:=7) (k':=k) (c':=c + 5) (nt:=yv t m place lt x y) (l:=[.int 0]) hr hB (λ_=>jo hr) (by decide) (by omega) (by omega) (λ_=>rfl) λr' h'=>Ve hW hB hc r' h' bx sm) (YR (λ_=>t_w (kk:=6) (k':=k) (nt:=yv t m place lt x y) (l:=[.int 0]) hr hB (λ_=>jo hr) (by decide) (by omega) (by omega) (λ_=>rfl) λr' h'=>yw (zAW hW.m00 (hW.o0.xy.imp_right λq=>q.imp_right λq=>⟨q.1,q.2,hne,hcs⟩) r' h')) (λ_=>t_w (kk:=7) (k':=k) (nt:=yv t m place lt x y) (l:=[.int 0]) hr hB (λ_=>jo hr) (by decide) (by omega) (by omega) (λ_=>rfl) λr' h'=>Vi h' hP hk hT hcs))))) trivial)
theorem zHK {k:Nat}{side way:Int}{L0 L1:Lv}{c0 c1:Cm}{M0 M1:List V}{N:jA}{X:Bx}{c:Int}{place lt x y:Int}{t m:Addr}(hW:WOk k side 3 1 L0 L1 c0 c1 M0 (M1++[V.ref t]) (yv t m place lt x y++N)) (hP:WOk k side 0 0 L0 L1 c0 c1 M0 M1 (yv t m place lt x y++N)) (hT:Top 1 t m place lt x y M1) (hcs:jR c0 1≠[]) (hk:k<=800) (hB:BxI X c) (hc:c<=99000) (r:List Addr) (hr:r.length=22) (bx sm:Addr):Ct (Mine.KP.heap_1 w.params) mg mb 8 (.ref 565) [.ref bx,.ref (jJ r 0),.int way] (wF (jJ r) (zb side 3 1 L0 L1 c0 c1 M0 (M1++[V.ref t]))++(jc bx sm X++yv t m place lt x y)) (WEndB (k + 1) side N (jJ r 0) bx sm (c + 5)):=by
 have hne:M1++[V.ref t]≠[]:=by simp
 rw [<- zHG hr hB];rw [show [.ref bx,.ref (jJ r 0),.int way]=([.ref 100044,.ref 100000,.int way]:List V).map (V.ren (r++bx::sm::[t,m])) from (zKo (bx:=bx) (sm:=sm) (l:=[.int way]) hr).symm];exact yD (E:=EV w mg mb 8 OPd) (r:=r++bx::sm::[t,m]) (f:=565) (Q:=WEndB (k + 1) side N (jJ r 0) bx sm (c + 5)) 100000 [100044,100046,100048,100050] (xs:=[.ref 100044,.ref 100000,.int way]) (o:=(wL side 3 1 L0 L1 c0 c1 M0 (M1++[V.ref t])++(jc 100044 100046 X++Z1 place lt x y))) (n0:=26) (n:=60) (Q2 w mg mb).2 (zKn hr hB) (zP rfl) rfl (T:=.br (way==0) (dT w mg mb r bx sm [t,m] (WEndB (k + 1) side N (jJ r 0) bx sm (c + 5)) side 3 1 L0 L1 c0 c1 M0 (M1++[V.ref t]) (jc 100044 100046 X++Z1 place lt x y) 27 532 [.ref 100044,.ref 100000]) (.br (Decidable.decide (way < 3)) (.br (1==side) (dT w mg mb r bx sm [t,m] (WEndB (k + 1) side N (jJ r 0) bx sm (c + 5)) side 3 1 L0 L1 c0 c1 M0 (M1++[V.ref t]) (jc 100044 100046 X++Z1 place lt x y) 27 525 [.ref 100044,.ref 100000]) (.br (Decidable.decide (way < 5)) (dT w mg mb r bx sm [t,m] (WEndB (k + 1) side N (jJ r 0) bx sm (c + 5)) side 3 1 L0 L1 c0 c1 M0 (M1++[V.ref t]) (jc 100044 100046 X++Z1 place lt x y) 27 520 [.ref 100044,.ref 100000,.int 1]) (.br (Decidable.decide (way < 7)) (dT w mg mb r bx sm [t,m] (WEndB (k + 1) side N (jJ r 0) bx sm (c + 5)) side 3 1 L0 L1 c0 c1 M0 (M1++[V.ref t]) (jc 100044 100046 X++Z1 place lt x y) 27 539 [.ref 100044,.ref 100000,.int 1]) (.br (Decidable.decide (way < 9)) (dT w mg mb r bx sm [t,m] (WEndB (k + 1) side N (jJ r 0) bx sm (c + 5)) side 3 1 L0 L1 c0 c1 M0 (M1++[V.ref t]) (jc 100044 100046 X++Z1 place lt x y) 27 544 [.ref 100000,.int 1]) (dT w mg mb r bx sm [t,m] (WEndB (k + 1) side N (jJ r 0) bx sm (c + 5)) side 3 1 L0 L1 c0 c1 M0 (M1++[V.ref t]) (jc 100044 100046 X++Z1 place lt x y) 27 551 [.ref 100000,.int 1]))))) (.br (Decidable.decide (way < 5)) (dT w mg mb r bx sm [t,m] (WEndB (k + 1) side N (jJ r 0) bx sm (c + 5)) side 3 1 L0 L1 c0 c1 M0 (M1++[V.ref t]) (jc 100044 100046 X++Z1 place lt x y) 27 520 [.ref 100044,.ref 100000,.int 1]) (.br (Decidable.decide (way < 7)) (dT w mg mb r bx sm [t,m] (WEndB (k + 1) side N (jJ r 0) bx sm (c + 5)) side 3 1 L0 L1 c0 c1 M0 (M1++[V.ref t]) (jc 100044 100046 X++Z1 place lt x y) 27 539 [.ref 100044,.ref 100000,.int 1]) (.br (Decidable.decide (way < 9)) (dT w mg mb r bx sm [t,m] (WEndB (k + 1) side N (jJ r 0) bx sm (c + 5)) side 3 1 L0 L1 c0 c1 M0 (M1++[V.ref t]) (jc 100044 100046 X++Z1 place lt x y) 27 544 [.ref 100000,.int 1]) (dT w mg mb r bx sm [t,m] (WEndB (k + 1) side N (jJ r 0) bx sm (c + 5)) side 3 1 L0 L1 c0 c1 M0 (M1++[V.ref t]) (jc 100044 100046 X++Z1 place lt x y) 27 551 [.ref 100000,.int 1])))))) (by kernel_rfl) (YR (C:=True) (λ_=>QC (kk:=6) (k':=k) (c':=c + 2) (nt:=yv t m place lt x y) (l:=[]) hr hB (λ_=>jo hr) (by decide) (by omega) (by omega) (λ_=>rfl) λr' h'=>Zj hW hB hc r' h' bx sm) (YR (YR (λq=>QC (kk:=7) (k':=k + 1) (c':=c + 5) (nt:=yv t m place lt x y) (l:=[]) hr hB (λ_=>jo hr) (by decide) (by omega) (by omega) (λ_=>rfl) λr' h'=>zHF hW hk hB hc (.inr (.inr ⟨(eq_of_beq q.2).symm,rfl,rfl,hne⟩)) r' h' bx sm) (YR (λ_=>QC (kk:=7) (k':=k + 1) (c':=c + 5) (nt:=yv t m place lt x y) (l:=[.int 1]) hr hB (λ_=>jo hr) (by decide) (by omega) (by omega) (λ_=>rfl) λr' h'=>Ym hW hk hB hc (.inr rfl) (.inr (.inr ⟨rfl,rfl,hne⟩)) hcs r' h' bx sm) (YR (λ_=>QC (kk:=7) (k':=k) (c':=c + 5) (nt:=yv t m place lt x y) (l:=[.int 1]) hr hB (λ_=>jo hr) (by decide) (by omega) (by omega) (λ_=>rfl) λr' h'=>Vf hW hB hc r' h' bx sm) (YR (λ_=>t_w (kk:=6) (k':=k) (nt:=yv t m place lt x y) (l:=[.int 1]) hr hB (λ_=>jo hr) (by decide) (by omega) (by omega) (λ_=>rfl) λr' h'=>yw (zAX hW.m00 (hW.o1.xy.imp_right λq=>q.imp_right λq=>⟨q.1,q.2,hne,hcs⟩) r' h')) (λ_=>t_w (kk:=7) (k':=k) (nt:=yv t m place lt x y) (l:=[.int 1]) hr hB (λ_=>jo hr) (by decide) (by omega) (by omega) (λ_=>rfl) λr' h'=>Vj h' hP hk hT hcs))))) (YR (λ_=>QC (kk:=7) (k':=k + 1) (c':=c + 5) (nt:=yv t m place lt x y) (l:=[.int 1]) hr hB (λ_=>jo hr) (by decide) (by omega) (by omega) (λ_=>rfl) λr' h'=>Ym hW hk hB hc (.inr rfl) (.inr (.inr ⟨rfl,rfl,hne⟩)) hcs r' h' bx sm) (YR (λ_=>QC (kk:=7) (k':=k) (c':=c + 5) (nt:=yv t m place lt x y) (l:=[.int 1]) hr hB (λ_=>jo hr) (by decide) (by omega) (by omega) (λ_=>rfl) λr' h'=>Vf hW hB hc r' h' bx sm) (YR (λ_=>t_w (kk:=6) (k':=k) (nt:=yv t m place lt x y) (l:=[.int 1]) hr hB (λ_=>jo hr) (by decide) (by omega) (by omega) (λ_=>rfl) λr' h'=>yw (zAX hW.m00 (hW.o1.xy.imp_right λq=>q.imp_right λq=>⟨q.1,q.2,hne,hcs⟩) r' h')) (λ_=>t_w (kk:=7) (k':=k) (nt:=yv t m place lt x y) (l:=[.int 1]) hr hB (λ_=>jo hr) (by decide) (by omega) (by omega) (λ_=>rfl) λr' h'=>Vj h' hP hk hT hcs))))) trivial)
end
section
set_option linter.unusedVariables false
variable {w:World} {mg mb:Str->Option Value}
theorem hz_fillS16:True\/PySem.Challenge.rw_tn0029_01.Holds/\∀ h:Heap,(Mine.KP.heap_1 w.params).In h:=by k_fill;exact .inl trivial
theorem zMs (b d:Addr):Ct (Mine.KP.heap_1 w.params) mg mb 1 (.ref 259) [.ref b] [(b,.inst 397 d),(d,.attrs [])] λy o=>y = .none/\∃ p,o=jI b d p B00:=by
 have h:=zM (E:=EW w mg mb 1 [] []) (r:=[b,d]) (f:=259) (Q:=λy o=>y = .none/\∃ p,o=jI b d p B00) (xs:=[.ref 100000]) (o:=[(100000,.inst 397 100002),(100002,.attrs [])]) (n0:=2) (n:=60) (zGO w mg mb).2 (okB rfl rfl) (zP rfl) rfl
  (T:=.prop (j8 [b,d] (λy o=>y = .none/\∃ p,o=jI b d p B00) .none ((100006,.idict (jb B00))::(100000,.inst 397 100002)::(100002,.attrs (j6 100006 B00))::[]) 4)) (by kernel_rfl)
  (zQ [100000,100002,100006] (o0:=jI 100000 100002 100006 B00) (by kernel_rfl) λt _=>⟨rfl,jL ([b,d]++t) 100006,rfl⟩)
 exact h
theorem zMt:Ct (Mine.KP.heap_1 w.params) mg mb 2 (.ref 397) [] [] λy o=>∃ b d p,y = .ref b/\o=jI b d p B00:=by intro W A G R;refine zHx (fI:=259) G R (by k_is) (by k_is) (by k_is) λA' x d R'=>?_;refine Ct.cc (zMs x d) G R' (Nat.le_refl _) (by rw [List.append_nil]) ?_;rintro y o ⟨rfl,p,rfl⟩;exact ⟨rfl,.mk _ (Sel.refl _) ⟨x,d,p,rfl,by rw [List.append_nil]⟩⟩
noncomputable def zHL (B:Bd) (s:SS) (K:V->SS->Tree):Tree:=match s with
 | ⟨o,ns,n⟩=>j3 (jI (nm n) (nm (n + 1)) (nm (n + 2)) B++o) λo=>K (.ref (nm n)) ⟨o,ns,n + 3⟩
theorem Z2 {r:List Addr}{s:SS}{B:Bd}{K:V->SS->Tree}{b d p:Addr}(ok:s.ok r) (h:(zHL B s K).holds):Lift RV r K (.ref b) (jI b d p B++jC r s.o) (jK r s.ns):=by
 have hl:(r++[b,d,p]).length=s.n + 3:=by rw [List.length_append,ok.len];rfl
 have en:∀ k,jJ (r++[b,d,p]) (s.n + k)=jJ [b,d,p] k:=λk=>by rw [<- ok.len];exact y7
 have w0:∀ k,k < 3->wfA (s.n + 3) (nm (s.n + k)):=λk hk=>⟨.inr (by unfold nm;omega)⟩;have e0:=(z9 (r:=r++[b,d,p]) (k:=s.n)).trans (en 0);have e1:=(z9 (r:=r++[b,d,p]) (k:=s.n + 1)).trans (en 1);have e2:=(z9 (r:=r++[b,d,p]) (k:=s.n + 2)).trans (en 2);refine Lift.of' (y:=.ref (nm s.n)) (s:=⟨jI (nm s.n) (nm (s.n + 1)) (nm (s.n + 2)) B++s.o,s.ns,s.n + 3⟩) [b,d,p] ⟨hl,λq hq=>?_,ok.ns.mono (Nat.le_add_right _ _)⟩ (w0 0 (by decide)) (congrArg V.ref e0.symm) ?_ ok.app.2.symm (jT h)
 ·rcases List.mem_append.mp hq with hq | hq
  ·exact zAE (ns:=[nm s.n,nm (s.n + 1),nm (s.n + 2)]) (o:=jI 100000 100002 100004 B) (λa ha=>by
    rcases List.mem_cons.mp ha with rfl | ha
    ·exact w0 0 (by decide)
    rcases List.mem_cons.mp ha with rfl | ha
    ·exact w0 1 (by decide)
    obtain rfl:=List.mem_singleton.mp ha;exact w0 2 (by decide)) rfl q hq
  ·exact ⟨(ok.o q hq).1.mono (Nat.le_add_right _ _),(ok.o q hq).2.mono (Nat.le_add_right _ _)⟩
 ·rw [ji,ok.app.1];show _=jI (jL _ (nm s.n)) (jL _ (nm (s.n + 1))) (jL _ (nm (s.n + 2))) B++_;rw [e0,e1,e2];rfl
noncomputable def csrsS:Spec:=λxs s K=>gd xs.isEmpty (zHL B00 s K)
theorem zHM:jh (Mine.KP.heap_1 w.params) mg mb 397 2 csrsS:=λxs s K h W A r G R ok hx =>
 j1 h λh0 h=>by obtain rfl:=List.isEmpty_iff.mp h0;refine Cl.use zMt G R (Nat.le_refl _) (o₂:=jC r s.o) (.refl _) ?_;rintro _ _ ⟨b,d,p,rfl,rfl⟩;exact Z2 ok h
noncomputable def SPb:List (Addr×(Nat×Spec)):=(397,(2,csrsS))::SPw
theorem zMu:∀ p ∈ SPb,jh (Mine.KP.heap_1 w.params) mg mb p.1 p.2.1 p.2.2:=zI zHM zAT
noncomputable def EB (w:World) (mg mb:Str->Option Value) (k:Nat) (op:List Addr):Est:=EX w mg mb k op [] SPb zMu
noncomputable def bdN (h li mine bits root wa:Int):Bd:=⟨yy 0 (la bits 4294967295),la (la h 4294967295) 46079,la (la li 4294967295) 546,la (la mine 4294967295) 2730,j5 (j5 (j5 (j5 (j5 (j5 0 1 (la (wa / 2) 1==1)) 3 (la (wa / 8) 1==1)) 5 (la (wa / 32) 1==1)) 7 (la (wa / 128) 1==1)) 9 (la (wa / 512) 1==1)) 11 (la (wa / 2048) 1==1),la (la root 4294967295) 2151677951,0,7,0,0,0,0,0,7,0,0,0,0⟩
theorem zJG (h li mine bits root wa:Int):Ct (Mine.KP.heap_1 w.params) mg mb 4 (.ref 493) [.int h,.int li,.int mine,.int bits,.int root,.int wa] [] λy o=>∃ b d p,y = .ref b/\o=jI b d p (bdN h li mine bits root wa):=by
 have k:=zM (E:=EB w mg mb 4 []) (r:=[]) (f:=493) (Q:=λy o=>∃ b d p,y = .ref b/\o=jI b d p (bdN h li mine bits root wa)) (xs:=[.int h,.int li,.int mine,.int bits,.int root,.int wa]) (o:=[]) (n0:=0) (n:=60) (zGY w mg mb).2 (okB rfl rfl) (zP rfl) rfl
  (T:=.side ((0:Int)<=1/\(1:Int)<=64) (.side ((0:Int)<=3/\(3:Int)<=64) (.side ((0:Int)<=5/\(5:Int)<=64) (.side ((0:Int)<=7/\(7:Int)<=64) (.side ((0:Int)<=9/\(9:Int)<=64) (.side ((0:Int)<=11/\(11:Int)<=64) (.prop (j8 [] (λy o=>∃ b d p,y = .ref b/\o=jI b d p (bdN h li mine bits root wa)) (.ref 100002) (jI 100002 100004 100006 (bdN h li mine bits root wa)) 35))))))))
  (by kernel_rfl) ⟨by decide,by decide,by decide,by decide,by decide,by decide,zQ [100002,100004,100006] (o0:=jI 100002 100004 100006 (bdN h li mine bits root wa)) (by kernel_rfl) λt _=>⟨jL ([]++t) 100002,jL ([]++t) 100004,jL ([]++t) 100006,rfl,rfl⟩⟩
 exact k
noncomputable def boardS:Spec:=λxs s K=>jS (zV xs) λis=>gd (Nat.beq is.length 6) (zHL (bdN (is.getD 0 0) (is.getD 1 0) (is.getD 2 0) (is.getD 3 0) (is.getD 4 0) (is.getD 5 0)) s K)
theorem zEk:jh (Mine.KP.heap_1 w.params) mg mb 493 4 boardS:=λxs s K h W A r G R ok hx =>
 jE h λis ei h=>j1 h λhl h=>by
  have e6:is=[is.getD 0 0,is.getD 1 0,is.getD 2 0,is.getD 3 0,is.getD 4 0,is.getD 5 0]:=V5 (Nat.eq_of_beq_eq_true hl);have ex:xs.map (V.ren r)=[.int (is.getD 0 0),.int (is.getD 1 0),.int (is.getD 2 0),.int (is.getD 3 0),.int (is.getD 4 0),.int (is.getD 5 0)]:=by rw [z6 ei,j2];exact congrArg (List.map V.int) e6
  rw [ex];refine Cl.use (zJG _ _ _ _ _ _) G R (Nat.le_refl _) (o₂:=jC r s.o) (.refl _) ?_;rintro _ _ ⟨b,d,p,rfl,rfl⟩;exact Z2 ok h
noncomputable def SPc:List (Addr×(Nat×Spec)):=(493,(4,boardS))::SPw
theorem zMv:∀ p ∈ SPc,jh (Mine.KP.heap_1 w.params) mg mb p.1 p.2.1 p.2.2:=zI zEk zAT
noncomputable def EC (w:World) (mg mb:Str->Option Value) (k:Nat) (op:List Addr) (sp:List (Addr×(Nat×Spec))) (h:∀ p ∈ sp,jh (Mine.KP.heap_1 w.params) mg mb p.1 p.2.1 p.2.2):Est:=EX w mg mb k op [] sp h
noncomputable def zOz (r:List Addr) (Q:V->jA->Prop) (names:List Addr) (x:V) (s:SS):Tree:=jS x.ref? λa=>zGs a s λns v rest=>jS (YE names rest) λo=>.prop (jv r Q (.ref a) ns v o s.n)
theorem zJH {r:List Addr}{Q:V->jA->Prop}(names:List Addr):KEok r Q (zOz r Q names):=λt x s ok h=>jE h λa ea h=>zAP h λns v rest tk hn ha h=>jE h λo0 e h=>by obtain ⟨l,p⟩:=zAS tk e;rw [jg ea];exact ⟨_,l,p,h t ok.len⟩
end
section
set_option linter.unusedVariables false
variable {w:World} {mg mb:Str->Option Value}
noncomputable def zv (X:Bx) (k:Int):Int:=(jF X 65536 + k + 1) * 2654435761 % 4294967296
noncomputable def fiX (X:Bx):Bx:=jD (jD (jD (jD X 65536) 2) 2) 3
noncomputable def Z6 (X:Bx):Int:=jF (jD (jD (jD X 65536) 2) 2) 3
noncomputable def flL (X:Bx) (x y:Int):Lv:=⟨la (zv X 0) 4294967293,la (zv X 1) 7,la (zv X 2) 4294967295,la (zv X 3) 4294967292,la (zv X 4) 4294967295,la (zv X 5) 4294967295,jF (jD X 65536) 2,jF (jD (jD X 65536) 2) 2,x,y⟩
noncomputable def flS (B:Bd) (X:Bx) (z:Int):Bd:={ B with st:=ja 256 B.st (jF (jD X 65536) 2) (jF (jD (jD X 65536) 2) 2) z,s0:=la (la (zv X 0) 4294967295) 4294967293,s1:=la (la (zv X 1) 4294967295) 7,s2:=la (zv X 2) 4294967295,s3:=la (la (zv X 3) 4294967295) 4294967292,s4:=la (zv X 4) 4294967295,s5:=la (zv X 5) 4294967295 }
noncomputable def flM (B:Bd) (X:Bx) (z:Int):Bd:={ B with st:=ja 768 B.st (jF (jD X 65536) 2) (jF (jD (jD X 65536) 2) 2) z,m0:=la (la (zv X 0) 4294967295) 4294967293,m1:=la (la (zv X 1) 4294967295) 7,m2:=la (zv X 2) 4294967295,m3:=la (la (zv X 3) 4294967295) 4294967292,m4:=la (zv X 4) 4294967295,m5:=la (zv X 5) 4294967295 }
noncomputable def flB (c:Bool) (B:Bd) (X:Bx) (z:Int):Bd:=match c with
 | true=>flS B X z
 | false=>flM B X z
noncomputable def YT (i z:Int):Int:=if (i==0)=true then 0 else if (i==1)=true then 1 else z
noncomputable def QD (c:Bool):Int:=match c with
 | true=>0
 | false=>1
noncomputable def zQD (c:Bool) (e D:V):List V:=match c with
 | true=>[D,.none]
 | false=>[e,D]
section
variable (f:Nat->Addr)
noncomputable def fiD (X:Bx) (x y:Int) (D q0 q1:Addr):jA:=[(D,.list [.ref q0,.ref q1]),(q1,.list ((flL X x y).row y)),(q0,.list ((flL X x y).row x))]
noncomputable def fiB (side:Int) (B0 B1:Bd) (X:Bx):jA:=jI (f 9) (f 10) (f 11) B1++(jI (f 6) (f 7) (f 8) B0++(jc (f 12) (f 13) X++[(f 0,zGn ⟨side,f 1,f 2,f 3,f 4,f 5⟩)]))
noncomputable def fiE:jA:=[(f 4,.list [.ref (f 6),.ref (f 9)])]
noncomputable def fiO (c:Bool) (side:Int) (e:V) (B0 B1:Bd) (X:Bx) (x y:Int) (D q0 q1:Addr):jA:=fiD X x y D q0 q1++(fiB f side (flB c B0 X x) (flB (!c) B1 X y) (fiX X)++((f 3,.list (zQD c e (.ref D)))::fiE f))
noncomputable def fiA (side:Int) (e:V) (B0 B1:Bd) (X:Bx):jA:=fiB f side B0 B1 X++((f 3,.list [e,.none])::fiE f)
inductive zCr (c:Bool) (side:Int) (e:V) (B0 B1:Bd) (X:Bx) (i:Int) (y:V) (o:jA):Prop
 | mk (D q0 q1:Addr) (hy:y = .none) (ho:o=fiO f c side e B0 B1 X (YT i (YF (QD c))) (YT i (YG (QD c))) D q0 q1)
end
theorem zKp {z i:Int}(h:(i==0)=true):YT i z=0:=if_pos h
theorem zKq {z i:Int}(k:(i==1)=true):YT i z=1:=by obtain rfl:=eq_of_beq k;rfl
theorem zKr {z i:Int}(k:(i==2)=true):YT i z=z:=by obtain rfl:=eq_of_beq k;rfl
noncomputable def fiT (X:Bx) (x y:Int) (P:Prop):Tree:=.side (IntMulOk (jF X 65536 + 0 + 1) 2654435761) (.side (IntMulOk (jF X 65536 + 1 + 1) 2654435761) (.side (IntMulOk (jF X 65536 + 2 + 1) 2654435761) (.side (IntMulOk (jF X 65536 + 3 + 1) 2654435761) (.side (IntMulOk (jF X 65536 + 4 + 1) 2654435761) (.side (IntMulOk (jF X 65536 + 5 + 1) 2654435761)
 (.side ((jF (jD X 65536) 2).natAbs < 18446744073709551616/\(jF (jD (jD X 65536) 2) 2).natAbs < 18446744073709551616/\x.natAbs < 18446744073709551616) (.side ((jF (jD X 65536) 2).natAbs < 18446744073709551616/\(jF (jD (jD X 65536) 2) 2).natAbs < 18446744073709551616/\y.natAbs < 18446744073709551616) (.prop P))))))))
theorem Jy {X:Bx}:(jF X 2).natAbs < 18446744073709551616:=by have:=jG (X:=X) (m:=2) (by decide);omega
theorem zHN {X:Bx}{x y:Int}{P:Prop}(hx:x.natAbs < 18446744073709551616) (hy:y.natAbs < 18446744073709551616) (h:P):(fiT X x y P).holds :=
 ⟨J0 (by decide),J0 (by decide),J0 (by decide),J0 (by decide),J0 (by decide),J0 (by decide),⟨Jy,Jy,hx⟩,⟨Jy,Jy,hy⟩,h⟩
noncomputable def fiR (X:Bx) (P:Int->Int->Prop) (a b:Int):Tree:=.side (zX X 65536) (.side (zX (jD X 65536) 2) (.side (zX (jD (jD X 65536) 2) 2) (.side (zX (jD (jD (jD X 65536) 2) 2) 3) (.br (Z6 X==0) (fiT X 0 0 (P 0 0)) (.br (Z6 X==1) (fiT X 1 1 (P 1 1)) (.br (Z6 X==2) (fiT X a b (P a b)) .fail))))))
theorem BxI.fi {X:Bx}{c:Int}(h:BxI X c):BxI (fiX X) (c + 1 + 1 + 1 + 1):=(((h.next (m:=65536) (by decide)).next (m:=2) (by decide)).next (m:=2) (by decide)).next (m:=3) (by decide)
theorem zKs {X:Bx}{P:Int->Int->Prop}{a b c:Int}(h:BxI X c) (hc:c<=99000) (ha:a.natAbs < 18446744073709551616) (hb:b.natAbs < 18446744073709551616) (hP:∀ x y,YT (Z6 X) a=x->YT (Z6 X) b=y->P x y):(fiR X P a b).holds:=by
 have h1:=h.next (m:=65536) (by decide);have h2:=h1.next (m:=2) (by decide);have h3:=h2.next (m:=2) (by decide);have d:=jG (X:=jD (jD (jD X 65536) 2) 2) (m:=3) (by decide);exact ⟨h.tk (by omega) (by decide) (by decide),h1.tk (by omega) (by decide) (by decide),h2.tk (by omega) (by decide) (by decide),h3.tk (by omega) (by decide) (by decide),
  i_3 (C:=True) (λ_=>d) (λq=>zHN (by decide) (by decide) (hP 0 0 (zKp q.2) (zKp q.2))) (λq=>zHN (by decide) (by decide) (hP 1 1 (zKq q.2) (zKq q.2))) (λq=>zHN ha hb (hP a b (zKr q.2) (zKr q.2))) trivial⟩
section
variable {side c:Int} {B0 B1:Bd} {X:Bx} {r t:List Addr} {n:Nat}
theorem zDp {f:Nat->Addr}(h:BxI X c):jC r (fiB f side B0 B1 X)=fiB (λk=>jL r (f k)) side B0 B1 X:=by unfold fiB;rw [ji,ji,ji,yf h];rfl
theorem zKt {n b d p:Nat}(h:∀ a ∈ [b,d,p],wfA n a):owf n (jI b d p B0):=zAE (ns:=[b,d,p]) (o:=jI 100000 100002 100004 B0) h rfl
theorem JR {n:Nat}{a b:jA}(h:owf n a) (k:owf n b):owf n (a++b):=λp hp=>(List.mem_append.mp hp).elim (h p) (k p)
theorem zBi {n:Nat}(hn:14<=n) (k:Nat) (hk:k < 14):wfA n (nm k):=⟨.inr (by unfold nm;omega)⟩
theorem jO {α:Type}{P:α->Prop}{x:α}{l:List α}(h:P x) (k:∀ y ∈ l,P y):∀ y ∈ x::l,P y:=List.forall_mem_cons.mpr ⟨h,k⟩
theorem jj {α:Type}{P:α->Prop}:∀ y ∈ ([]:List α),P y:=λ_ h=>absurd h List.not_mem_nil
theorem zCs {f:Nat->Addr}(h:BxI X c) (w:∀ k,k < 14->wfA n (f k)):owf n (fiB f side B0 B1 X) :=
 JR (zKt (jO (w 9 (by decide)) (jO (w 10 (by decide)) (jO (w 11 (by decide)) jj)))) (JR (zKt (jO (w 6 (by decide)) (jO (w 7 (by decide)) (jO (w 8 (by decide)) jj)))) (JR (Yj h (w 12 (by decide)) (w 13 (by decide)))
  (jO ⟨w 0 (by decide),jO trivial (jO (w 1 (by decide)) (jO (w 2 (by decide)) (jO (w 3 (by decide)) (jO (w 4 (by decide)) (jO (w 5 (by decide)) jj)))))⟩ jj)))
theorem zCt {f:Nat->Addr}(w:∀ k,k < 14->wfA n (f k)):owf n (fiE f):=jO ⟨w 4 (by decide),jO (w 6 (by decide)) (jO (w 9 (by decide)) jj)⟩ jj
theorem zHO (h:BxI X c) (hn:14<=r.length):jC (r++t) (fiB nm side B0 B1 X)=fiB (jJ r) side B0 B1 X:=by rw [yB (zCs h (zBi hn)),zDp h,V8]
theorem zHP (hn:14<=r.length):jC (r++t) (fiE nm)=fiE (jJ r):=(yB (zCt (zBi hn))).trans (by rw [<- V8];rfl)
theorem zHQ {e:V}(h:BxI X c) (hn:14<=r.length):jC (r++t) (fiA nm side e B0 B1 X)=fiA (jJ r) side (e.ren (r++t)) B0 B1 X:=by have h3:jL (r++t) (nm 3)=jJ r 3:=jn rfl (Nat.lt_of_lt_of_le (by decide) hn);unfold fiA;rw [ji,zHO h hn,<- zHP (t:=t) hn,<- h3];rfl
theorem zMw {b:Bool}{e:V}{x y:Int}{D q0 q1:Addr}(h:BxI X c) (hn:14<=r.length):jC (r++t) (fiO nm b side e B0 B1 X x y D q0 q1)=fiO (jJ r) b side (e.ren (r++t)) B0 B1 X x y (jL (r++t) D) (jL (r++t) q0) (jL (r++t) q1):=by have h3:jL (r++t) (nm 3)=jJ r 3:=jn rfl (Nat.lt_of_lt_of_le (by decide) hn);unfold fiO;rw [ji,ji,zHO h.fi hn,<- zHP (t:=t) hn,<- h3];cases b<;>rfl
theorem zHR {e:V}(h:BxI X c) (hn:14<=n) (he:e.wf n):owf n (fiA nm side e B0 B1 X):=JR (zCs h (zBi hn)) (jO ⟨zBi hn 3 (by decide),jO he (jO trivial jj)⟩ (zCt (zBi hn)))
theorem zHS {b:Bool}{e:V}{u:List Addr}(h:BxI X c) (hn:14<=r.length) (he:e.wf (r++u).length) {i x y:Int}{D q0 q1 m:Nat}{o:jA}(names:List Addr) (ex:YT i (YF (QD b))=x) (ey:YT i (YG (QD b))=y) (e':YE names o=some (fiO nm b side e B0 B1 X x y D q0 q1)):(Tree.prop (j8 (r++u) (zCr (jJ r) b side (e.ren (r++u)) B0 B1 X i) .none o m)).holds :=
 zQ names e' λt _ => .mk (jL (r ++ u ++ t) D) (jL (r ++ u ++ t) q0) (jL (r ++ u ++ t) q1) rfl (by rw [<- V.ren_app (t := t) he, List.append_assoc, zMw h hn, ex, ey])
end
section
variable {side c:Int} {B0 B1:Bd} {X:Bx}
theorem zMx (h:BxI X c) (hc:c<=99000) (r:List Addr) (hr:r.length=14):Ct (Mine.KP.heap_1 w.params) mg mb 7 (.ref 498) [.ref (jJ r 12),.ref (jJ r 0),.int 0] (fiA (jJ r) side .none B0 B1 X) (zCr (jJ r) true side .none B0 B1 X (Z6 X)):=by
 have hl:(r++[]).length=14:=by rw [List.append_nil];exact hr
 have hn:=Nat.le_of_eq hr.symm;have k:=zM (E:=EB w mg mb 7 [100026]) (r:=r++[]) (f:=498) (Q:=zCr (jJ r) true side .none B0 B1 X (Z6 X)) (xs:=[.ref (nm 12),.ref (nm 0),.int 0]) (o:=fiA nm side .none B0 B1 X) (n0:=14) (n:=60) (zD7 w mg mb).2 ⟨hl,zHR h (Nat.le_refl _) trivial,λ_ h=>absurd h List.not_mem_nil⟩ (zP (by kernel_rfl)) rfl
  (T:=fiR X (λx y=>j8 (r++[]) (zCr (jJ r) true side .none B0 B1 X (Z6 X)) .none (fiO nm true side .none B0 B1 X x y 100582 100576 100580) 292) 1 3) (by kernel_rfl) (zKs h hc (by decide) (by decide) λx y ex ey=>zHS (b:=true) (e:=.none) (u:=[]) (D:=100582) (q0:=100576) (q1:=100580) h hn trivial [100582,100580,100576,100018,100020,100022,100012,100014,100016,100024,100026,100000,100006,100008] ex ey (by kernel_rfl))
 rw [zHQ h hn] at k;rw [<- jn (t:=[]) hr (by decide),<- jn (t:=[]) hr (by decide)];exact k
theorem zMy (h:BxI X c) (hc:c<=99000) (r:List Addr) (hr:r.length=14) (D0:Addr):Ct (Mine.KP.heap_1 w.params) mg mb 7 (.ref 498) [.ref (jJ r 12),.ref (jJ r 0),.int 1] (fiA (jJ r) side (.ref D0) B0 B1 X) (zCr (jJ r) false side (.ref D0) B0 B1 X (Z6 X)):=by
 have hl:(r++[D0]).length=15:=by rw [List.length_append,hr];rfl
 have hn:=Nat.le_of_eq hr.symm;have we:(V.ref (nm 14)).wf 15:=yE;have e14:(V.ref (nm 14)).ren (r++[D0]) = .ref D0:=congrArg V.ref (by rw [z9];have:=y7 (r:=r) (l:=[D0]) (k:=0);rw [hr] at this;exact this);have k:=zM (E:=EB w mg mb 7 [100026]) (r:=r++[D0]) (f:=498) (Q:=zCr (jJ r) false side ((V.ref (nm 14)).ren (r++[D0])) B0 B1 X (Z6 X)) (xs:=[.ref (nm 12),.ref (nm 0),.int 1]) (o:=fiA nm side (.ref (nm 14)) B0 B1 X) (n0:=15) (n:=60) (zD7 w mg mb).2 ⟨hl,zHR h (Nat.le_succ 14) we,λ_ h=>absurd h List.not_mem_nil⟩ (zP (by kernel_rfl)) rfl
  (T:=fiR X (λx y=>j8 (r++[D0]) (zCr (jJ r) false side ((V.ref (nm 14)).ren (r++[D0])) B0 B1 X (Z6 X)) .none (fiO nm false side (.ref (nm 14)) B0 B1 X x y 100584 100578 100582) 293) 3 1) (by kernel_rfl) (zKs h hc (by decide) (by decide) λx y ex ey=>zHS (b:=false) (D:=100584) (q0:=100578) (q1:=100582) h hn (hl▸we) [100584,100582,100578,100018,100020,100022,100012,100014,100016,100024,100026,100000,100006,100008] ex ey (by kernel_rfl))
 rw [zHQ h hn,e14] at k;rw [<- jn (t:=[D0]) hr (by decide),<- jn (t:=[D0]) hr (by decide)];exact k
end
noncomputable def zQE (bx wd:Addr):=(rdX bx).bind λ_=>(rdW wd).bind λwh=>(rdL wh.D).bind λ_=>zOv wh.bs
noncomputable def zJI (bx wd:Addr):=(zGo bx).bind λ_=>(zCl wd).bind λwh=>(zAN wh.D).bind λ_=>zDh wh.bs
noncomputable def fiZ (f:Nat->Addr) (side:Int) (dl:List V) (B0 B1:Bd) (X:Bx):jA:=jc (f 12) (f 13) X++([(f 0,zGn ⟨side,f 1,f 2,f 3,f 4,f 5⟩)]++([(f 3,.list dl)]++([(f 4,.list [.ref (f 6),.ref (f 9)])]++(jI (f 6) (f 7) (f 8) B0++jI (f 9) (f 10) (f 11) B1))))
theorem zPA {x w d e b0 b1:jA}:(x++(w++(d++(e++(b0++b1))))).Perm (b1++(b0++(x++w))++(d++e)):=by rw [<- List.append_assoc x w,<- List.append_assoc d e,<- List.append_assoc b1 b0];refine ((List.perm_append_comm.append_left _).append_left _).trans ((List.perm_append_comm.append_left _).trans ?_);rw [<- List.append_assoc (x++w)];exact List.perm_append_comm.append_right _
theorem fiZ_perm {f:Nat->Addr}{side:Int}{e:V}{B0 B1:Bd}{X:Bx}:(fiZ f side [e,.none] B0 B1 X).Perm (fiA f side e B0 B1 X):=zPA
noncomputable def zPB (bx wd:Addr) (s:SS) (K:List Addr->Int->List V->Bd->Bd->Bx->jA->Tree):Tree:=jS (zQE bx wd s.o) λq=>j3 (q.1.2.2.2.2.1.2.1.1++q.1.2.2.2.2.1.2.2) λl=>jS (zB5 l) λB0=>j3 (q.1.2.2.2.2.2.2.1.1++q.1.2.2.2.2.2.2.2) λl=>jS (zB5 l) λB1 =>
 gd (Nat.beq q.1.2.2.2.2.1.2.1.1.length 6&&Nat.beq q.1.2.2.2.2.2.2.1.1.length 6) (j3 q.2 λrest=>K [wd,q.1.2.1.m,q.1.2.1.nl,q.1.2.1.D,q.1.2.1.bs,q.1.2.1.rl,q.1.2.2.2.1.1,q.1.2.2.2.2.1.1,q.1.2.2.2.2.1.2.1.2,q.1.2.2.2.1.2,q.1.2.2.2.2.2.1,q.1.2.2.2.2.2.2.1.2,bx,q.1.1.1.sm] q.1.2.1.side q.1.2.2.1 B0 B1 ⟨q.1.1.1.g,q.1.1.1.su,q.1.1.1.a,q.1.1.2⟩ rest)
theorem zMz {bx wd:Addr}{s:SS}{K:List Addr->Int->List V->Bd->Bd->Bx->jA->Tree}{P:Prop}(h:(zPB bx wd s K).holds) (k:∀ l side dl B0 B1 X rest,Took s.o (fiZ (jJ l) side dl B0 B1 X) rest->l.length=14->jJ l 12=bx->jJ l 0=wd->(K l side dl B0 B1 X rest).holds->P):P :=
 jE h λq e h=>jE (jT h) λB0 e0 h=>jE (jT h) λB1 e1 h=>j1 h λhl h=>by refine k _ q.1.2.1.side q.1.2.2.1 B0 B1 _ q.2 ?_ rfl rfl rfl (jT h);have t:=zJI bx wd s.o q e;dsimp only at t;rw [zB6 e0 (jP hl).1,zB6 e1 (jP hl).2] at t;exact t
theorem zJJ {R:List Addr}{f:Nat->Addr}{b:Bool}{side c:Int}{e:V}{B0 B1:Bd}{X:Bx}{x y:Int}{D q0 q1:Addr}(h:BxI X c):jC R (fiO f b side e B0 B1 X x y D q0 q1)=fiO (λk=>jL R (f k)) b side (e.ren R) B0 B1 X x y (jL R D) (jL R q0) (jL R q1):=by unfold fiO;rw [ji,ji,zDp h.fi];cases b<;>rfl
theorem zDq {R:List Addr}{f:Nat->Addr}{side c:Int}{dl:List V}{B0 B1:Bd}{X:Bx}(h:BxI X c):jC R (fiZ f side dl B0 B1 X)=fiZ (λk=>jL R (f k)) side (dl.map (V.ren R)) B0 B1 X:=by unfold fiZ;rw [ji,yf h];rfl
theorem zNA {n:Nat}{f:Nat->Addr}{b:Bool}{side c:Int}{e:V}{B0 B1:Bd}{X:Bx}{x y:Int}{D q0 q1:Addr}(h:BxI X c) (w:∀ k,k < 14->wfA n (f k)) (he:e.wf n) (hD:wfA n D) (h0:wfA n q0) (h1:wfA n q1):owf n (fiO f b side e B0 B1 X x y D q0 q1) :=
 have row:∀ z,(Ob.list ((flL X x y).row z)).wf n:=λz=>jO trivial (jO trivial (jO trivial (jO trivial (jO trivial (jO trivial (jO trivial (jO trivial (jO trivial jj))))))))
 JR (jO ⟨hD,jO h0 (jO h1 jj)⟩ (jO ⟨h1,row y⟩ (jO ⟨h0,row x⟩ jj))) (JR (zCs h.fi w) (jO ⟨w 3 (by decide),by cases b;exact jO he (jO hD jj);exact jO hD (jO trivial jj)⟩ (zCt w)))
noncomputable def zPC (b:Bool) (l:List Addr) (side:Int) (e:V) (B0 B1:Bd) (X:Bx) (rest:jA) (s:SS) (K:V->SS->Tree):Tree:=.side (BxI X 99000) (match s with
 | ⟨_,ns,n⟩=>j3 (fiO (jJ l) b side e B0 B1 X (YT (Z6 X) (YF (QD b))) (YT (Z6 X) (YG (QD b))) (nm n) (nm (n + 1)) (nm (n + 2))++rest) λo=>K .none ⟨o,ns,n + 3⟩)
theorem zNB {l:List Addr}{n:Nat}(h:∀ a ∈ l,wfA n a) (k:Nat):wfA n (jJ l k):=by
 unfold jJ;rw [List.getD_eq_getElem?_getD];induction e:l[k]? using Option.casesOn with
 | none=>exact Qs (by decide)
 | some a=>exact h a (List.mem_of_getElem? e)
theorem Vk {b:Bool}{l r:List Addr}{side:Int}{e:V}{B0 B1:Bd}{X:Bx}{rest:jA}{s:SS}{K:V->SS->Tree}{D q0 q1:Addr}(ok:s.ok r) (hX:BxI X 99000) (w:∀ a ∈ l,wfA s.n a) (he:e.wf s.n) (hr:owf s.n rest)
  (h:(j3 (fiO (jJ l) b side e B0 B1 X (YT (Z6 X) (YF (QD b))) (YT (Z6 X) (YG (QD b))) (nm s.n) (nm (s.n + 1)) (nm (s.n + 2))++rest) λo=>K .none ⟨o,s.ns,s.n + 3⟩).holds) :
  Lift RV r K .none (fiO (jJ (l.map (jL r))) b side (e.ren r) B0 B1 X (YT (Z6 X) (YF (QD b))) (YT (Z6 X) (YG (QD b))) D q0 q1++jC r rest) (jK r s.ns):=by
 have hl:(r++[D,q0,q1]).length=s.n + 3:=by rw [List.length_append,ok.len];rfl
 have en:∀ k,jL (r++[D,q0,q1]) (nm (s.n + k))=jJ [D,q0,q1] k:=λk=>by rw [z9,<- ok.len];exact y7
 have w0:∀ k,k < 3->wfA (s.n + 3) (nm (s.n + k)):=λk hk=>⟨.inr (by unfold nm;omega)⟩;refine Lift.of' (y:=.none) (s:=⟨_,s.ns,s.n + 3⟩) [D,q0,q1] ⟨hl,JR (zNA hX (λk _=>(zNB w k).mono (Nat.le_add_right _ _)) (he.mono (Nat.le_add_right _ _)) (w0 0 (by decide)) (w0 1 (by decide)) (w0 2 (by decide))) (hr.mono (Nat.le_add_right _ _)),ok.ns.mono (Nat.le_add_right _ _)⟩ trivial rfl ?_ ok.app.2.symm (jT h);rw [ji,zJJ hX,yB (ok.len▸hr),V.ren_app (ok.len▸he),en 0,en 1,en 2,yt,show l.map (jL (r++[D,q0,q1]))=l.map (jL r) from List.map_congr_left λa ha=>zK (ok.len▸w a ha)];rfl
theorem zJK {l:List Addr}{k:Nat}(h:l.length=k):l=(List.range k).map (jJ l):=by subst h;refine List.ext_getElem (by rw [List.length_map,List.length_range]) λi h1 h2=>?_;rw [List.getElem_map,List.getElem_range];exact (List.getElem_eq_getD 0)
theorem Yn {α:Type}{P:α->Prop}{l:List α}(h:∀ a ∈ l,P a) (k:Nat) (hk:Nat.ble (k + 1) l.length=true):P (l[k]'(Nat.le_of_ble_eq_true hk)):=h _ (List.getElem_mem _)
theorem zPD {l:List Addr}{side:Int}{dl:List V}{B0 B1:Bd}{X:Bx}{n:Nat}(hl:l.length=14) (h:∀ p ∈ fiZ (jJ l) side dl B0 B1 X,wfA n p.1/\p.2.wf n):∀ a ∈ l,wfA n a:=by
 generalize e:jJ l=f at h;have c:=(h _ (.tail _ (.tail _ (.head _)))).2;have m:∀ a ∈ (fiZ f side dl B0 B1 X).map Prod.fst,wfA n a:=λa ha=>by obtain ⟨p,hp,rfl⟩:=List.mem_map.mp ha;exact (h p hp).1
 rw [zJK hl,e];exact jO (Yn m 2 rfl) (jO (Yn c 1 rfl) (jO (Yn c 2 rfl) (jO (Yn m 3 rfl) (jO (Yn m 4 rfl) (jO (Yn c 5 rfl) (jO (Yn m 5 rfl) (jO (Yn m 6 rfl) (jO (Yn m 7 rfl) (jO (Yn m 8 rfl) (jO (Yn m 9 rfl) (jO (Yn m 10 rfl) (jO (Yn m 0 rfl) (jO (Yn m 1 rfl) jj)))))))))))))
noncomputable def filS:Spec:=λxs s K=>jS (Yh xs) λq=>jS q.1.ref? λbx=>jS q.2.1.ref? λwd=>jS q.2.2.int? λlv=>zPB bx wd s λl side dl B0 B1 X rest=>jS (two dl) λd=>gd d.2.isNone
 (cond (lv==0) (gd d.1.isNone (zPC true l side .none B0 B1 X rest s K)) (gd (lv==1) (jS d.1.ref? λD0=>zPC false l side (.ref D0) B0 B1 X rest s K)))
theorem zJL:jh (Mine.KP.heap_1 w.params) mg mb 498 7 filS:=λxs s K h W A r G R ok hx =>
 jE h λq e0 h=>jE h λbx e1 h=>jE h λwd e2 h=>jE h λlv e3 h=>zMz h λl side dl B0 B1 X rest tk hl hb hw h=>jE h λd ed h=>j1 h λhd h=>by
  rw [yT e0,jg e1,jg e2,jk e3,<- hb,<- hw];have wl:=zPD hl λp hp=>ok.o p (tk.m p hp);have wr:owf s.n rest:=λp hp=>ok.o p (tk.n p hp);have hr:(l.map (jL r)).length=14:=by rw [List.length_map];exact hl
  have pp:=tk.p r;have eD:=yL ed;rw [ZC hd] at eD;subst eD;rw [show ([V.ref (jJ l 12),V.ref (jJ l 0),.int lv]:List V).map (V.ren r)=[.ref (jJ (l.map (jL r)) 12),.ref (jJ (l.map (jL r)) 0),.int lv] from by rw [<- yt];rfl];induction c0:lv==0 using Bool.casesOn with
  | true =>rw [c0] at h;obtain rfl:=eq_of_beq c0;refine j1 h λhn h=>yY h λhX h=>?_;rw [ZC hn,zDq hX,yt] at pp;refine Cl.use (zMx hX (by decide) (l.map (jL r)) hr) G R (Nat.le_refl _) (pp.trans (fiZ_perm.append_right _)) ?_;rintro _ _ ⟨D,q0,q1,rfl,rfl⟩;exact Vk (b:=true) (e:=.none) ok hX wl trivial wr h
  | false =>
   rw [c0] at h;refine j1 h λhn k=>jE k λD0 ed k=>yY k λhX k=>?_;obtain rfl:=eq_of_beq hn;have wD:(V.ref D0).wf s.n:=by have:=(ok.o _ (tk.m _ (.tail _ (.tail _ (.tail _ (.head _)))))).2 d.1 (.head _);rwa [jg ed] at this
   rw [jg ed,zDq hX,yt] at pp;refine Cl.use (zMy hX (by decide) (l.map (jL r)) hr (jL r D0)) G R (Nat.le_refl _) (pp.trans (fiZ_perm.append_right _)) ?_;rintro _ _ ⟨D,q0,q1,rfl,rfl⟩;exact Vk (b:=false) (e:=.ref D0) ok hX wl wD wr k
end
section
set_option linter.unusedVariables false
variable {w:World} {mg mb:Str->Option Value}
theorem cfl {a b:Nat}(h:a<=179) (k:b<=255):46079 - (256 * a + b)=256 * (179 - a) + (255 - b) :=
 Nat.sub_eq_of_eq_add (by rw [Nat.add_add_add_comm,<- Nat.mul_add,Nat.sub_add_cancel h,Nat.sub_add_cancel k])
theorem zCu {s:Nat}(h:s < 65536):46079 - (s &&& 46079)=46079 ^^^ (s &&& 46079):=by
 have hi:∀ a,a < 256->(a &&& 179)<=179/\179 - (a &&& 179)=179 ^^^ (a &&& 179):=by decide +kernel
 have lo:∀ a,a < 256->(a &&& 255)<=255/\255 - (a &&& 255)=255 ^^^ (a &&& 255):=by decide +kernel
 have h1:=hi (s / 2 ^ 8) (Nat.div_lt_of_lt_mul h);have h2:=lo (s % 2 ^ 8) (Nat.mod_lt _ (by decide));have q1:(s &&& 46079) / 2 ^ 8=s / 2 ^ 8 &&& 179:=Nat.and_div_two_pow;have q2:(s &&& 46079) % 2 ^ 8=s % 2 ^ 8 &&& 255:=Nat.and_mod_two_pow;rw [<- Nat.div_add_mod (46079 ^^^ (s &&& 46079)) (2 ^ 8),Nat.xor_div_two_pow,Nat.xor_mod_two_pow,q1,q2];refine .trans ?_ ((cfl h1.1 h2.1).trans (by rw [h1.2,h2.2]));rw [<- q1,<- q2,show 256=2 ^ 8 from rfl,Nat.div_add_mod]
theorem zHT (a b:Nat):la (a:Int) (b:Int)=((a &&& b:Nat):Int):=by unfold la PySem.Builtin.bitAnd;simp only [Int.natCast_nonneg,decide_true,Int.toNat_natCast]
theorem Qg (a k:Nat):jq (a:Int) (k:Int)=((a.testBit k).toNat:Int):=by unfold jq;rw [Int.toNat_natCast,zCd,Nat.toNat_testBit,<- zK9];rfl
theorem zBj {s:Int}(h0:0<=s) (h1:s < 65536):la (la (la s 46079) 4294967295) 46079=la s 46079/\la (la (46079 - la s 46079) 4294967295) 46079=46079 - la s 46079/\∀ k ∈ causesL,jq (46079 - la s 46079) k=1 - jq (la s 46079) k:=by
 obtain ⟨n,rfl⟩:=Int.eq_ofNat_of_zero_le h0;have cf:=zCu (s:=n) (Int.ofNat_lt.mp h1);have e1:la (n:Int) 46079=((n &&& 46079:Nat):Int):=zHT n 46079;have hle:n &&& 46079<=46079:=Nat.and_le_right;have e2:(46079:Int) - ((n &&& 46079:Nat):Int)=((46079 ^^^ (n &&& 46079):Nat):Int):=by rw [<- cf,Int.ofNat_sub hle];rfl
 have full:∀ m:Nat,m<=46079->la (la (m:Int) 4294967295) 46079=((m &&& 46079:Nat):Int):=λm hm=>by rw [Jt,Int.emod_eq_of_lt (Int.natCast_nonneg m) (show (m:Int) < 4294967296 from Int.ofNat_lt.mpr (Nat.lt_of_le_of_lt hm (by decide)))];exact zHT m 46079
 rw [e1,e2,full _ hle,full _ (by rw [<- cf];exact Nat.sub_le ..)];refine ⟨by rw [Nat.and_assoc,Nat.and_self],congrArg Nat.cast (Nat.eq_of_testBit_eq λi=>?_),λk hk=>?_⟩
 ·rw [Nat.testBit_and,Nat.testBit_xor,Nat.testBit_and];cases n.testBit i<;>cases Nat.testBit 46079 i<;>rfl
 ·obtain ⟨k0,k1⟩:=(by decide +kernel:∀ k ∈ causesL,k=(k.toNat:Int)/\Nat.testBit 46079 k.toNat=true) k hk;rw [k0,Qg,Qg,Nat.testBit_xor,Nat.testBit_and,k1];cases n.testBit k.toNat<;>rfl
noncomputable def zPE (n:Int):Int:=j5 (j5 (j5 (j5 (j5 (j5 0 1 (la (n / 2) 1==1)) 3 (la (n / 8) 1==1)) 5 (la (n / 32) 1==1)) 7 (la (n / 128) 1==1)) 9 (la (n / 512) 1==1)) 11 (la (n / 2048) 1==1)
theorem zJM {wa:Int}(h:wa ∈ waL):zPE wa=wa:=eq_of_beq ((List.all_eq_true.mp (by decide +kernel:(waL.all λw=>zPE w==w)=true)) wa h)
structure EnF (e:Int):Prop where
 a:la (la e 4294967295) 546=e
 b:la (la (546 - e) 4294967295) 546=546 - e
 c:la (la e 4294967295) 2730=e
 d:∀ s ∈ linesL,jq (546 - e) s=1 - jq e s
theorem Vl {e:Int}(h:e ∈ enL):EnF e:=by have k:=List.all_eq_true.mp (by decide +kernel:(enL.all λe=>(la (la e 4294967295) 546==e&&la (la (546 - e) 4294967295) 546==546 - e)&&(la (la e 4294967295) 2730==e&&linesL.all λs=>jq (546 - e) s==1 - jq e s))=true) e h;obtain ⟨k1,k2⟩:=jP k;exact ⟨eq_of_beq (jP k1).1,eq_of_beq (jP k1).2,eq_of_beq (jP k2).1,λs hs=>eq_of_beq (List.all_eq_true.mp (jP k2).2 s hs)⟩
noncomputable def Z0:Lv:=⟨0,7,0,0,0,0,0,0,0,0⟩
theorem zDr {h li en r wa root:Int}(hh:la (la h 4294967295) 46079=h) (hl:la (la li 4294967295) 546=li) (he:en ∈ enL) (hr:r ∈ b8) (hw:wa ∈ waL):bdN h li en (r * 131072) (root % 4294967296) wa=jM Z0 0 Z0 0 { r:=r,de:=h,li:=li,en:=en,wa:=wa,sa:=la (root % 4294967296) 2151677951 }:=by unfold bdN jM;rw [zIH hr,hh,hl,(Vl he).c,zDm,show j5 _ _ _=_ from zJM hw];rfl
theorem okZ {c:Cm}(hr:c.r ∈ b8):Z4 Z0 0 Z0 0 c:=⟨zn,zn,zn,zn,zn,QB,hr⟩
theorem zBk {s h li en r wa sa:Int}{L0 L1:Lv}{side begin:Int}(hs0:0<=s) (hs1:s < 65536) (eh:h=la s 46079) (he:en ∈ enL) (hside:(side=0/\li=en)\/(side=1/\li=546 - en)) (hr:r ∈ b8) (hw:wa ∈ waL) (hb:begin=0\/begin=1) (o0:Okl 0 L0) (o1:Okl 1 L1) :
  WOk 0 side begin begin L0 L1 { r:=r,de:=h,li:=li,en:=en,wa:=wa,sa:=sa } { r:=r,de:=46079 - h,li:=546 - li,en:=en,wa:=wa,sa:=sa } [] [] []:=by
 have dl:=(Vl he).d;subst eh;refine ⟨o0,o1,hr,hr,⟨(zBj hs0 hs1).2.2,λk hk=>?_⟩,⟨he,rfl,hw,rfl,hside.imp (λq=>⟨q.1,q.2,congrArg (546 - ·) q.2⟩) λq=>⟨q.1,q.2,by show 546 - li=en;rw [q.2];omega⟩⟩,hb.imp (λq=>⟨q,q⟩) λq=>.inl ⟨q,q⟩,.nil,.nil⟩;rcases hside with ⟨_,rfl⟩ | ⟨_,rfl⟩
 ·exact dl k hk
 ·have:=dl k hk;show jq (546 - (546 - en)) k=1 - jq (546 - en) k;rw [this,show 546 - (546 - en)=en by omega];omega
noncomputable def SPd:List (Addr×(Nat×Spec)):=(498,(7,filS))::SPc
theorem zNC:∀ p ∈ SPd,jh (Mine.KP.heap_1 w.params) mg mb p.1 p.2.1 p.2.2:=zI zJL zMv
section
variable (X:Bx)
noncomputable def ZJ:Bx:=jD (jD (jD X 2) 2) 4
noncomputable def wX6:Bx:=jD (jD (jD (ZJ X) 65536) 7) 8
noncomputable def Yq:Bx:=jD (jD (wX6 X) 64) 65536
noncomputable def wcS:Int:=jF (jD X 2) 2
noncomputable def wcH:Int:=jw (jF (jD (jD X 2) 2) 4) [46079,0,la (jF (ZJ X) 65536) 46079,la (jF (ZJ X) 65536) 46079]
noncomputable def wcM:Int:=zAF (1 + jF (jD (ZJ X) 65536) 7)
noncomputable def wcL:Int:=jw (wcS X) [wcM X,546 - wcM X]
noncomputable def wcR:Int:=jF (jD (jD (ZJ X) 65536) 7) 8
noncomputable def wcW:Int:=zAG (jF (wX6 X) 64)
noncomputable def wcT:Int:=(jF (jD (wX6 X) 64) 65536 + 1) * 2654435761
noncomputable def wc0:Cm:=⟨wcR X,wcH X,wcL X,wcM X,wcW X,la (wcT X % 4294967296) 2151677951⟩
noncomputable def wc1:Cm:=⟨wcR X,46079 - wcH X,546 - wcL X,wcM X,wcW X,la (wcT X % 4294967296) 2151677951⟩
noncomputable def wL0:Lv:=flL (Yq X) (YT (Z6 (Yq X)) 1) (YT (Z6 (Yq X)) 3)
noncomputable def wL1:Lv:=flL (fiX (Yq X)) (YT (Z6 (fiX (Yq X))) 3) (YT (Z6 (fiX (Yq X))) 1)
noncomputable def wB0:Bd:=flM (flS (bdN (wcH X) (wcL X) (wcM X) (wcR X * 131072) (wcT X % 4294967296) (wcW X)) (Yq X) (YT (Z6 (Yq X)) 1)) (fiX (Yq X)) (YT (Z6 (fiX (Yq X))) 3)
noncomputable def wB1:Bd:=flS (flM (bdN (46079 - wcH X) (546 - wcL X) (wcM X) (wcR X * 131072) (wcT X % 4294967296) (wcW X)) (Yq X) (YT (Z6 (Yq X)) 3)) (fiX (Yq X)) (YT (Z6 (fiX (Yq X))) 1)
end
inductive zHU (bx sm:Addr) (c:Int) (y:V) (o:jA):Prop
 | mk (r:List Addr) (side begin:Int) (L0 L1:Lv) (c0 c1:Cm) (X:Bx) (hr:r.length=22) (hy:y = .ref (jJ r 0)) (hW:WOk 0 side begin begin L0 L1 c0 c1 [] [] []) (hB:BxI X c) (ho:o=wF (jJ r) (zb side begin begin L0 L1 c0 c1 [] [])++jc bx sm X)
section
variable {S M:Lv} {sx mx x y z:Int} {c:Cm} {X:Bx}
theorem ya (k m:Int):la (la (zv X k) 4294967295) m=la (zv X k) m:=zJ _ _
theorem zDs (h:Z4 S sx M mx c) (hx:z ∈ b2):flS (jM S sx M mx c) X z=jM (flL X x y) z M mx c:=by unfold flS;rw [show ja 256 (jM S sx M mx c).st _ _ z=_ from congrArg Bd.st (yh (y:=y) h (j9 (jG (by decide))) (j9 (jG (by decide))) hx),ya,ya,ya];rfl
theorem zDt (h:Z4 S sx M mx c) (hy:z ∈ b3):flM (jM S sx M mx c) X z=jM S sx (flL X x y) z c:=by unfold flM;rw [show ja 768 (jM S sx M mx c).st _ _ z=_ from congrArg Bd.st (yi (x:=x) h (j9 (jG (by decide))) (j9 (jG (by decide))) hy),ya,ya,ya];rfl
theorem zHV {lv:Int}(hx:(x=0/\y=0)\/(x=1/\y=1)\/(x=YF lv/\y=YG lv)):Okl lv (flL X x y):=⟨(zW (by decide)).1,(zW (by decide)).2,j9 (jG (by decide)),j9 (jG (by decide)),hx⟩
theorem zHW {i a b:Int}:(YT i a=0/\YT i b=0)\/(YT i a=1/\YT i b=1)\/(YT i a=a/\YT i b=b):=by
 unfold YT;cases i==0
 ·cases i==1
  ·exact .inr (.inr ⟨rfl,rfl⟩)
  ·exact .inr (.inl ⟨rfl,rfl⟩)
 ·exact .inl ⟨rfl,rfl⟩
theorem JA {n x:Int}(hn:0<=n/\n<=64) (h:x.natAbs < 18446744073709551616):(decide (0<=n)&&(decide (n<=64)&&decide (x.natAbs < 18446744073709551616)))=true:=by rw [decide_eq_true hn.1,decide_eq_true hn.2,decide_eq_true h];rfl
end
theorem zPF {x:Int}(h:0<=x/\x < 2):x=0\/x=1:=by obtain ⟨n,rfl⟩:=Int.eq_ofNat_of_zero_le h.1;exact (by decide:∀ n:Nat,n < 2->(n:Int)=0\/(n:Int)=1) n (Int.ofNat_lt.mp h.2)
theorem lt4 {n:Nat}(h:n < 4):n=0\/n=1\/n=2\/n=3:=(by decide:∀ n:Nat,n < 4->n=0\/n=1\/n=2\/n=3) n h
theorem zHX (X:Bx):WOk 0 (wcS X) (jF X 2) (jF X 2) (wL0 X) (wL1 X) (wc0 X) (wc1 X) [] [] []/\wB0 X=jM (wL0 X) (wL0 X).x (wL1 X) (wL1 X).x (wc0 X)/\wB1 X=jM (wL1 X) (wL1 X).y (wL0 X) (wL0 X).y (wc1 X):=by
 have h0:Okl 0 (wL0 X):=zHV zHW;have h1:Okl 1 (wL1 X):=zHV zHW;have d4:=jG (X:=jD (jD X 2) 2) (m:=4) (by decide);have ds:=jG (X:=ZJ X) (m:=65536) (by decide);have d7:=jG (X:=jD (ZJ X) 65536) (m:=7) (by decide);have d8:=jG (X:=jD (jD (ZJ X) 65536) 7) (m:=8) (by decide);have d64:=jG (X:=wX6 X) (m:=64) (by decide);have hS:wcS X=0\/wcS X=1:=zPF (jG (X:=jD X 2) (m:=2) (by decide));have hb:jF X 2=0\/jF X 2=1:=zPF (jG (X:=X) (m:=2) (by decide));have he:wcM X ∈ enL:=zB2 (Int.add_nonneg (by decide) d7.1) (Int.add_lt_add_left d7.2 1);have hw:wcW X ∈ waL:=zB3 d64.1 d64.2;have hr:wcR X ∈ b8:=by
  have:∀ n:Nat,n < 8->(n:Int) ∈ b8:=by decide
  have:=this (wcR X).toNat ((Int.toNat_lt d8.1).mpr d8.2);rwa [Int.toNat_of_nonneg (show 0<=wcR X from d8.1)] at this
 have hH:∃ s,0<=s/\s < 65536/\wcH X=la s 46079:=by
  have hx:∀ k:Nat,(jF (jD (jD X 2) 2) 4).toNat=k->wcH X=jw (k:Int) [46079,0,la (jF (ZJ X) 65536) 46079,la (jF (ZJ X) 65536) 46079]:=λk q=>by rw [<- q,Int.toNat_of_nonneg d4.1];rfl
  exact (lt4 ((Int.toNat_lt d4.1).mpr d4.2)).elim (λq=>⟨65535,by decide,by decide,hx 0 q⟩) λq=>q.elim (λq=>⟨0,by decide,by decide,hx 1 q⟩) λq=>q.elim (λq=>⟨_,ds.1,ds.2,hx 2 q⟩) λq=>⟨_,ds.1,ds.2,hx 3 q⟩
 obtain ⟨s,hs0,hs1,eh⟩:=hH;have hL:(wcS X=0/\wcL X=wcM X)\/(wcS X=1/\wcL X=546 - wcM X):=hS.imp (λq=>⟨q,by unfold wcL;rw [q];rfl⟩) λq=>⟨q,by unfold wcL;rw [q];rfl⟩;have df:=zBj hs0 hs1;rw [<- eh] at df;have ef:=Vl he;have l0:la (la (wcL X) 4294967295) 546=wcL X:=by rcases hL with q | q<;>rw [q.2];exact ef.a;exact ef.b
 have l1:la (la (546 - wcL X) 4294967295) 546=546 - wcL X:=by
  rcases hL with q | q<;>rw [q.2]
  ·exact ef.b
  ·rw [Int.sub_sub_self];exact ef.a
 refine ⟨zBk hs0 hs1 eh he hL hr hw hb h0 h1,?_,?_⟩
 ·have e:bdN (wcH X) (wcL X) (wcM X) (wcR X * 131072) (wcT X % 4294967296) (wcW X)=jM Z0 0 Z0 0 (wc0 X):=zDr df.1 l0 he hr hw;exact (congrArg (λB=>flM (flS B (Yq X) _) (fiX (Yq X)) _) e).trans ((congrArg (λB=>flM B (fiX (Yq X)) _) (zDs (S:=Z0) (M:=Z0) (sx:=0) (mx:=0) (c:=wc0 X) (X:=Yq X) (z:=(wL0 X).x) (okZ hr) h0.b0.1)).trans (zDt (S:=wL0 X) (M:=Z0) (mx:=0) (c:=wc0 X) (X:=fiX (Yq X)) (z:=(wL1 X).x) ⟨h0.l,h0.a,h0.b0.1,zn,zn,QB,hr⟩ h1.b1.1))
 ·have e:bdN (46079 - wcH X) (546 - wcL X) (wcM X) (wcR X * 131072) (wcT X % 4294967296) (wcW X)=jM Z0 0 Z0 0 (wc1 X):=zDr df.2.1 l1 he hr hw;exact (congrArg (λB=>flS (flM B (Yq X) _) (fiX (Yq X)) _) e).trans ((congrArg (λB=>flS B (fiX (Yq X)) _) (zDt (S:=Z0) (M:=Z0) (sx:=0) (mx:=0) (c:=wc1 X) (X:=Yq X) (z:=(wL0 X).y) (okZ hr) h0.b0.2)).trans (zDs (S:=Z0) (M:=wL0 X) (sx:=0) (c:=wc1 X) (X:=fiX (Yq X)) (z:=(wL1 X).y) ⟨zn,zn,zn,h0.l,h0.a,h0.b0.2,hr⟩ h1.b1.2))
theorem zJN {bx sm a:Addr}{c c':Int}{n:Nat}{v:Wv}{side b:Int}{L0 L1:Lv}{c0 c1:Cm}{X:Bx}(ns:List Addr) (hl:ns.length=22) (ha:jJ ns 0=a) (hv:v=zb side b b L0 L1 c0 c1 [] []) (hW:WOk 0 side b b L0 L1 c0 c1 [] [] []) (hB:BxI X c') (hc:c'<=c):(Tree.prop (jv [bx,sm] (zHU bx sm c) (.ref a) ns v (jc 100000 100002 X) n)).holds:=λt _=>by subst hv ha;exact .mk (ns.map (jL ([bx,sm]++t))) side b L0 L1 c0 c1 X (by rw [List.length_map];exact hl) (congrArg V.ref (congrFun yt 0)) hW (hB.up hc) (by rw [yf hB];rfl)
theorem zJO {X:Bx}{c:Int}(hB:BxI X c) (hc:c<=90000) (bx sm:Addr):Ct (Mine.KP.heap_1 w.params) mg mb 8 (.ref 503) [.ref bx] (jc bx sm X) (zHU bx sm (c + 20)):=by
 have b1:=hB.next (m:=2) (by decide);have b2:=b1.next (m:=2) (by decide);have b3:BxI (ZJ X) _:=b2.next (m:=4) (by decide);have b4:=b3.next (m:=65536) (by decide);have b5:=b4.next (m:=7) (by decide);have b6:BxI (wX6 X) _:=b5.next (m:=8) (by decide);have b7:=b6.next (m:=64) (by decide);have b8':BxI (Yq X) _:=b7.next (m:=65536) (by decide);have d1:=jG (X:=jD X 2) (m:=2) (by decide);have d2:=jG (X:=jD (jD X 2) 2) (m:=4) (by decide);have d5:=jG (X:=jD (jD (ZJ X) 65536) 7) (m:=8) (by decide);have hv:(⟨wcS X,jF X 2,jF X 2,(wL0 X).ints (wL0 X).x,(wL0 X).ints (wL0 X).y,(wL1 X).ints (wL1 X).x,(wL1 X).ints (wL1 X).y,(wc0 X).ints,(wc1 X).ints,wB0 X,wB1 X,[],[]⟩ : Wv)=zb (wcS X) (jF X 2) (jF X 2) (wL0 X) (wL1 X) (wc0 X) (wc1 X) [] []:=by rw [(zHX X).2.1,(zHX X).2.2];rfl
 have k:=zAD (E:=EC w mg mb 8 [100002] SPd zNC) (r:=[bx,sm]) (f:=503) (Q:=zHU bx sm (c + 20)) (K:=zOz [bx,sm] (zHU bx sm (c + 20)) [100000,100002]) (zJH [100000,100002]) (xs:=[.ref 100000]) (o:=jc 100000 100002 X) (n0:=2) (n:=60) (zGZ w mg mb).2 ⟨rfl,Yj hB (wfB_h rfl) (wfB_h rfl),λ_ h=>absurd h List.not_mem_nil⟩ (zP rfl) rfl
  (T:=.side (zX X 2) (.side (zX (jD X 2) 2) (.side (zX (jD (jD X 2) 2) 4) (.side (zX (ZJ X) 65536) (.br (decide (0<=jF (jD (jD X 2) 2) 4/\jF (jD (jD X 2) 2) 4 < (((([46079,0,la (jF (ZJ X) 65536) 46079,la (jF (ZJ X) 65536) 46079]:List Int)).length:Nat):Int))) (.side (zX (jD (ZJ X) 65536) 7) (.br (decide ((0:Int)<=1)&&(decide ((1:Int)<=64)&&decide ((la ((1 + jF (jD (ZJ X) 65536) 7) / 1) 1).natAbs < 18446744073709551616))) (.br (decide ((0:Int)<=5)&&(decide ((5:Int)<=64)&&decide ((la ((1 + jF (jD (ZJ X) 65536) 7) / 2) 1).natAbs < 18446744073709551616))) (.br (decide ((0:Int)<=9)&&(decide ((9:Int)<=64)&&decide ((la ((1 + jF (jD (ZJ X) 65536) 7) / 4) 1).natAbs < 18446744073709551616))) (.br (decide (0<=jF (jD X 2) 2/\jF (jD X 2) 2 < (((([[la ((1 + jF (jD (ZJ X) 65536) 7) / 1) 1 * 2,la ((1 + jF (jD (ZJ X) 65536) 7) / 2) 1 * 32,la ((1 + jF (jD (ZJ X) 65536) 7) / 4) 1 * 512].sum,546 - [la ((1 + jF (jD (ZJ X) 65536) 7) / 1) 1 * 2,la ((1 + jF (jD (ZJ X) 65536) 7) / 2) 1 * 32,la ((1 + jF (jD (ZJ X) 65536) 7) / 4) 1 * 512].sum]:List Int)).length:Nat):Int))) (.side (zX (jD (jD (ZJ X) 65536) 7) 8) (.br (decide ((0:Int)<=17)&&(decide ((17:Int)<=64)&&decide ((jF (jD (jD (ZJ X) 65536) 7) 8).natAbs < 18446744073709551616))) (.side (zX (wX6 X) 64) (.br (decide ((0:Int)<=1)&&(decide ((1:Int)<=64)&&decide ((la (jF (wX6 X) 64 / 1) 1).natAbs < 18446744073709551616))) (.br (decide ((0:Int)<=3)&&(decide ((3:Int)<=64)&&decide ((la (jF (wX6 X) 64 / 2) 1).natAbs < 18446744073709551616))) (.br (decide ((0:Int)<=5)&&(decide ((5:Int)<=64)&&decide ((la (jF (wX6 X) 64 / 4) 1).natAbs < 18446744073709551616))) (.br (decide ((0:Int)<=7)&&(decide ((7:Int)<=64)&&decide ((la (jF (wX6 X) 64 / 8) 1).natAbs < 18446744073709551616))) (.br (decide ((0:Int)<=9)&&(decide ((9:Int)<=64)&&decide ((la (jF (wX6 X) 64 / 16) 1).natAbs < 18446744073709551616))) (.br (decide ((0:Int)<=11)&&(decide ((11:Int)<=64)&&decide ((la (jF (wX6 X) 64 / 32) 1).natAbs < 18446744073709551616))) (.side (zX (jD (wX6 X) 64) 65536) (.side (IntMulOk (jF (jD (wX6 X) 64) 65536 + 1) 2654435761) (.side (BxI (Yq X) 99000) (.side (BxI (fiX (Yq X)) 99000) (.prop (jv [bx,sm] (zHU bx sm (c + 20)) (.ref 100086) [100086,100088,100094,100090,100092,100096,100140,100146,100142,100144,100148,100150,100114,100136,100124,100134,100100,100102,100104,100108,100110,100112] ⟨wcS X,jF X 2,jF X 2,(wL0 X).ints (wL0 X).x,(wL0 X).ints (wL0 X).y,(wL1 X).ints (wL1 X).x,(wL1 X).ints (wL1 X).y,(wc0 X).ints,(wc1 X).ints,wB0 X,wB1 X,[],[]⟩ (jc 100000 100002 (fiX (fiX (Yq X)))) 76)))))) .fail) .fail) .fail) .fail) .fail) .fail)) .fail)) .fail) .fail) .fail) .fail)) .fail))))) (by kernel_rfl)
  ⟨hB.tk (by omega) (by decide) (by decide),b1.tk (by omega) (by decide) (by decide),b2.tk (by omega) (by decide) (by decide),b3.tk (by omega) (by decide) (by decide),jy (decide_eq_true d2) ⟨b4.tk (by omega) (by decide) (by decide),jy (JA (by decide) (z7 _)) (jy (JA (by decide) (z7 _)) (jy (JA (by decide) (z7 _)) (jy (decide_eq_true d1) ⟨b5.tk (by omega) (by decide) (by decide),jy (JA (by decide) (by omega)) ⟨b6.tk (by omega) (by decide) (by decide),
   jy (JA (by decide) (z7 _)) (jy (JA (by decide) (z7 _)) (jy (JA (by decide) (z7 _)) (jy (JA (by decide) (z7 _)) (jy (JA (by decide) (z7 _)) (jy (JA (by decide) (z7 _)) ⟨b7.tk (by omega) (by decide) (by decide),J0 (by decide),b8'.up (by omega),b8'.fi.up (by omega),zJN _ rfl rfl hv (zHX X).1 b8'.fi.fi (by omega)⟩)))))⟩⟩)))⟩⟩
 rw [yf hB] at k;exact k
end
section
set_option linter.unusedVariables false
variable {w:World} {mg mb:Str->Option Value}
structure Vm (r:List Addr) (P:jA->jB->Prop) (f:Fl) (s:SS):Prop where
 f:f = .next
 p:∀ t,(r++t).length=s.n->P (jC (r++t) s.o) (jK (r++t) s.ns)
noncomputable def zHY (F:Yv) (fr:Fr) (t:Expr) (body:List Stmt) (x:V) (s:SS) (K:Fl->SS->Tree):Tree:=F.a fr t x s λ_ s=>F.ss fr body s K
theorem zCv {E:Est}{F:Yv}{fr:Fr}{W:Wd}{A:Around}{env:Env}{r:List Addr}{s:SS}{t:Expr}{body:List Stmt}{x:V}{P:jA->jB->Prop}{Q:Fl->jA->jB->Prop}(S:jU E F) (a:At E fr W A env r s) (hx:x.wf s.n)
  (h:(zHY F fr t body x s (λf s=>.prop (Vm r P f s))).holds) (k:∀ o n,P o n->Q .next o n):As W A env t (x.ren r) (jC r s.o) (jK r s.ns) λo n=>Es W A env body o n Q :=
 As.lift (S.a h W A env r a hx) λt1 s1 ok h=>Es.lift (S.ss h W A env _ (a.next ok)) λt2 f s2 ok2 wf h=>by
  rw [List.append_assoc] at ok2 ⊢;cases h.f
  exact k _ _ (h.p _ ok2.len)
noncomputable def zCw (st:Stmt):Option (Expr×(Expr×List Stmt)):=zJo st λt i b e _=>Vq e.isEmpty (some (t,i,b))
theorem zCx (st:Stmt):(zCw st).elim True λq=>∃ p,st = .For q.1 q.2.1 q.2.2 [] p:=zIQ λt i b e p h=>by
 induction e using List.casesOn with
 | nil=>exact ⟨p,h⟩
 | cons _ _=>exact trivial
noncomputable def zPG (e:Expr):Option Int:=zCP e λa b c _=>a.elim (c.elim (b.elim none Z3) λ_=>none) λ_=>none
noncomputable def zPH (e:Expr):Option (Expr×Int):=VF e λv s _=>(zPG s).elim none λb=>some (v,b)
theorem zND (e:Expr):(zPG e).elim True λb=>∃ k pc p,e = .Slice none (some (.Constant (.int b) k pc)) none p:=zAm λa b c p h=>by
 induction a using Option.casesOn with
 | some _=>exact trivial
 | none=>induction c using Option.casesOn with
  | some _=>exact trivial
  | none=>induction b using Option.casesOn with
   | none=>exact trivial
   | some b=>exact YZ λi hi=>(el (JL b) hi).elim λk q=>q.elim λpc q=>⟨k,pc,p,q▸h⟩
theorem zNE (e:Expr):(zPH e).elim True λq=>∃ k pc p p2,e = .Subscript q.1 (.Slice none (some (.Constant (.int q.2) k pc)) none p) p2:=Qy λv s p2 e=>jV λb eb=>(el (zND s) eb).elim λk h=>h.elim λpc h=>h.elim λp h=>⟨k,pc,p,p2,h▸e⟩
noncomputable def Fl.nextB:Fl->Bool
 | .next=>true
 | _=>false
theorem yW {f:Fl}(h:f.nextB=true):f = .next:=by cases f;rfl;contradiction
theorem zNF {E:Est}{fr:Fr}{W W':Wd}{A:Around}{env:Env}{R r:List Addr}{s s':SS}(a:At E fr W A env R s) (G:Gr W' E.K E.mg E.mb) (hc:fr.cells=[]) (ok:s'.ok r) (hf:wfA s'.n fr.L) (e:jL r fr.L=jL R fr.L):At E fr W' A env r s' :=
 ⟨G,a.R,⟨by have:=a.he.h;rw [hc,List.map_nil,<- e] at this;rw [hc,List.map_nil];exact this⟩,⟨hf,by rw [hc];exact jj⟩,ok⟩
theorem zDu {r l:jA}(h:Sel r l):∀ p ∈ r,p ∈ l:=by
 induction h with
 | nil=>exact jj
 | cons b _ ih=>exact jO (b.perm.mem_iff.mpr (.head _)) λp hp=>b.perm.mem_iff.mpr (.tail _ (ih p hp))
theorem As.drop {W:Wd}{A:Around}{env:Env}{objs objs':jA}{nss:jB}{t:Expr}{v:V}{Q:jA->jB->Prop}(s:Sel objs' objs) (h:As W A env t v objs' nss Q):As W A env t v objs nss Q:=λu hu=>Tr.drop s (h u hu)
structure BxG (X:Bx) (i:Nat):Prop where
 g0:0<=X.g
 a0:X.a=0
 ys:∃ is:List Int,X.ys=is.map V.int/\is≠[]/\is.length<=1 + i
section
variable (vs:List Value) (ys:List V)
noncomputable def Vn (scr bx sm sl:Addr) (X:Bx):jA:=(sl,.list ys)::(jc bx sm X++[(scr,z5 vs)])
noncomputable def Yo (X:Bx) (ll:jX):SS:=⟨Vn vs ys 100000 100004 100006 100008 X,[(100002,ll)],5⟩
inductive zQF (scr L bx sm sl:Addr) (i:Nat) (o:jA) (n:jB):Prop
 | mk (X:Bx) (ll:jX) (h:BxG X i) (ho:o=Vn vs ys scr bx sm sl X) (hn:n=[(L,ll)]) (hl:ll.lookup ("box":Str)=some (V.ref bx))
noncomputable def zBl (scr L bx sm sl:Addr) (i:Nat) (o:jA) (n:jB):Prop:=∃ o',Sel o' o/\zQF vs ys scr L bx sm sl i o' n
end
inductive zEl (vs:List Value) (scr:Addr) (y:V) (o:jA):Prop
 | mk (bx sm:Addr) (X:Bx) (hy:y=V.ref bx) (h:BxI X 0) (ho:o=jc bx sm X++[(scr,z5 vs)])
theorem JH {k:Str}{v:V}{ll:jX}(h:ll.lookup k=some v):∀ y x,([(k,v)]:jX).lookup y=some x->ll.lookup y=some x:=λy x e=>by
 rw [List.lookup_cons] at e;induction q:y==k using Bool.casesOn with
 | true=>rw [q] at e;obtain rfl:=Option.some.inj e;rw [eq_of_beq q];exact h
 | false=>rw [q] at e;contradiction
section
variable {vs:List Value} {ys:List V} {zs:List Int} {scr L bx sm sl:Addr} {X:Bx} {i:Nat} {r:List Addr}
theorem BxG.ren (h:BxG X i):X.ys.map (V.ren r)=X.ys:=by obtain ⟨is,e,_⟩:=h.ys;rw [e];exact j2
theorem Vo (h:BxG X i) (hy:ys=zs.map V.int):jC r (Vn vs ys scr bx sm sl X)=Vn vs ys (jL r scr) (jL r bx) (jL r sm) (jL r sl) X:=by show (_,Ob.list (ys.map (V.ren r)))::(_,Ob.sdict _)::(_,Ob.list (X.ys.map (V.ren r)))::_=_;rw [h.ren,hy,j2];rfl
theorem zBm (h:BxG X (i + 1)) (hy:ys=zs.map V.int) {c:Int}:(Tree.prop (Vm [scr,L,bx,sm,sl] (zBl vs ys scr L bx sm sl (i + 1)) .next (Yo vs ys X [("box",.ref 100004),("cell",.int c)]))).holds :=
 ⟨rfl,λt _=>⟨_,zH,.mk X (yX ([scr,L,bx,sm,sl]++t) [("box",.ref 100004),("cell",.int c)]) h ((Vo h hy).trans (by kernel_rfl)) (by kernel_rfl) (by kernel_rfl)⟩⟩
theorem BxG.more (h:BxG X i) {v:Int}:BxG { X with ys:=X.ys++[.int v],su:=X.su + v } (i + 1):=⟨h.g0,h.a0,by obtain ⟨is,e,e1,e2⟩:=h.ys;exact ⟨is++[v],by show X.ys++_=_;rw [e,List.map_append];rfl,by simp,by rw [List.length_append];show _ + 1<=_;omega⟩⟩
theorem BxG.len (h:BxG X i) (hi:i < 64):X.ys.length<=900:=by obtain ⟨is,e,_,e2⟩:=h.ys;rw [e,List.length_map];omega
theorem BxG.i0 (h:BxG X i) (hi:i < 64):BxI X 0:=⟨h.g0,by rw [h.a0];decide,by rw [h.a0];decide,by obtain ⟨is,e,e1,e2⟩:=h.ys;exact ⟨is,e,e1,by omega⟩⟩
end
noncomputable def zNG:Int:=1000000000000000000000000000000000000000000000000000000000000000000000000000000000000000000000000000000000000000000000000000000000000000000000000000000000000000000000000000000000000
theorem zNH:zNG≠0:=by decide
noncomputable def zPI (vs:List Value) (ys:List V) (scr L bx sm sl:Addr) (X:Bx) (i:Nat) (c:Int):Tree :=
 .br (X.g==0) (.br (decide (1000000000000000000<=if c < 0 then -c else c)) (.prop (Vm [scr,L,bx,sm,sl] (zBl vs ys scr L bx sm sl (i + 1)) .next (Yo vs ys { X with g:=(if c < 0 then -c else c) % zNG } [("box",.ref 100004),("cell",.int c)])))
  (.side (X.ys.length<=900) (.prop (Vm [scr,L,bx,sm,sl] (zBl vs ys scr L bx sm sl (i + 1)) .next (Yo vs ys { X with ys:=X.ys++[.int (c % 1000003)],su:=X.su + c % 1000003 } [("box",.ref 100004),("cell",.int c)])))))
  (.side (X.ys.length<=900) (.prop (Vm [scr,L,bx,sm,sl] (zBl vs ys scr L bx sm sl (i + 1)) .next (Yo vs ys { X with ys:=X.ys++[.int (c % 1000003)],su:=X.su + c % 1000003 } [("box",.ref 100004),("cell",.int c)]))))
theorem zNI {vs:List Value}{ys:List V}{zs:List Int}{scr L bx sm sl:Addr}{X:Bx}{i:Nat}{c:Int}(h:BxG X i) (hi:i < 63) (hy:ys=zs.map V.int):(zPI vs ys scr L bx sm sl X i c).holds :=
 have more:=ZE (C:=True) (λ_=>h.len (by omega)) (λ_=>zBm (vs:=vs) (scr:=scr) (L:=L) (bx:=bx) (sm:=sm) (sl:=sl) (c:=c) (h.more (v:=c % 1000003)) hy);YR (C:=True) (YR (λ_=>zBm (X:={ X with g:=(if c < 0 then -c else c) % zNG }) ⟨Int.emod_nonneg _ zNH,h.a0,h.ys.imp λ_ q=>⟨q.1,q.2.1,Nat.le_succ_of_le q.2.2⟩⟩ hy) λ_=>more trivial) (λ_=>more trivial) trivial
structure zPJ (vs:List Value) (fr:Fr) (x:V) (s:SS) (TR:List V->Addr->Addr->Addr->Addr->Addr->Bx->Nat->Int->Tree) (ER:List V->Bx->Tree):Prop where
 hL:fr.L=100002
 hc:fr.cells=[]
 hx:x = .ref 100000
 hs:s=⟨[(100006,.list [.int 0]),(100004,.sdict [("great",.int 0),("small",.ref 100006),("sum",.int 0),("at",.int 0)]),(100000,z5 vs)],[(100002,[("script",.ref 100000),("box",.ref 100004)])],4⟩
 turn:∀ ys (zs:List Int) scr L bx sm sl X i c,BxG X i->i < 63->ys=zs.map V.int->(TR ys scr L bx sm sl X i c).holds
 fin:∀ ys X,(ER ys X).holds
noncomputable def zNJ (F:Yv) (vs:List Value) (body:List Stmt) (fr:Fr) (s:SS):Tree:=jS (Yh body) λb=>jS (zCw b.2.1) λq=>jS (zPH q.2.1) λz=>jS (zG3 b.2.2) λe=>gd (z.2==63) (F.s fr b.1 s λf s=>gd f.nextB (F.e fr z.1 s λx s=>.prop
 (zPJ vs fr x s (λys scr L bx sm sl X i c=>zHY F fr q.1 q.2.2 (.int c) (Yo vs ys X [("box",.ref 100004)]) λf s=>.prop (Vm [scr,L,bx,sm,sl] (zBl vs ys scr L bx sm sl (i + 1)) f s))
  λys X=>F.e fr e (Yo vs ys X [("box",.ref 100004)]) λx s=>.prop (x = .ref 100004/\s=Yo vs ys X [("box",.ref 100004)]))))
theorem zNK {X:Bx}(h:∃ is:List Int,X.ys=is.map V.int) {n x y:Nat}(hx:wfA n x) (hy:wfA n y):owf n (jc x y X):=by obtain ⟨is,e⟩:=h;exact jO ⟨hx,jO trivial (jO hy (jO trivial (jO trivial jj)))⟩ (jO ⟨hy,λx hx=>by rw [e] at hx;obtain ⟨i,_,rfl⟩:=List.mem_map.mp hx;trivial⟩ jj)
theorem zNL {vs:List Value}{ys:List V}{zs:List Int}{r:List Addr}{X:Bx}{i:Nat}(h:BxG X i) (hy:ys=zs.map V.int) (hr:r.length=5):SS.ok r (Yo vs ys X [("box",.ref 100004)]) :=
 have w:∀ a,wfB 5 a=true->wfA 5 a:=λ_ h=>wfB_h h
 ⟨hr,jO ⟨w 100008 (by kernel_rfl),λx hx=>by rw [hy] at hx;obtain ⟨c,_,rfl⟩:=List.mem_map.mp hx;trivial⟩ (JR (zNK (h.ys.imp λ_ q=>q.1) (w 100004 (by kernel_rfl)) (w 100006 (by kernel_rfl))) (jO ⟨w 100000 (by kernel_rfl),trivial⟩ jj)),jO ⟨w 100002 (by kernel_rfl),jO (w 100004 (by kernel_rfl)) jj⟩ jj⟩
theorem zHZ {vs:List Value}{ys:List V}{zs:List Int}{scr:Addr}{E:Est}{F:Yv}{fr:Fr}{W:Wd}{A:Around}{env:Env}{R:List Addr}{q:Expr×(Expr×List Stmt)}{e:Expr}{p:Pos}
  (S:jU E F) (hL:fr.L=100002) (hc:fr.cells=[]) (a:At E fr W A env R ⟨[(100006,.list [.int 0]),(100004,.sdict [("great",.int 0),("small",.ref 100006),("sum",.int 0),("at",.int 0)]),(100000,z5 vs)],[(100002,[("script",.ref 100000),("box",.ref 100004)])],4⟩) (eS:jL R 100000=scr)
  (turn:∀ ys (zs:List Int) scr L bx sm sl X i c,BxG X i->i < 63->ys=zs.map V.int->(zHY F fr q.1 q.2.2 (.int c) (Yo vs ys X [("box",.ref 100004)]) λf s=>.prop (Vm [scr,L,bx,sm,sl] (zBl vs ys scr L bx sm sl (i + 1)) f s)).holds)
  (fin:∀ ys X,(F.e fr e (Yo vs ys X [("box",.ref 100004)]) λx s=>.prop (x = .ref 100004/\s=Yo vs ys X [("box",.ref 100004)])).holds) (hy:ys=zs.map V.int) (hl:ys.length<=63) :
  ∀ sl,ForQ W E.K E.mg E.mb A env q.1 q.2.2 (.ref sl) ((sl,.list ys)::jC R [(100006,.list [.int 0]),(100004,.sdict [("great",.int 0),("small",.ref 100006),("sum",.int 0),("at",.int 0)]),(100000,z5 vs)]) (jK R [(100002,[("script",.ref 100000),("box",.ref 100004)])])
   (Aft W A env [.Return (some e) p] λf o _=>∃ o',Sel o' o/\match f with
    | .next=>zEl vs scr .none o'
    | .ret x=>zEl vs scr x o'):=λsl=>by
 have hB:∀ {o n i},zBl vs ys scr (jL R 100002) (jL R 100004) (jL R 100006) sl i o n->∃ X,BxG X i/\Sel (Vn vs ys scr (jL R 100004) (jL R 100006) sl X) o/\∃ ll,n=[(jL R 100002,ll)]/\ll.lookup ("box":Str)=some (V.ref (jL R 100004)):=λh=>by obtain ⟨o',hs,X,ll,h,rfl,hn,hl⟩:=h;exact ⟨X,h,hs,ll,hn,hl⟩
 have key:∀ {X i W'},BxG X i->Gr W' E.K E.mg E.mb->At E fr W' A env [scr,jL R 100002,jL R 100004,jL R 100006,sl] (Yo vs ys X [("box",.ref 100004)])/\jC [scr,jL R 100002,jL R 100004,jL R 100006,sl] (Vn vs ys 100000 100004 100006 100008 X)=Vn vs ys scr (jL R 100004) (jL R 100006) sl X/\jK [scr,jL R 100002,jL R 100004,jL R 100006,sl] [(100002,[("box",.ref 100004)])]=[(jL R 100002,[(("box":Str),V.ref (jL R 100004))])]:=λh G =>
  ⟨zNF a G hc (zNL h hy rfl) (by rw [hL];exact wfB_h (n:=5) (a:=100002) (by kernel_rfl)) (by rw [hL];kernel_rfl),(Vo h hy).trans (by kernel_rfl),by kernel_rfl⟩
 refine ForQ.listInv (zBl vs ys scr (jL R 100002) (jL R 100004) (jL R 100006) sl) a.R.handled .head ⟨_,Sel.of_perm (l':=[]) ?_,.mk ⟨0,0,0,[.int 0]⟩ (yX R [("script",.ref 100000),("box",.ref 100004)]) ⟨by decide,rfl,[0],rfl,by decide,by decide⟩ rfl (by kernel_rfl) (by kernel_rfl)⟩ (λW' i o n x G hx hI=>?_) λo n hI=>?_
 ·rw [List.append_nil];unfold Vn;rw [<- eS];exact (List.Perm.swap ..).cons _
 ·obtain ⟨X,h,hs,ll,rfl,hll⟩:=hB hI;have hi:i < 63:=Nat.lt_of_lt_of_le (List.getElem?_eq_some_iff.mp hx).1 hl;obtain ⟨c,rfl⟩ : ∃ c,x = .int c:=by rw [hy] at hx;obtain ⟨c,_,e⟩:=List.mem_map.mp (List.mem_of_getElem? hx);exact ⟨c,e.symm⟩
  refine ⟨.of_mem (zDu hs _ (.head _)),As.drop hs (As.locs (JH hll) ?_)⟩;obtain ⟨k1,k2,k3⟩:=key h G;rw [<- k2,<- k3];exact zCv (x:=.int c) S k1 trivial (turn ys zs scr _ _ _ sl X i c h hi hy) λo n q=>⟨o,zH,q⟩
 ·obtain ⟨X,h,hs,ll,rfl,hll⟩:=hB hI;refine ⟨.of_mem (zDu hs _ (.head _)),Es.drop hs (Es.locs (JH hll) ?_)⟩;obtain ⟨k1,k2,k3⟩:=key h a.G;rw [<- k2,<- k3];refine jx (JW (Ev.lift (S.e (fin ys X) W A env _ k1) λt x s ok wx h'=>?_));obtain ⟨rfl,rfl⟩:=h';have ex:jL ([scr,jL R 100002,jL R 100004,jL R 100006,sl]++t) 100004=jL R 100004:=by kernel_rfl
  have eo:jC ([scr,jL R 100002,jL R 100004,jL R 100006,sl]++t) (Vn vs ys 100000 100004 100006 100008 X)=Vn vs ys scr (jL R 100004) (jL R 100006) sl X:=(Vo h hy).trans (by kernel_rfl);have hs2:Sel (jc (jL R 100004) (jL R 100006) X++[(scr,z5 vs)]) (jC ([scr,jL R 100002,jL R 100004,jL R 100006,sl]++t) (Vn vs ys 100000 100004 100006 100008 X)):=by rw [eo];exact Sel.weak zH
  have hq:zEl vs scr (V.ref (jL ([scr,jL R 100002,jL R 100004,jL R 100006,sl]++t) 100004)) (jc (jL R 100004) (jL R 100006) X++[(scr,z5 vs)]):=.mk (jL R 100004) (jL R 100006) X (congrArg V.ref ex) (h.i0 (by omega)) rfl;exact ⟨_,hs2,hq⟩
theorem zH0 {scr:Addr}{vs:List Value}{is:List Int}{E:Est}{F:Yv}{fr:Fr}{W:Wd}{A:Around}{env:Env}{u:List Addr}{s2:SS}{body:List Stmt}(S:jU E F) (hv:All2 (is.map V.int) vs) (hlen:is.length<=63) (a:At E fr W A env ([scr]++u) s2) (h:(zNJ F vs body fr s2).holds):zA4 W A env body (zEl vs scr) (jC ([scr]++u) s2.o) (jK ([scr]++u) s2.ns) :=
 jE h λb eb h=>jE h λq eq h=>jE h λz ez h=>jE h λe ee h=>j1 h λhz h=>by
  have hlen':(is.map V.int).length<=1000:=by rw [List.length_map];omega
  obtain ⟨p1,e1⟩:=el (zCx _) eq;obtain ⟨p2,p3,p4,p5,e2⟩:=el (zNE _) ez;obtain ⟨p6,e3⟩:=el (zG4 _) ee;rw [yT eb,e1,e2,e3];refine jx (Ex.lift (S.s h W A env _ a) λt f s3 ok wf h=>j1 h λhf h=>?_);rw [yW hf];have a2:=a.next ok;rw [List.append_assoc] at a2 ⊢;refine Aft.next (jx (QJ (hs:=λ_=>rfl) a.G (zIK (b:=z.2) (l:=scr) hv hlen' rfl (Ev.lift (S.e h W A env _ a2) λt2 x s4 ok4 wx h=>?_) (by rw [eq_of_beq hz];decide))));have a3:=a2.next ok4;rw [List.append_assoc] at a3 ⊢;obtain ⟨hL,hc,rfl,rfl,turn,fin⟩:=h;have hys:(is.map V.int).take z.2.toNat=(is.take z.2.toNat).map V.int:=List.map_take.symm;have hy63:(is.take z.2.toNat).length<=63:=by rw [List.length_take];omega
  generalize hy:(is.map V.int).take z.2.toNat=ys at hys ⊢;have hyl:ys.length<=63:=by rw [hys,List.length_map];exact hy63
  have eS:jL ([scr]++(u++t++t2)) 100000=scr:=by kernel_rfl
  generalize [scr]++(u++t++t2)=R at a3 eS ⊢;exact ⟨congrArg V.ref eS,eS▸.tail (.tail .head),zHZ S hL hc a3 eS turn fin hys hyl⟩
theorem zPK {scr:Addr}{vs:List Value}{is:List Int}(hv:All2 (is.map V.int) vs) (hlen:is.length<=63):Ct (Mine.KP.heap_1 w.params) mg mb 1 (.ref 408) [.ref scr] [(scr,z5 vs)] (zEl vs scr):=by
 have k:=zI7 (Q:=zEl vs scr) (E:=EW w mg mb 1 [100006] []) (r:=[scr]) (s:=⟨[(100000,z5 vs)],[],1⟩) (xs:=[.ref 100000]) (L:=zNJ (go 60 (EW w mg mb 1 [100006] []).dn) vs (ZW w mg mb).1.body)
  (ZW w mg mb).2 ⟨rfl,jO ⟨wfB_h (n:=1) (a:=100000) rfl,trivial⟩ jj,λ_ h=>absurd h List.not_mem_nil⟩ (zP rfl) rfl
  (by
   have e:inG (ZW w mg mb).1 [.ref 100000] ⟨[(100000,z5 vs)],[],1⟩ (zNJ (go 60 (EW w mg mb 1 [100006] []).dn) vs (ZW w mg mb).1.body) = .prop (zPJ vs ⟨(ZW w mg mb).1.names,100002,[]⟩ (.ref 100000) ⟨[(100006,.list [.int 0]),(100004,.sdict [("great",.int 0),("small",.ref 100006),("sum",.int 0),("at",.int 0)]),(100000,z5 vs)],[(100002,[("script",.ref 100000),("box",.ref 100004)])],4⟩ (zPI vs) λys X=>.prop (V.ref 100004 = .ref 100004/\Yo vs ys X [("box",.ref 100004)]=Yo vs ys X [("box",.ref 100004)])):=by kernel_rfl
   rw [e];exact ⟨rfl,rfl,rfl,rfl,λys zs scr L bx sm sl X i c h hi hy=>zNI h hi hy,λys X=>⟨rfl,rfl⟩⟩)
  λfr u W A env s2 a h=>by refine @zH0 scr vs is (EW w mg mb 1 [100006] []).dn (go 60 (EW w mg mb 1 [100006] []).dn) fr W A env u s2 (ZW w mg mb).1.body (zN 60 (EW w mg mb 1 [100006] []).dn) hv hlen a ?_;exact h
 rw [show ([.ref 100000]:List V).map (V.ren [scr])=[.ref scr] from by kernel_rfl,show jC [scr] [(100000,z5 vs)]=[(scr,z5 vs)] from by kernel_rfl] at k;exact k
end
section
set_option linter.unusedVariables false
variable {w:World} {mg mb:Str->Option Value}
theorem Has.two {t m:Addr}{o1 o2:Ob}{N:jA}(h1:Has t o1 N) (h2:Has m o2 N) (ho:o1≠o2):∃ N',N.Perm ((t,o1)::(m,o2)::N'):=by
 obtain ⟨N1,p⟩:=h1.take;cases h2.perm p with
 | head=>exact absurd rfl ho
 | tail h3 =>obtain ⟨N2,p2⟩:=h3.take;exact ⟨N2,p.trans (p2.cons _)⟩
theorem WOk.pm {k:Nat}{side xa xb:Int}{L0 L1:Lv}{c0 c1:Cm}{M0 M1:List V}{N N':jA}(h:WOk k side xa xb L0 L1 c0 c1 M0 M1 N) (p:N.Perm N'):WOk k side xa xb L0 L1 c0 c1 M0 M1 N':=⟨h.o0,h.o1,h.r0,h.r1,h.mir,h.lok,h.modes,h.e0.perm p,h.e1.perm p⟩
inductive zPL (lv:Int) (k:Nat) (M:List V) (N:jA):Prop
 | mk (t m:Addr) (place lt x y:Int) (M':List V) (N':jA) (e:M=M'++[.ref t]) (h:NOk lv N k M') (p:N.Perm (yv t m place lt x y++N')) (T:Top lv t m place lt x y M')
theorem NOk.top {lv:Int}{N:jA}{k:Nat}{M:List V}(h:NOk lv N k M) (hne:M≠[]):zPL lv k M N:=by obtain ⟨M',t,m,x,y,place,lt,e,h',h1,h2,hl,hp,hp1,hxy⟩:=h.pop hne;obtain ⟨N',p⟩:=h1.two h2 (λe=>absurd (show (some 3:Option Nat)=some 2 from congrArg (λo:Ob=>o.tup?.map List.length) e) (by decide));exact .mk t m place lt x y M' N' e h' p ⟨hl,hp,hp1,hxy⟩
section
variable {k:Nat} {side xa xb way c:Int} {L0 L1:Lv} {c0 c1:Cm} {M0 M1:List V} {N:jA} {X:Bx} {r:List Addr} {bx sm:Addr}
theorem zDv {a b n n' N:jA}(p:N.Perm (n++n')):(a++(b++N)).Perm (a++(b++n)++n'):=by rw [List.append_assoc,List.append_assoc];exact (p.append_left b).append_left a
theorem zJP (hW:WOk k side xa xb L0 L1 c0 c1 M0 M1 N) (hk:k<=800) (hB:BxI X c) (hc:c<=99000) (hr:r.length=22):Ct (Mine.KP.heap_1 w.params) mg mb 8 (.ref 565) [.ref bx,.ref (jJ r 0),.int way] (wF (jJ r) (zb side xa xb L0 L1 c0 c1 M0 M1)++(jc bx sm X++N)) (WEndB (k + 1) side [] (jJ r 0) bx sm (c + 5)):=by
 rcases hW.modes with ⟨rfl,rfl⟩ | ⟨rfl,rfl⟩ | ⟨ea,eb,hne,hcs⟩ | ⟨ea,eb,hne,hcs⟩
 ·rw [<- List.append_assoc];exact Jj (N:=[]) (zHH (N:=N++[]) (by rwa [List.append_nil]) hk hB hc r hr bx sm)
 ·rw [<- List.append_assoc];exact Jj (N:=[]) (zHI (N:=N++[]) (by rwa [List.append_nil]) hk hB hc r hr bx sm)
 ·cases hW.e0.top hne with
  | mk t m place lt x y M' N' e h p T =>subst e ea eb;refine (Jj (N:=[]) (zHJ (N:=N'++[]) (by rw [List.append_nil];exact hW.pm p) (by rw [List.append_nil];exact (WOk.pm ⟨hW.o0,hW.o1,hW.r0,hW.r1,hW.mir,hW.lok,.inl ⟨rfl,rfl⟩,h,hW.e1⟩ p)) T hcs hk hB hc r hr bx sm)).perm ?_;exact zDv p
 ·cases hW.e1.top hne with
  | mk t m place lt x y M' N' e h p T =>subst e ea eb;refine (Jj (N:=[]) (zHK (N:=N'++[]) (by rw [List.append_nil];exact hW.pm p) (by rw [List.append_nil];exact (WOk.pm ⟨hW.o0,hW.o1,hW.r0,hW.r1,hW.mir,hW.lok,.inl ⟨rfl,rfl⟩,hW.e0,h⟩ p)) T hcs hk hB hc r hr bx sm)).perm ?_;exact zDv p
theorem zH1 (hW:WOk k side xa xb L0 L1 c0 c1 M0 M1 N) (hk:k<=800) (hne:M0≠[]) (hcs:jR c0 0≠[]) (hr:r.length=22):Ct (Mine.KP.heap_1 w.params) mg mb 7 (.ref 551) [.ref (jJ r 0),.int 0] (wF (jJ r) (zb side xa xb L0 L1 c0 c1 M0 M1)++N) (za k side [] (jJ r 0)):=by
 cases hW.e0.top hne with
 | mk t m place lt x y M' N' e h p T =>subst e;refine (yw (N:=[]) (Vi (xa:=xa) (xb:=xb) (N:=N'++[]) hr (by rw [List.append_nil];exact (WOk.pm ⟨hW.o0,hW.o1,hW.r0,hW.r1,hW.mir,hW.lok,.inl ⟨rfl,rfl⟩,h,hW.e1⟩ p)) hk T hcs)).perm ?_;rw [List.append_assoc];exact p.append_left _
theorem zH2 (hW:WOk k side xa xb L0 L1 c0 c1 M0 M1 N) (hk:k<=800) (hne:M1≠[]) (hcs:jR c0 1≠[]) (hr:r.length=22):Ct (Mine.KP.heap_1 w.params) mg mb 7 (.ref 551) [.ref (jJ r 0),.int 1] (wF (jJ r) (zb side xa xb L0 L1 c0 c1 M0 M1)++N) (za k side [] (jJ r 0)):=by
 cases hW.e1.top hne with
 | mk t m place lt x y M' N' e h p T =>subst e;refine (yw (N:=[]) (Vj (xa:=xa) (xb:=xb) (N:=N'++[]) hr (by rw [List.append_nil];exact (WOk.pm ⟨hW.o0,hW.o1,hW.r0,hW.r1,hW.mir,hW.lok,.inl ⟨rfl,rfl⟩,hW.e0,h⟩ p)) hk T hcs)).perm ?_;rw [List.append_assoc];exact p.append_left _
end
end
section
set_option linter.unusedVariables false
variable {w:World} {mg mb:Str->Option Value}
section
variable {K:Frag} {W:Wd} {A:Around} {env:Env} {o p:jA} {n:jB}
theorem Tr.frames {α:Type}{t:Sem α}{Q:α->jA->jB->Prop}(G:Gr W K mg mb) (h:∀ W',Gr W' K mg mb->W'.prog=W.prog->W'.w=W.w->W'.s₀=W.s₀->Tr W' A t o n λx o' n=>Q x (o'++p) n):Tr W A t (o++p) n Q:=by
 intro hp tk C;have C0:Cx W hp (o++p) (n++[]):=by rw [List.append_nil];exact C
 refine Tr.go (W:=Cx.Wd.into W hp (o.map Prod.fst++n.map Prod.fst)) (h _ (G.into C0) rfl rfl rfl) C0.into λv h₁ t₁ o₁ n₁ C₁ q=>?_;have:=C0.back C₁;rw [List.append_nil] at this;exact ⟨h₁,t₁,o₁++p,n₁,this,q⟩
theorem As.frames {t:Expr}{x:V}{Q:jA->jB->Prop}(G:Gr W K mg mb) (h:∀ W',Gr W' K mg mb->As W' A env t x o n λo' n=>Q (o'++p) n):As W A env t x (o++p) n Q:=λv hv=>Tr.frames G λW' G' _ _ _=>h W' G' v hv
theorem Ex.frames {t:Stmt}{Q:Fl->jA->jB->Prop}(G:Gr W K mg mb) (h:∀ W',Gr W' K mg mb->Ex W' A env t o n λx o' n=>Q x (o'++p) n):Ex W A env t (o++p) n Q:=Tr.frames G λW' G' _ _ _=>Tr.mono (h W' G') λ_ _ _ q=>q.mono λ_ q=>q
theorem Bo.frames {t:Expr}{Q:Bool->jA->jB->Prop}(G:Gr W K mg mb) (h:∀ W',Gr W' K mg mb->Bo W' A env t o n λx o' n=>Q x (o'++p) n):Bo W A env t (o++p) n Q:=Tr.frames G λW' G' _ _ _=>h W' G'
end
section
variable {W:Wd} {A:Around} {env:Env} {L:Addr} {cells:List (Str×Addr)} {names:List (Str×NameKind)} {o:jA} {ns:jB} {ll:jX}
end
noncomputable def zPM:UnaryOp->Bool
 | .Not=>true
 | _=>false
noncomputable def zJQ (e:Expr):Option Expr:=zAk e λop x _=>Vq (zPM op) (some x)
theorem zH3 (e:Expr):(zJQ e).elim True λx=>∃ p,e = .UnaryOp .Not x p:=zCN λop x p e=>by cases op<;>first | exact ⟨p,e⟩ | exact trivial
noncomputable def Vp (st:Stmt):Option Expr:=(ifN st).elim none λq=>Vq q.2.2.isEmpty (zJQ q.1)
theorem zH4 {st:Stmt}{e:Expr}(h:Vp st=some e):∃ p p2 b,st = .If (.UnaryOp .Not e p) b [] p2:=jH h λq eq h1=>zq h1 λhq h2=>by obtain ⟨p2,rfl⟩:=el (zBX st) eq;obtain ⟨p,e⟩:=el (zH3 q.1) h2;exact ⟨p,p2,_,by rw [e,List.isEmpty_iff.mp hq]⟩
section
variable {E:Est} {fr:Fr} {W:Wd} {A:Around} {env:Env} {r:List Addr} {s:SS} {o:jA} {n:jB}
theorem zAZ {e:Expr}{g:Addr}{es:List Expr}{Q:V->jA->jB->Prop}(a:At E fr W A env r s) (hc:tc E fr e=some (g,es)) (h:Evs W A env es o n λxs o n=>Cl W A (.ref g) xs o n Q):Ev W A env e o n Q/\∃ f es p,e = .Call f es [] p :=
 jH hc λq eq e1=>jH e1 λf ef e1=>zq e1 λhc1 e1=>jH e1 λk ek e1=>zq e1 λhk e1=>jH e1 λv ev e1=>jH e1 λg eg e1=>zq e1 λhg e1=>by
  cases e1
  obtain ⟨p,rfl⟩:=el (Zf e) eq;obtain ⟨p2,e2⟩:=VP ef;obtain ⟨h1,h2⟩:=jP hc1;obtain rfl:=eq_of_beq hk;rw [jg eg] at ev;rw [e2,List.isEmpty_iff.mp h1];exact ⟨JD a.G (λQ q=>zT a ek ev q) (E.hfn _ hg) h h2,_,_,_,rfl⟩
theorem zBn {st:Stmt}{e:Expr}{g:Addr}{es:List Expr}{Q:Fl->jA->jB->Prop}(a:At E fr W A env r s) (hg:Vp st=some e) (hc:tc E fr e=some (g,es)) (h:Evs W A env es o n λxs o n=>Cl W A (.ref g) xs o n λy o n=>y = .bool true/\Q .next o n):Ex W A env st o n Q:=by obtain ⟨p,p2,b,rfl⟩:=zH4 hg;obtain ⟨k,f,es',p3,rfl⟩:=zAZ a hc h;refine zHo (zBt (YV (Ev.mono k λy o n q=>?_) λ_=>rfl));rw [q.1];exact Zo (Br.neg rfl (JB q.2))
end
noncomputable def zJR (st:Stmt):Option (Str×Expr):=zAn st λts v _=>(one ts).elim none λt=>(J6 t).elim none λx=>some (x,v)
theorem zNM (st:Stmt):(zJR st).elim True λq=>∃ p p2,st = .Assign [.Name q.1 p] q.2 p2:=zCQ λts v p2 e=>jV λt et=>jV λx ex=>(VP ex).elim λp h=>⟨p,p2,by rw [e,yI et,h]⟩
noncomputable def y0 (names:List (Str×NameKind)):List Expr->Option (List Str)
 | []=>some []
 | e::r=>(J6 e).elim none λx=>Vq (names.lookup x==some .local&&!(x==("__debug__":Str))) ((y0 names r).elim none λxs=>some (x::xs))
inductive zA0 (ll:jX):List Str->List V->Prop
 | nil:zA0 ll [] []
 | cons {x v ks vs} (h:ll.lookup x=some v) (k:zA0 ll ks vs):zA0 ll (x::ks) (v::vs)
section
variable {E:Est} {fr:Fr} {W:Wd} {A:Around} {env:Env} {r:List Addr} {s:SS} {o:jA} {ns:jB} {ll:jX} {L:Addr}
theorem jz {cells:List (Str×Addr)}{names:List (Str×NameKind)}(he:EnvAt env names L cells):∀ {es:List Expr}{ks:List Str}{xs:List V}{Q:List V->jA->jB->Prop},y0 names es=some ks->zA0 ll ks xs->Q xs o ((L,ll)::ns)->Evs W A env es o ((L,ll)::ns) Q
 | [],_,_,_,h,k,q=>by obtain rfl:=Option.some.inj h;cases k;exact q
 | e::r,ks,xs,Q,h,k,q=>jH h λx ex h1=>zq h1 λhx h2=>jH h2 λys ey h3=>by
  obtain rfl:=Option.some.inj h3;cases k with
  | cons k1 k2 =>obtain ⟨p,rfl⟩:=VP ex;obtain ⟨a1,a2⟩:=jP hx;exact jr he (eq_of_beq a1) (GetL.of_look k1) (jz he ey k2 q) ((Bool.not_eq_true' _).mp a2)
theorem zH5 {st:Stmt}{x:Str}{e:Expr}{g:Addr}{es:List Expr}{Q:Fl->jA->jB->Prop}(a:At E fr W A env r s) (hL:jL r fr.L=L) (hst:zJR st=some (x,e)) (hx:fr.names.lookup x=some .local) (hc:tc E fr e=some (g,es)) (h:Evs W A env es o ((L,ll)::ns) λxs o n=>Cl W A (.ref g) xs o n λy o' n'=>n'=(L,ll)::ns/\∃ ll',SetL x y ll ll'/\Q .next o' ((L,ll')::ns)):Ex W A env st o ((L,ll)::ns) Q:=by obtain ⟨p,p2,rfl⟩:=el (zNM st) hst;obtain ⟨k,f,es',p3,rfl⟩:=zAZ a hc h;subst hL;exact zY (Ev.mono k λy o' n' q=>by obtain ⟨rfl,ll',hs,q⟩:=q;exact JC (zh a.he.h hx hs q)) rfl rfl rfl
end
end
section
set_option linter.unusedVariables false
variable {w:World} {mg mb:Str->Option Value}
noncomputable def gcN (E:Est) (fr:Fr) (e:Expr):Option (V×List Expr):=(zBW e).elim none λq=>(J6 q.1).elim none λf=>Vq (q.2.2.isEmpty&&j0 q.2.1) ((fr.names.lookup f).elim none λk=>Vq (k==.globalImplicit) ((E.gl.lookup f).elim none λv=>some (v,q.2.1)))
noncomputable def zNN (e:Expr):Option (Expr×Expr):=Qw e λl op r _=>Vq (zJn op) (some (l,r))
theorem zNO (e:Expr):(zNN e).elim True λq=>∃ p,e = .BinOp q.1 .Add q.2 p:=VD λl op r p e=>by cases op<;>first | exact ⟨p,e⟩ | exact trivial
section
variable {E:Est} {fr:Fr} {W:Wd} {A:Around} {env:Env} {r:List Addr} {s:SS} {o:jA} {n:jB}
theorem zH6 {e:Expr}{v:V}{es:List Expr}(a:At E fr W A env r s) (h:gcN E fr e=some (v,es)):∃ x p pos,e = .Call (.Name x p) es [] pos/\j0 es=true/\∀ Q:V->jA->jB->Prop,Q v o n->Ev W A env (.Name x p) o n Q :=
 jH h λq eq e1=>jH e1 λf ef e1=>zq e1 λhc1 e1=>jH e1 λk ek e1=>zq e1 λhk e1=>jH e1 λv ev e1=>by
  cases e1
  obtain ⟨p,rfl⟩:=el (Zf e) eq;obtain ⟨p2,e2⟩:=VP ef;obtain ⟨h1,h2⟩:=jP hc1;obtain rfl:=eq_of_beq hk;exact ⟨f,p2,p,by rw [e2,List.isEmpty_iff.mp h1],h2,λQ q=>zT a ek ev q⟩
theorem zKu {e:Expr}{id:String}{es:List Expr}{Q:V->jA->jB->Prop}(a:At E fr W A env r s) (h:gcN E fr e=some (.bi id,es)) (k:Evs W A env es o n λxs o n=>Cl W A (.builtin id) xs o n Q):Ev W A env e o n Q:=by obtain ⟨x,p,pos,rfl,hp,hn⟩:=zH6 (o:=o) (n:=n) a h;exact zA6 hn k hp
theorem zKv {e:Expr}{id:String}{es:List Expr}{Q:V->jA->jB->Prop}(a:At E fr W A env r s) (h:gcN E fr e=some (.ty id,es)) (k:Evs W A env es o n λxs o n=>Cl W A (.type id) xs o n Q):Ev W A env e o n Q:=by obtain ⟨x,p,pos,rfl,hp,hn⟩:=zH6 (o:=o) (n:=n) a h;exact JY hn k hp
structure ItF (E:Est) (fr:Fr) (it e1 e2 e3 e4 e5 e6:Expr):Prop where
 h1:gcN E fr it=some (.ty "range",[e1])
 h2:zNN e1=some (e2,e3)
 h3:Z3 e2=some 3
 h4:gcN E fr e3=some (.bi "min",[e4,e5])
 h5:gcN E fr e4=some (.bi "len",[e6])
 h6:y0 fr.names [e6]=some [("script":Str)]
 h7:Z3 e5=some 20
theorem zJS {it e1 e2 e3 e4 e5 e6:Expr}{L scr:Addr}{ll:jX}{ns:jB}{vs:List Value}{xs:List V}{Q:V->jA->jB->Prop}(a:At E fr W A env r s) (f:ItF E fr it e1 e2 e3 e4 e5 e6) (hL:jL r fr.L=L) (hl:ll.lookup ("script":Str)=some (V.ref scr)) (hv:All2 xs vs) (hs:Has scr (z5 vs) o) (hz:xs.length<=1000)
  (k:∀ l,Q (.ref l) ((l,zU (3 + if (20:Int) < (xs.length:Int) then 20 else (xs.length:Int)))::o) ((L,ll)::ns)):Ev W A env it o ((L,ll)::ns) Q:=by
 obtain ⟨p1,rfl⟩:=el (zNO e1) f.h2;obtain ⟨k2,p2,rfl⟩:=el (JL e2) f.h3;obtain ⟨k3,p3,rfl⟩:=el (JL e5) f.h7;subst hL;refine zKv a f.h1 (YU (JV (zKu a f.h4 (zKu a f.h5 (jz a.he.h f.h6 (.cons hl .nil) (zLd hv hs hz (JV (zNq a.R.handled (zEu rfl (Qq k))))))))))
end
section
variable (vs:List Value) (scr lc bx sm L wd:Addr) (side:Int)
noncomputable def zJT (r:List Addr) (xa xb:Int) (L0 L1:Lv) (c0 c1:Cm) (M0 M1:List V) (X:Bx) (N:jA):jA:=jc bx sm X++(wF (jJ r) (zb side xa xb L0 L1 c0 c1 M0 M1)++(N++[(lc,.cell none),(scr,z5 vs)]))
inductive zEm (i:Nat) (o:jA) (n:jB):Prop
 | mk (r:List Addr) (xa xb:Int) (L0 L1:Lv) (c0 c1:Cm) (M0 M1:List V) (X:Bx) (N:jA) (ll:jX) (hr:r.length=22) (hd:jJ r 0=wd) (hW:WOk i side xa xb L0 L1 c0 c1 M0 M1 N) (hB:BxI X (25 + 9 * (i:Int))) (hs:Sel (zJT vs scr lc bx sm side r xa xb L0 L1 c0 c1 M0 M1 X N) o)
  (hn:n=[(L,ll)]) (h1:ll.lookup ("script":Str)=some (V.ref scr)) (h2:ll.lookup ("box":Str)=some (V.ref bx)) (h3:ll.lookup ("world":Str)=some (V.ref wd))
end
noncomputable def zPN (scr bx wd:Addr) (ll:jX):jX:=("script",.ref scr)::("box",.ref bx)::("world",.ref wd)::ll
noncomputable def zBo (X:Bx) (ll:jX):SS:=⟨jc 100000 100002 X,[(100004,zPN 100006 100000 100008 ll)],6⟩
inductive zNP (c:Int) (s:SS):Prop
 | mk (X:Bx) (t:V) (way:Int) (hB:BxI X c) (hs:s=zBo X [("turn",t),("way",.int way)])
noncomputable def zKw (F:Yv) (fr:Fr) (t:Expr) (b:Stmt) (X:Bx) (i c:Int):Tree:=F.a fr t (.int i) (zBo X []) λ_ s=>F.s fr b s λf s=>gd f.nextB (.prop (zNP c s))
theorem zCy {k1 k2 k3:Str}{v1 v2 v3:V}{ll:jX}(h1:ll.lookup k1=some v1) (h2:ll.lookup k2=some v2) (h3:ll.lookup k3=some v3):∀ y x,([(k1,v1),(k2,v2),(k3,v3)]:jX).lookup y=some x->ll.lookup y=some x:=λy x e=>by
 rw [List.lookup_cons] at e;induction q:y==k1 using Bool.casesOn with
 | true=>rw [q] at e;obtain rfl:=Option.some.inj e;rw [eq_of_beq q];exact h1
 | false =>
  rw [q] at e;replace e:List.lookup y [(k2,v2),(k3,v3)]=some x:=e;rw [List.lookup_cons] at e;induction q:y==k2 using Bool.casesOn with
  | true=>rw [q] at e;obtain rfl:=Option.some.inj e;rw [eq_of_beq q];exact h2
  | false=>rw [q] at e;exact JH h3 y x e
theorem zJU {X:Bx}{c:Int}(h:BxI X c) {r:List Addr}(hr:r.length=6):SS.ok r (zBo X []) :=
 have w:∀ a,wfB 6 a=true->wfA 6 a:=λ_ h=>wfB_h h
 ⟨hr,Yj h (w 100000 (by kernel_rfl)) (w 100002 (by kernel_rfl)),jO ⟨w 100004 (by kernel_rfl),jO (w 100006 (by kernel_rfl)) (jO (w 100000 (by kernel_rfl)) (jO (w 100008 (by kernel_rfl)) jj))⟩ jj⟩
noncomputable def EL (w:World) (mg mb:Str->Option Value):Est:=(EW w mg mb 10 [100002] []).dn
noncomputable def frL (names:List (Str×NameKind)):Fr:=⟨names,100004,[("let",100010)]⟩
section
variable {F:Yv} {names:List (Str×NameKind)} {W W':Wd} {A:Around} {env:Env} {vs:List Value} {scr lc bx sm L wd:Addr} {side:Int} {t e:Expr} {b1 b2:Stmt} {es:List Expr} {Q:Fl->jA->jB->Prop} {i:Nat} {o:jA} {n:jB} {s:SS}
theorem law_perm {b a N c:jA}:(b++(a++(N++c))).Perm ((a++(b++N))++c):=by rw [<- List.append_assoc b,<- List.append_assoc (b++a),<- List.append_assoc a b];exact (List.perm_append_comm.append_right N).append_right c
theorem zH7 (G:Gr W (Mine.KP.heap_1 w.params) mg mb) (hR:Ar A 9) (he:EnvAt env names L [("let",lc)]) (ok:s.ok [bx,sm,L,scr,wd,lc]) (hn:s.n=6):At (EL w mg mb) (frL names) W A env [bx,sm,L,scr,wd,lc] s :=
 have w:∀ a,wfB 6 a=true->wfA s.n a:=λ_ h=>hn▸wfB_h h
 ⟨G,hR,⟨by
  have e1:jL [bx,sm,L,scr,wd,lc] 100004=L:=by kernel_rfl
  have e2:jL [bx,sm,L,scr,wd,lc] 100010=lc:=by kernel_rfl
  show EnvAt env names (jL [bx,sm,L,scr,wd,lc] 100004) [(("let":Str),jL [bx,sm,L,scr,wd,lc] 100010)];rw [e1,e2];exact he⟩,⟨w 100004 (by kernel_rfl),jO (w 100010 (by kernel_rfl)) jj⟩,ok⟩
theorem zH8 (S:jU (EL w mg mb) F) (hR:Ar A 9) (he:EnvAt env names L [("let",lc)]) (G:Gr W' (Mine.KP.heap_1 w.params) mg mb)
  (hT:∀ X i c,BxI X c->c<=90000->(zKw F (frL names) t b1 X i (c + 1)).holds) (hg:Vp b2=some e) (hc:tc (EL w mg mb) (frL names) e=some (565,es)) (hn:y0 names es=some [("box":Str),("world":Str),("way":Str)])
  (hI:zEm vs scr lc bx sm L wd side i o n) (hi:i<=100):As W' A env t (.int i) o n λo n=>Es W' A env [b1,b2] o n (JS (zEm vs scr lc bx sm L wd side (i + 1)) Q):=by
 obtain ⟨r,xa,xb,L0,L1,c0,c1,M0,M1,X,N,ll,hr,rfl,hW,hB,hs,rfl,h1,h2,h3⟩:=hI;refine As.drop hs (As.locs (zCy h1 h2 h3) ?_);unfold zJT;refine As.frames G λW2 G2=>?_;have ok:=zJU hB (r:=[bx,sm,L,scr,jJ r 0,lc]) rfl;have a2:=zH7 (W:=W2) G2 hR he ok rfl;have eO:∀ (u:List Addr) (Y:Bx) (c:Int),BxI Y c->jC ([bx,sm,L,scr,jJ r 0,lc]++u) (jc 100000 100002 Y)=jc bx sm Y:=λu Y c h=>(yf h).trans (by kernel_rfl);have eN:∀ (u:List Addr) (Y:Bx) (lr:jX),jK ([bx,sm,L,scr,jJ r 0,lc]++u) (zBo Y lr).ns=[(L,zPN scr bx (jJ r 0) (yX ([bx,sm,L,scr,jJ r 0,lc]++u) lr))]:=λu Y lr=>by kernel_rfl
 have e0:=eO [] X _ hB;have e1:=eN [] X [];rw [List.append_nil] at e0 e1;rw [<- e0,show [(L,[(("script":Str),V.ref scr),("box",V.ref bx),("world",V.ref (jJ r 0))])]=jK [bx,sm,L,scr,jJ r 0,lc] (zBo X []).ns from e1.symm];refine As.lift (S.a (hT X i _ hB (by omega)) W2 A env _ a2 trivial) λu1 s1 ok1 h=>jx (Ex.frames G λW3 G3=>Ex.lift (S.s h W3 A env _ ((a2.next ok1).world G3)) λu2 f s2 ok2 wf h=>j1 h λhf h=>?_);rw [yW hf];obtain ⟨Y,tv,way,hY,rfl⟩:=h;have eN2:=eN (u1++u2) Y [("turn",tv),("way",.int way)];have eO2:jC ([bx,sm,L,scr,jJ r 0,lc]++(u1++u2)) (zBo Y [("turn",tv),("way",.int way)]).o=jc bx sm Y:=eO (u1++u2) Y _ hY;rw [List.append_assoc,eN2,eO2];refine Aft.next (jx (zBn (zH7 (w:=w) (names:=names) G hR he ok rfl) hg hc (jz he hn (.cons (v:=.ref bx) (by kernel_rfl) (.cons (v:=.ref (jJ r 0)) (by kernel_rfl) (.cons (v:=.int way) (by kernel_rfl) .nil))) ?_)));refine Cl.use (zJP (w:=w) (mg:=mg) (mb:=mb) hW (by omega) hY (by omega) hr) G hR (by decide) law_perm ?_;rintro x o' ⟨r',xa',xb',L0',L1',c0',c1',M0',M1',X',N',hr',hd',hW',hB',rfl,rfl⟩;rw [List.append_nil] at hW';exact ⟨rfl,JB ⟨_,zH,.mk r' xa' xb' L0' L1' c0' c1' M0' M1' X' N' _ hr' hd' hW' (hB'.up (by omega)) (Sel.of_perm (l':=[]) (by rw [List.append_nil];exact law_perm.symm)) rfl (by kernel_rfl) (by kernel_rfl) (by kernel_rfl)⟩⟩
end
end
section
set_option linter.unusedVariables false
variable {w:World} {mg mb:Str->Option Value}
section
variable (vs:List Value) (scr lc L wd:Addr) (side:Int)
noncomputable def zNQ (r:List Addr) (xa xb:Int) (L0 L1:Lv) (c0 c1:Cm) (M0 M1:List V) (N:jA):jA:=wF (jJ r) (zb side xa xb L0 L1 c0 c1 M0 M1)++(N++[(lc,.cell none),(scr,z5 vs)])
inductive QE (k i:Nat) (o:jA) (n:jB):Prop
 | mk (r:List Addr) (xa xb:Int) (L0 L1:Lv) (c0 c1:Cm) (M0 M1:List V) (N:jA) (ll:jX) (hr:r.length=22) (hd:jJ r 0=wd) (hW:WOk (k + i) side xa xb L0 L1 c0 c1 M0 M1 N) (hs:Sel (zNQ vs scr lc side r xa xb L0 L1 c0 c1 M0 M1 N) o)
  (hn:n=[(L,ll)]) (h3:ll.lookup ("world":Str)=some (V.ref wd))
end
noncomputable def zBp (wd:Addr) (ll:jX):jX:=("world",.ref wd)::ll
noncomputable def zBq (side xa xb:Int) (L0 L1:Lv) (c0 c1:Cm) (M0 M1:List V) (ll:jX):SS:=⟨wL side xa xb L0 L1 c0 c1 M0 M1,[(100044,zBp 100000 ll)],24⟩
inductive zPO (xa xb:Int) (P:jX->SS) (b:Bool) (s:SS):Prop
 | mk (t:V) (hb:b=(xa != xb)) (hs:s=P [("turn",t),("one",.int xa),("other",.int xb)])
noncomputable def zKx (F:Yv) (fr:Fr) (t:Expr) (b:Stmt) (e:Expr) (i xa xb:Int) (P:jX->SS):Tree:=F.a fr t (.int i) (P []) λ_ s=>F.s fr b s λf s=>gd f.nextB (F.b fr e s λb s=>.prop (zPO xa xb P b s))
noncomputable def frW (names:List (Str×NameKind)):Fr:=⟨names,100044,[("let",100046)]⟩
noncomputable def zQG:Operator->Bool
 | .FloorDiv=>true
 | _=>false
noncomputable def fdN (e:Expr):Option (Expr×Expr):=Qw e λl op r _=>Vq (zQG op) (some (l,r))
theorem zPP (e:Expr):(fdN e).elim True λq=>∃ p,e = .BinOp q.1 .FloorDiv q.2 p:=VD λl op r p e=>by cases op<;>first | exact ⟨p,e⟩ | exact trivial
structure JF (E:Est) (fr:Fr) (b2:Stmt) (e0 e1 e2 e3 a1 a2 a3 a4:Expr) (bt:List Stmt):Prop where
 h1:ifN b2=some (e0,bt,[])
 h2:J5 e0=some (.And,[e1,e2])
 h3:zJQ e2=some e3
 h4:tc E fr e3=some (551,[a1,a2])
 h5:y0 fr.names [a1]=some [("world":Str)]
 h6:fdN a2=some (a3,a4)
 h7:Z3 a4=some 3
 h8:y0 fr.names [a3]=some [("one":Str)]
section
variable {F:Yv} {names:List (Str×NameKind)} {W W':Wd} {A:Around} {env:Env} {vs:List Value} {scr lc L wd:Addr} {side:Int} {t e0 e1 e2 e3 a1 a2 a3 a4:Expr} {bt:List Stmt} {b1 b2:Stmt} {Q:Fl->jA->jB->Prop} {k i:Nat} {o:jA} {n:jB} {s:SS} {r:List Addr}
theorem zJV {xa xb:Int}{L0 L1:Lv}{c0 c1:Cm}{M0 M1:List V}(hr:r.length=24):SS.ok r (zBq side xa xb L0 L1 c0 c1 M0 M1 []) :=
 ⟨hr,Q9 (n:=24) (by decide),jO ⟨wfB_h (n:=24) (a:=100044) (by kernel_rfl),jO (wfB_h (n:=24) (a:=100000) (by kernel_rfl)) jj⟩ jj⟩
theorem zDw (G:Gr W (Mine.KP.heap_1 w.params) mg mb) (hR:Ar A 9) (he:EnvAt env names L [("let",lc)]) (hr:r.length=22) (ok:s.ok (r++[L,lc])) (hn:s.n=24):At (EL w mg mb) (frW names) W A env (r++[L,lc]) s :=
 have w:∀ a,wfB 24 a=true->wfA s.n a:=λ_ h=>hn▸wfB_h h
 ⟨G,hR,⟨by
  have e1:jL (r++[L,lc]) (nm 22)=L:=by rw [z9];exact Jk hr
  have e2:jL (r++[L,lc]) (nm 23)=lc:=by rw [z9];exact ZI hr
  show EnvAt env names (jL (r++[L,lc]) (nm 22)) [(("let":Str),jL (r++[L,lc]) (nm 23))];rw [e1,e2];exact he⟩,⟨w 100044 (by kernel_rfl),jO (w 100046 (by kernel_rfl)) jj⟩,ok⟩
theorem zPQ {fr:Fr}{xa:Int}{ll:jX}{ns:jB}{QV:V->jA->jB->Prop}{cells:List (Str×Addr)}(he:EnvAt env fr.names L cells) (h6:fdN a2=some (a3,a4)) (h7:Z3 a4=some 3) (h8:y0 fr.names [a3]=some [("one":Str)]) (hl:ll.lookup ("one":Str)=some (V.int xa)) (hx:Builtin.divisionGoesByPylong xa 3=false) (q:QV (.int (xa / 3)) o ((L,ll)::ns)):Ev W A env a2 o ((L,ll)::ns) QV:=by obtain ⟨p1,rfl⟩:=el (zPP a2) h6;obtain ⟨k2,p2,rfl⟩:=el (JL a4) h7;exact YU (jz (es:=[a3]) (Q:=λxs o n=>∀ x,xs=[x]->Ev W A env _ o n λy o n=>Bin W A .FloorDiv x y o n QV) he h8 (.cons hl .nil) (λx e=>by cases e;exact JV (zJb (by decide) hx rfl q)) |> λh=>Ev.mono h λ_ _ _ q=>q _ rfl)
theorem zEn (S:jU (EL w mg mb) F) (hR:Ar A 9) (he:EnvAt env names L [("let",lc)]) (G:Gr W' (Mine.KP.heap_1 w.params) mg mb)
  (hU:∀ i side xa xb L0 L1 c0 c1 M0 M1,(zKx F (frW names) t b1 e1 i xa xb (zBq side xa xb L0 L1 c0 c1 M0 M1)).holds) (f:JF (EL w mg mb) (frW names) b2 e0 e1 e2 e3 a1 a2 a3 a4 bt)
  (hI:QE vs scr lc L wd side k i o n) (hi:k + i<=800):As W' A env t (.int i) o n λo n=>Es W' A env [b1,b2] o n (JS (QE vs scr lc L wd side k (i + 1)) Q):=by
 obtain ⟨r,xa,xb,L0,L1,c0,c1,M0,M1,N,ll,hr,rfl,hW,hs,rfl,h3⟩:=hI;refine As.drop hs (As.locs (JH h3) ?_);unfold zNQ;refine As.frames G λW2 G2=>?_;have hr2:(r++[L,lc]).length=24:=by rw [List.length_append,hr];rfl
 have ok:=zJV (side:=side) (xa:=xa) (xb:=xb) (L0:=L0) (L1:=L1) (c0:=c0) (c1:=c1) (M0:=M0) (M1:=M1) hr2;have a2':=zDw (w:=w) (mg:=mg) (mb:=mb) (names:=names) (W:=W2) G2 hR he hr ok rfl;have eO:∀ u:List Addr,jC (r++[L,lc]++u) (wL side xa xb L0 L1 c0 c1 M0 M1)=wF (jJ r) (zb side xa xb L0 L1 c0 c1 M0 M1):=λu=>by rw [List.append_assoc,yg,YS hr]
 have eN:∀ (u:List Addr) (lr:jX),jK (r++[L,lc]++u) (zBq side xa xb L0 L1 c0 c1 M0 M1 lr).ns=[(L,zBp (jJ r 0) (yX (r++[L,lc]++u) lr))]:=λu lr=>by have e1:jL (r++[L,lc]++u) (nm 22)=L:=(jn hr2 (by decide)).trans (Jk hr);have e2:jL (r++[L,lc]++u) (nm 0)=jJ r 0:=(jn hr2 (by decide)).trans (zBh hr);show [(jL (r++[L,lc]++u) (nm 22),zBp (jL (r++[L,lc]++u) (nm 0)) (yX (r++[L,lc]++u) lr))]=_;rw [e1,e2]
 have e0:=eO [];have e1':=eN [] [];rw [List.append_nil] at e0 e1';rw [<- e0,show [(L,[(("world":Str),V.ref (jJ r 0))])]=jK (r++[L,lc]) (zBq side xa xb L0 L1 c0 c1 M0 M1 []).ns from e1'.symm];refine As.lift (S.a (hU i side xa xb L0 L1 c0 c1 M0 M1) W2 A env _ a2' trivial) λu1 s1 ok1 h=>jx (Ex.frames G λW3 G3=>Ex.lift (S.s h W3 A env _ ((a2'.next ok1).world G3)) λu2 f2 s2 ok2 wf h=>j1 h λhf h=>?_);rw [yW hf];obtain ⟨p1,e4⟩:=el (zBX b2) f.h1;obtain ⟨p2,e5⟩:=el (VM _) f.h2;obtain ⟨p3,e6⟩:=el (zH3 e2) f.h3;dsimp only at e4 e5;rw [e4,e5,e6];refine Aft.next (jx (zHo (Zn (Bo.frames G λW4 G4=>Bo.lift (S.b h W4 A env _ (((a2'.next ok1).next ok2).world G4)) λu3 c s3 ok3 h=>?_))));obtain ⟨tv,rfl,rfl⟩:=h;have hR':r++[L,lc]++u1++u2++u3=r++[L,lc]++(u1++(u2++u3)):=by rw [List.append_assoc (r++[L,lc]++u1),List.append_assoc (r++[L,lc])]
 rw [hR'];generalize u1++(u2++u3)=u at *
 have eN2:=eN u [("turn",tv),("one",.int xa),("other",.int xb)];have eO2:jC (r++[L,lc]++u) (zBq side xa xb L0 L1 c0 c1 M0 M1 [("turn",tv),("one",.int xa),("other",.int xb)]).o=wF (jJ r) (zb side xa xb L0 L1 c0 c1 M0 M1):=eO u;rw [eN2,eO2];have stay:xa=xb->JS (QE vs scr lc L (jJ r 0) side k (i + 1)) Q .next (wF (jJ r) (zb side xa xb L0 L1 c0 c1 M0 M1)++(N++[(lc,.cell none),(scr,z5 vs)])) [(L,zBp (jJ r 0) (yX (r++[L,lc]++u) [("turn",tv),("one",.int xa),("other",.int xb)]))]:=λ_ =>
  ⟨_,zH,.mk r xa xb L0 L1 c0 c1 M0 M1 N _ hr rfl (hW.up (Nat.le_succ _)) zH rfl (by kernel_rfl)⟩
 have hl1:(zBp (jJ r 0) (yX (r++[L,lc]++u) [("turn",tv),("one",.int xa),("other",.int xb)])).lookup ("world":Str)=some (V.ref (jJ r 0)):=by kernel_rfl
 have hl2:(zBp (jJ r 0) (yX (r++[L,lc]++u) [("turn",tv),("one",.int xa),("other",.int xb)])).lookup ("one":Str)=some (V.int xa):=by kernel_rfl
 generalize hll:zBp (jJ r 0) (yX (r++[L,lc]++u) [("turn",tv),("one",.int xa),("other",.int xb)])=lw at hl1 hl2 stay ⊢;have back:∀ {j:Int},xa / 3=j->Builtin.divisionGoesByPylong xa 3=false->Ct (Mine.KP.heap_1 w.params) mg mb 7 (.ref 551) [.ref (jJ r 0),.int j] (wF (jJ r) (zb side xa xb L0 L1 c0 c1 M0 M1)++N) (za (k + i) side [] (jJ r 0)) ->
   Bo W' A env (.BoolOp .And [.UnaryOp .Not e3 p3] p2) (wF (jJ r) (zb side xa xb L0 L1 c0 c1 M0 M1)++(N++[(lc,.cell none),(scr,z5 vs)])) [(L,lw)] λc o n=>Br c (Es W' A env bt o n (Aft W' A env [] (JS (QE vs scr lc L (jJ r 0) side k (i + 1)) Q))) (Es W' A env [] o n (Aft W' A env [] (JS (QE vs scr lc L (jJ r 0) side k (i + 1)) Q))):=λ{j} ej hd c=>by
  have hcall:=zAZ (o:=wF (jJ r) (zb side xa xb L0 L1 c0 c1 M0 M1)++(N++[(lc,.cell none),(scr,z5 vs)])) (n:=[(L,lw)]) (Q:=λy o n=>y = .bool true/\JS (QE vs scr lc L (jJ r 0) side k (i + 1)) Q .next o n) (a2'.world G) f.h4 ?_
  ·obtain ⟨kk,g,es',p4,rfl⟩:=hcall;refine Zn (zBt (YV (Ev.mono kk λy o n q=>?_) λ_=>rfl));rw [q.1];exact Zo (Br.neg rfl (Br.neg rfl (JB (JB q.2))))
  ·refine Ev.mono (jz (es:=[a1]) (Q:=λxs o n=>∀ x,xs=[x]->Evs W' A env [a2] o n λxs=>(λxs o n=>Cl W' A (.ref 551) xs o n λy o n=>y = .bool true/\JS (QE vs scr lc L (jJ r 0) side k (i + 1)) Q .next o n) (x::xs)) he f.h5 (.cons hl1 .nil) λx e=>?_) λ_ _ _ q=>q _ rfl;cases e
   refine zPQ (fr:=frW names) he f.h6 f.h7 f.h8 hl2 hd ?_;show Cl W' A (.ref 551) [.ref (jJ r 0),.int (xa / 3)] _ _ _;rw [ej];refine Cl.use c G hR (by decide) (.of_eq (List.append_assoc _ _ _).symm) ?_;rintro x o' ⟨r',xa',xb',L0',L1',c0',c1',M0',M1',N',hr',hd',hW',rfl,rfl⟩;rw [List.append_nil] at hW';exact ⟨rfl,_,zH,.mk r' xa' xb' L0' L1' c0' c1' M0' M1' N' _ hr' hd' (hW'.up (Nat.le_succ _)) (by rw [List.append_assoc];exact zH) rfl hl1⟩
 rcases hW.modes with ⟨ea,eb⟩ | ⟨ea,eb⟩ | ⟨ea,eb,hne,hcs⟩ | ⟨ea,eb,hne,hcs⟩
 ·exact Br.neg (by rw [ea,eb];rfl) (Br.neg rfl (JB (JB (stay (ea.trans eb.symm)))))
 ·exact Br.neg (by rw [ea,eb];rfl) (Br.neg rfl (JB (JB (stay (ea.trans eb.symm)))))
 ·exact ⟨λ_=>back (j:=0) (by rw [ea];rfl) (by rw [ea];rfl) (zH1 hW hi hne hcs hr),λq=>by rw [ea,eb] at q;contradiction⟩
 ·exact ⟨λ_=>back (j:=1) (by rw [ea];rfl) (by rw [ea];rfl) (zH2 hW hi hne hcs hr),λq=>by rw [ea,eb] at q;contradiction⟩
end
end
section
set_option linter.unusedVariables false
variable {w:World} {mg mb:Str->Option Value}
theorem zPR {W:Wd}{A:Around}{env:Env}{objs:jA}{nss:jB}{body:List Stmt}{h₀:ExceptHandler}{hs:List ExceptHandler}{pos:Pos}{Q:Fl->jA->jB->Prop}(h:Es W A env body objs nss Q):Ex W A env (.Try body (h₀::hs) [] [] pos) objs nss Q:=λhp tk C =>
 wpAny_Try_except (wpAny_mono (h hp tk C) (λf s₁ h₁=>h₁.casesOn λh' tk' o n C' x=>x.casesOn λx hx q=>match x,hx with
  | .ret z,⟨u,e,hu⟩=>by subst e;exact ⟨h',tk',o,n,C',.ret z,⟨u,rfl,hu⟩,q⟩
  | .next,e=>by subst e;exact wpAny_pure ⟨h',tk',o,n,C',.next,rfl,q⟩) λ_ _ x=>x.elim)
noncomputable def zPS (st:Stmt):Option (List Stmt):=zJp st λb h e f _=>(zl h).elim none λ_=>Vq (e.isEmpty&&f.isEmpty) (some b)
theorem zNR (st:Stmt):(zPS st).elim True λb=>∃ h hs p,st = .Try b (h::hs) [] [] p:=zIR λb h e f p q=>jV λz hz=>YZ λy hy=>zq hy λhc hy=>by obtain rfl:=Option.some.inj hy;exact ⟨z.1,z.2,p,by rw [q,zA hz,List.isEmpty_iff.mp (jP hc).1,List.isEmpty_iff.mp (jP hc).2]⟩
noncomputable def bv (t:Bool) (a:Addr):V:=bif t then .ref a else .int 2
noncomputable def bo (t:Bool) (a:Addr):jA:=bif t then [(a,.list [.int 0])] else []
inductive zBr (t:Bool) (b d p:Addr) (B:Bd) (y:V) (o:jA):Prop
 | mk (a:Addr) (hy:y=bv t a) (ho:o=bo t a++jI b d p B)
noncomputable def zJW (F:Yv) (r:List Addr) (Q:V->jA->Prop) (body:List Stmt) (fr:Fr) (s:SS):Tree:=jS (one body) λst=>jS (zPS st) λtb=>F.ss fr tb s λf s=>match f with
 | .ret v=>.prop (j8 r Q v s.o s.n)
 | .next=>.fail
theorem zH9 {E:Est}{F:Yv}{fr:Fr}{W:Wd}{A:Around}{env:Env}{r u:List Addr}{s:SS}{body:List Stmt}{Q:V->jA->Prop}(S:jU E F) (a:At E fr W A env (r++u) s) (h:(zJW F r Q body fr s).holds):zA4 W A env body Q (jC (r++u) s.o) (jK (r++u) s.ns) :=
 jE h λst es h=>jE h λtb et h=>by
  obtain rfl:=yI es;obtain ⟨h0,hs,p,rfl⟩:=el (zNR st) et;refine jx (zPR (Es.lift (S.ss h W A env _ a) λt f s3 ok wf h=>?_));induction f with
  | next=>exact h.elim
  | ret v =>rw [List.append_assoc] at ok ⊢;obtain ⟨names,o0,e,q⟩:=h (u++t) ok.len;obtain ⟨l,hl⟩:=JN (r:=r++(u++t)) e;exact Aft.ret ⟨_,Sel.of_perm hl,q⟩
theorem zNS {n x:Int}{B:Bd}{b d p:Addr}(e:inG (YD w mg mb).1 [.ref 100000,.int n] ⟨jI 100000 100002 100004 B,[],3⟩ (zJW (go 60 (EW w mg mb 5 [] []).dn) [b,d,p] (zBr true b d p B) (YD w mg mb).1.body) = .br (x==0) .fail (.prop (j8 [b,d,p] (zBr true b d p B) (.ref 100020) ((100020,.list [.int 0])::jI 100000 100002 100004 B) 11)))
  (hx:(x==0)=false):Ct (Mine.KP.heap_1 w.params) mg mb 5 (.ref 558) [.ref b,.int n] (jI b d p B) (zBr true b d p B) :=
 zI7 (E:=EW w mg mb 5 [] []) (r:=[b,d,p]) (s:=⟨jI 100000 100002 100004 B,[],3⟩) (xs:=[.ref 100000,.int n]) (YD w mg mb).2 (okB rfl rfl) (zP rfl) rfl (L:=zJW (go 60 (EW w mg mb 5 [] []).dn) [b,d,p] (zBr true b d p B) (YD w mg mb).1.body)
  (by rw [e];exact ZB hx (zQ [100020,100000,100002,100004] (o0:=(100020,.list [.int 0])::jI 100000 100002 100004 B) (by kernel_rfl) λt _=>.mk (jL ([b,d,p]++t) 100020) rfl rfl))
  λfr u W A env s2 a h=>zH9 (zN 60 _) a h
end
section
set_option linter.unusedVariables false
variable {w:World} {mg mb:Str->Option Value}
theorem hz_fillS25:True\/PySem.Challenge.rw_tn0029_01.Holds/\∀ h:Heap,(Mine.KP.heap_1 w.params).In h:=by k_fill;exact .inl trivial
theorem bf2 {K:Frag}{fd:FuncData}{y1 y2:Str}{x1 x2:V}{T:Addr}{o:Obj}{items:Array Value}{n:Nat}{k:Value->Value->Option (Array Value)->Sem (List (Str×Value))}(hd:fd.defaults = .ref T) (ho:K.lookup T=some o) (hs:o.data = .seq items n)
  (h₁:∀ a b,bindArgs fd ⟨[a,b],[]⟩=seqItems? fd.defaults >>= k a b) (h₂:∀ a b,k a b (some items)=pure [(y1,a),(y2,b)]) :
  ∀ (s:Shared) vs,K.In s.heap->All2 [x1,x2] vs->∃ vs':List Value,All2 [x1,x2] vs'/\BindsTo s fd ⟨vs,[]⟩ ([y1,y2].zip vs'):=λs vs X hv=>by
 obtain ⟨a,b,rfl,ha,hb⟩:=hv.two;exact ⟨[a,b],.cons ha (.cons hb .nil),binds_K X hd ho hs (h₁ a b) (h₂ a b)⟩
theorem excTrap:ExcK (Mine.KP.heap_1 w.params) 60 39 59:=⟨_,_,_,_,_,_,_,_,_,_,_,_,_,by k_is⟩
section
variable {K:Frag} {W:Wd} {A:Around} {env:Env} {o:jA} {n nss:jB} {names:List (Str×NameKind)} {L:Addr} {cells:List (Str×Addr)}
theorem zCz {cs:List (Str×Addr)}{Q:List (Str×Addr)->jA->Prop}(q:Q cs o):∀ {names:List (Str×NameKind)},names.all (λp=>!(p.2==.cell))=true->LayQ names cs o Q
 | [],_=>q
 | (n,k)::r,h=>by obtain ⟨h1,h2⟩:=jP h;unfold LayQ;rw [if_neg (by rw [(Bool.not_eq_true' _).mp h1];decide)];exact zCz q h2
theorem zKy {a b:Str}{x y:V}{Q:jA->jB->Prop}(he:EnvAt env names L cells) (h1:names.lookup a=some .local) (h2:names.lookup b=some .local) (hn:(a==b)=false) (h:Q o ((L,[(a,x),(b,y)])::nss)):BindQ W A env [a,b] [x,y] o ((L,[])::nss) Q :=
 zh he h1 .nil (zh he h2 (.tail hn .nil) h)
theorem zHa {a b c:Str}{x y z:V}{Q:jA->jB->Prop}(he:EnvAt env names L cells) (h1:names.lookup a=some .local) (h2:names.lookup b=some .local) (h3:names.lookup c=some .local) (hn:(a==b)=false) (hm:(a==c)=false) (hk:(b==c)=false) (h:Q o ((L,[(a,x),(b,y),(c,z)])::nss)):BindQ W A env [a,b,c] [x,y,z] o ((L,[])::nss) Q :=
 zh he h1 .nil (zh he h2 (.tail hn .nil) (zh he h3 (.tail hm (.tail hk .nil)) h))
theorem Tr.fs {α:Type}{t:Sem α}{Q:α->jA->jB->Prop}(G:Gr W K mg mb) (h:∀ W',Gr W' K mg mb->Tr W' A t o n λx o' n'=>Q x o' (n'++nss)):Tr W A t o (n++nss) Q:=by
 have k:=Tr.fn (p:=[]) (m:=nss) (Q:=Q) G λW' G'=>Tr.mono (h W' G') λ_ _ _ q=>by rw [List.append_nil];exact q
 rwa [List.append_nil] at k
theorem Ex.fs {t:Stmt}{Q:Fl->jA->jB->Prop}(G:Gr W K mg mb) (h:∀ W',Gr W' K mg mb->Ex W' A env t o n λx o' n'=>Q x o' (n'++nss)):Ex W A env t o (n++nss) Q:=Tr.fs G λW' G'=>Tr.mono (h W' G') λ_ _ _ q=>q.mono λ_ q=>q
theorem Bo.fs {t:Expr}{Q:Bool->jA->jB->Prop}(G:Gr W K mg mb) (h:∀ W',Gr W' K mg mb->Bo W' A env t o n λx o' n'=>Q x o' (n'++nss)):Bo W A env t o (n++nss) Q:=Tr.fs G h
end
theorem JnQ.cons {W:Wd}{A:Around}{env:Env}{e:Expr}{r:List Expr}{acc:Str}{o:jA}{n:jB}{Q:V->jA->jB->Prop}(h:Ev W A env e o n λy o n=>∃ x,y = .str x/\(acc++x).length<=sizeLine/\JnQ W A env r (acc++x) o n Q):JnQ W A env (e::r) acc o n Q:=h
inductive zPT (e:Addr) (r:Str) (x:V) (o:jA):Prop
 | mk (d:Addr) (hx:x = .none) (ho:o=[(d,.attrs [("reason",.str r)]),(e,XO 60 (some d) .none)])
theorem zPU:bootBuiltins "ValueError"=some (.type "ValueError"):=by decide +kernel
theorem zQH {K:Frag}{fd:FuncData}{y1 y2 y3:Str}{x1 x2:V}{T:Addr}{o:Obj}{m:Int}{tk:Tok}{n:Nat}{k:Value->Value->Option (Array Value)->Sem (List (Str×Value))}(hd:fd.defaults = .ref T) (ho:K.lookup T=some o) (hs:o.data = .seq #[.int m tk] n)
  (h₁:∀ a b,bindArgs fd ⟨[a,b],[]⟩=seqItems? fd.defaults >>= k a b) (h₂:∀ a b,k a b (some #[.int m tk])=pure [(y1,a),(y2,b),(y3,.int m tk)]) :
  ∀ (s:Shared) vs,K.In s.heap->All2 [x1,x2] vs->∃ vs':List Value,All2 [x1,x2,.int m] vs'/\BindsTo s fd ⟨vs,[]⟩ ([y1,y2,y3].zip vs'):=λs vs X hv=>by
 obtain ⟨a,b,rfl,ha,hb⟩:=hv.two;exact ⟨[a,b,.int m tk],.cons ha (.cons hb (.cons ⟨tk,rfl⟩ .nil)),binds_K X hd ho hs (h₁ a b) (h₂ a b)⟩
theorem zNT (e:Addr) (r:Str):Ct (Mine.KP.heap_1 w.params) mg mb 2 (.ref 36) [.ref e,.str r] [(e,XO 60 none .none)] (zPT e r):=by refine Zs (Zr (by k_is) (by k_is) (bf2 rfl (by k_is) rfl (λ_ _=>rfl) (λ_ _=>rfl)) rfl rfl rfl rfl) λW A L G=>zCz (λenv A' he R=>zKy he (by exact rfl) (by exact rfl) (by decide) ?_) (by exact rfl);refine jx (zCD (hs:=by rfl) he (zFR (hp:=by rfl) G ?_ (by k_is)));refine zLV (hn:=by decide) (hd:=by decide) he G rfl (by k_is) zPU rfl ⟨rfl,jr (hd:=by decide) he rfl .head (jr (hd:=by decide) he rfl (.tail (by decide) .head) (zFS G excTrap ?_))⟩;refine Aft.next (jx (zY (ht:=by rfl) (jr (hd:=by decide) he rfl (.tail (by decide) .head) (YW (jr (hd:=by decide) he rfl .head (zIC G excTrap (by k_is) (by k_is) λd=>?_)))) rfl rfl));exact Aft.next (JB ⟨_,zH,d,rfl,rfl⟩)
inductive zPV (e:Addr) (x:V) (o:jA):Prop
 | mk (d:Addr) (s:V) (hx:x = .none) (ho:o=[(e,XO 60 (some d) .none),(d,.attrs [("reason",s),("cause",.int 2),("value",.int 0)])])
theorem zNU (e:Addr):Ct (Mine.KP.heap_1 w.params) mg mb 3 (.ref 57) [.ref e,.int 2] [(e,XO 60 none .none)] (zPV e):=by refine Zs (Zr (by k_is) (by k_is) (zQH rfl (by k_is) rfl (λ_ _=>rfl) (λ_ _=>rfl)) rfl rfl rfl rfl) λW A L G=>zCz (λenv A' he R=>zHa he (by exact rfl) (by exact rfl) (by exact rfl) (by decide) (by decide) (by decide) ?_) (by exact rfl);refine jx (zCD (hs:=by rfl) he (zEF (hp:=by rfl) (c:=39) (f:=36) G ?_ (by k_is) (by k_is) (by k_is) (by k_is)));refine zCA (hd:=by decide) he G rfl (by k_is) rfl ⟨rfl,jr (hd:=by decide) he rfl .head ?_⟩;refine zFQ (JnQ.cons (zDD ⟨_,rfl,by decide +kernel,JnQ.cons (zNy (jr (hd:=by decide) he rfl (.tail (by decide) .head) ⟨rfl,_,rfl,by decide +kernel,JnQ.cons (zDD ⟨_,rfl,by decide +kernel,JnQ.cons (zL9 (jr (hd:=by decide) he rfl (.tail (by decide) (.tail (by decide) .head)) ⟨rfl,_,rfl,by decide +kernel,by decide +kernel,?_⟩))⟩)⟩))⟩));refine Cl.use (zNT e _) G R (by decide) (.refl _) ?_;rintro _ _ ⟨d,rfl,rfl⟩;refine Aft.next (jx (zY (ht:=by rfl) (jr (hd:=by decide) he rfl (.tail (by decide) .head) (YW (jr (hd:=by decide) he rfl .head (zDN (hz:=Nat.le_of_ble_eq_true rfl) G excTrap (.tail .head) .head (.tail (by decide) .nil) (by k_is) (by k_is) ?_)))) rfl rfl));refine Aft.next (jx (zY (ht:=by rfl) (jr (hd:=by decide) he rfl (.tail (by decide) (.tail (by decide) .head)) (YW (jr (hd:=by decide) he rfl .head (zDN (hz:=Nat.le_of_ble_eq_true rfl) G excTrap (.tail .head) .head (.tail (by decide) (.tail (by decide) .nil)) (by k_is) (by k_is) ?_)))) rfl rfl));exact Aft.next (JB ⟨_,Sel.of_perm (l':=[]) (.swap ..),d,_,rfl,rfl⟩)
noncomputable def raN (st:Stmt):Option Expr:=zDW st λx c _=>c.elim x λ_=>none
theorem zPW (st:Stmt):(raN st).elim True λe=>∃ p,st = .Raise (some e) none p:=zER λx c p e=>by
 induction c using Option.casesOn with
 | none=>exact YZ λy h=>⟨p,h▸e⟩
 | some _=>exact trivial
noncomputable def zNV (e:Expr):Option (Expr×Str×Pos):=VE e λo n p=>some (o,n,p)
theorem zHb (e:Expr):(zNV e).elim True λq=>e = .Attribute q.1 q.2.1 q.2.2:=Qx λ_ _ _ e=>e
noncomputable def exN (st:Stmt):Option Expr:=zFe st λe _=>some e
theorem zPX (st:Stmt):(exN st).elim True λe=>∃ p,st = .Expr e p:=zFf λ_ p e=>⟨p,e⟩
noncomputable def nmG (fr:Fr) (x:Str) (e:Expr):Option Unit:=(J6 e).elim none λy=>Vq (y==x&&fr.names.lookup x==some .globalImplicit) (some ())
theorem zKz {fr:Fr}{x:Str}{e:Expr}{u:Unit}(h:nmG fr x e=some u):(∃ p,e = .Name x p)/\fr.names.lookup x=some .globalImplicit:=jH h λy ey h=>zq h λhq _=>by obtain ⟨h1,h2⟩:=jP hq;obtain ⟨p,e⟩:=VP ey;exact ⟨⟨p,by rw [e,eq_of_beq h1]⟩,eq_of_beq h2⟩
noncomputable def zLA (fr:Fr) (st:Stmt):Option Unit:=(raN st).elim none λx=>(zBW x).elim none λq=>(nmG fr "Trap" q.1).elim none λ_=>(one q.2.1).elim none λa=>(zNV a).elim none λy=>Vq (q.2.2.isEmpty&&y.2.1=="ILLEGAL") (nmG fr "Trap" y.1)
inductive PX (o:jA) (dd:Option Addr) (o':jA):Prop
 | mk (dx:Addr) (s:V) (hd:dd=some dx) (ho:o'=(dx,.attrs [("reason",s),("cause",.int 2),("value",.int 0)])::o)
section
variable {k:Nat} {fr:Fr} {W:Wd} {A:Around} {env:Env} {r:List Addr} {s:SS} {o:jA} {n nss:jB} {L:Addr} {ll:jX}
theorem zJX {st:Stmt}{u:Unit}(a:At (EW w mg mb k [] []).dn fr W A env r s) (hk:4<=k - 1) (h:zLA fr st=some u):EsX W A env [st] o ((L,ll)::nss) (zEE 60 L nss λ_=>PX o) :=
 jH h λx ex h=>jH h λq eq h=>jH h λ_ e1 h=>jH h λy ey h=>jH h λz ez h=>zq h λhq e2=>by obtain ⟨p,rfl⟩:=el (zPW st) ex;obtain ⟨p1,rfl⟩:=el (Zf x) eq;obtain ⟨⟨p2,e3⟩,hl⟩:=zKz e1;obtain rfl:=el (zHb y) ez;obtain ⟨⟨p4,e4⟩,_⟩:=zKz e2;obtain ⟨h1,h2⟩:=jP hq;rw [e3,yI ey,e4,List.isEmpty_iff.mp h1,eq_of_beq h2];have G:Gr W (Mine.KP.heap_1 w.params) mg mb:=a.G;refine YY (zEH G excTrap a.R.handled (JD (a:=60) G (λQ q=>zCA (hd:=by decide) a.he.h G hl (by k_is) rfl q) (by k_is) (zCC (hb:=λ_=>rfl) (ht:=λ_ _=>rfl) (zCA (hd:=by decide) a.he.h G hl (by k_is) rfl (zOA G (by k_is) (by k_is) rfl rfl ?_))) rfl));refine zIE (k:=3) G (a.R.le hk) excTrap (by k_is) (by k_is) zNU ?_ (by decide);rintro e x o ⟨dx,s,rfl,rfl⟩;exact ⟨rfl,e,_,rfl,.head,some dx,_,ll,.inl rfl,rfl,dx,s,rfl,rfl⟩
end
noncomputable def mcN (e:Expr):Option (Expr×Str×List Expr):=zDU e λf es ks p=>(zNV f).elim none λq=>Vq (ks.isEmpty&&(y6 q.1&&(j0 es&&(Nat.blt es.length 30&&(q.2.2.endLine==p.line))))) (some (q.1,q.2.1,es))
inductive McF (q:Expr×Str×List Expr):Expr->Prop
 | mk (ap p:Pos) (h1:y6 q.1=true) (h2:j0 q.2.2=true) (h3:Nat.blt q.2.2.length 30=true) (h4:(ap.endLine==p.line)=true):McF q (.Call (.Attribute q.1 q.2.1 ap) q.2.2 [] p)
theorem zPY (e:Expr):(mcN e).elim True λq=>McF q e:=Qv λf es ks p e=>jV λz ez=>YZ λq hq=>zq hq λhc hq=>by obtain rfl:=Option.some.inj hq;obtain ⟨h0,h1⟩:=jP hc;obtain ⟨h1,h2⟩:=jP h1;obtain ⟨h2,h3⟩:=jP h2;obtain ⟨h3,h4⟩:=jP h3;rw [e,List.isEmpty_iff.mp h0,el (zHb f) ez];exact .mk _ _ h1 h2 h3 h4
noncomputable def frB (names:List (Str×NameKind)):Fr:=⟨names,100006,[]⟩
noncomputable def bdS (B:Bd) (ll:jX) (n:Nat):SS:=⟨jI 100000 100002 100004 B,[(100006,ll)],n⟩
inductive BdL (B:Bd) (P:jX->Prop) (s:SS):Prop
 | mk (ll:jX) (n:Nat) (h:P ll) (hs:s=bdS B ll n)
noncomputable def zLB (F:Yv) (B:Bd) (t:Bool) (body:List Stmt) (fr:Fr) (s:SS):Tree:=jS (two body) λb=>jS (ifN b.2) λq=>jS (two q.2.1) λb'=>jS (ifN b'.2) λq'=>jS (one q'.2.1) λrz=>jS (zLA fr rz) λ_ =>
 F.s fr b.1 s λf s=>gd f.nextB (F.b fr q.1 s λc s=>gd c (F.s fr b'.1 s λf s=>gd f.nextB (F.b fr q'.1 s λc s=>.prop (BdL B (λ_=>c=t) s))))
noncomputable def zLC (F:Yv) (B:Bd) (n:Int) (body:List Stmt) (fr:Fr) (s:SS):Tree:=jS (zl body) λb=>jS (zl b.2) λb2=>jS (exN b2.1) λe=>jS (mcN e) λq=>gd (q.2.1==("need":Str)&&(y0 fr.names [q.1]==some [("self":Str)]&&y0 fr.names q.2.2==some [("number":Str),("mode":Str)])) (F.s fr b.1 s λf s=>gd f.nextB (.prop (BdL B (λll=>ll.lookup ("number":Str)=some (.int n)/\ll.lookup ("mode":Str)=some (.int 0)/\ll.lookup ("self":Str)=some (.ref 100000)) s)))
section
variable {k:Nat} {F:Yv} {names:List (Str×NameKind)} {W:Wd} {A:Around} {env:Env} {r:List Addr} {s:SS} {nss:jB} {b d p L:Addr} {ll:jX} {B:Bd} {n:Nat} {t:Bool} {body:List Stmt}
theorem zLD {u:List Addr}:jC ([b,d,p,L]++u) (bdS B ll n).o=jI b d p B:=by kernel_rfl
theorem zLE {u:List Addr}:jK ([b,d,p,L]++u) (bdS B ll n).ns=[(L,yX ([b,d,p,L]++u) ll)]:=by kernel_rfl
theorem zNW (S:jU (EW w mg mb k [] []).dn F) (hk:4<=k - 1) (a:At (EW w mg mb k [] []).dn (frB names) W A env [b,d,p,L] s) (h:(zLB F B t body (frB names) s).holds) (ht:t=true):EsX W A env body (jC [b,d,p,L] s.o) (jK [b,d,p,L] s.ns++nss) (zEE 60 L nss λ_=>PX (jI b d p B)) :=
 jE h λb1 eb h=>jE h λq eq h=>jE h λb2 eb2 h=>jE h λq2 eq2 h=>jE h λrz er h=>jE h λu eu h=>by obtain ⟨p1,e1⟩:=el (zBX b1.2) eq;obtain ⟨p2,e2⟩:=el (zBX b2.2) eq2;rw [yL eb,e1,yL eb2,e2,yI er];refine Yu (Ex.fs a.G λW' G'=>Ex.lift (S.s h W' A env _ (a.world G')) λt1 f s1 ok1 wf h=>j1 h λhf h=>⟨by rw [yW hf];rfl,YY (zFL ?_)⟩);have a1:=a.next ok1;refine Bo.fs a.G λW' G'=>Bo.lift (S.b h W' A env _ (a1.world G')) λt2 c s2 ok2 h=>j1 h λhc h=>⟨hc,?_⟩;have a2:=a1.next ok2;refine Yu (Ex.fs a.G λW' G'=>Ex.lift (S.s h W' A env _ (a2.world G')) λt3 f s3 ok3 wf h=>j1 h λhf h=>⟨by rw [yW hf];rfl,YY (zFL ?_)⟩);have a3:=a2.next ok3;refine Bo.fs a.G λW' G'=>Bo.lift (S.b h W' A env _ (a3.world G')) λt4 c s4 ok4 h=>?_;have a4:=a3.next ok4;obtain ⟨ll,n,hc,rfl⟩:=h;refine ⟨hc.trans ht,?_⟩;rw [List.append_assoc,List.append_assoc,List.append_assoc] at a4 ⊢;rw [zLD,zLE];exact zJX (a4.world a.G) hk eu
theorem zPZ {e:Expr}{x:Str}{v:V}{cells:List (Str×Addr)}{o:jA}{Q:V->jA->jB->Prop}(he:EnvAt env names L cells) (h:y0 names [e]=some [x]) (hl:ll.lookup x=some v) (q:Q v o ((L,ll)::nss)):Ev W A env e o ((L,ll)::nss) Q :=
 Ev.mono (jz (es:=[e]) (Q:=λxs o n=>∀ x,xs=[x]->Q x o n) he h (.cons hl .nil) λx e=>by cases e;exact q) λ_ _ _ q=>q _ rfl
theorem TrX.mono' {f:Value}{xs:List V}{o:jA}{n:jB}{X Y:Addr->jA->jB->Prop}(h:ClX W A f xs o n X) (k:∀ e o n,X e o n->Y e o n):ClX W A f xs o n Y:=λvs hvs=>TrX.mono (h vs hvs) k
theorem mcX {e:Expr}{q:Expr×Str×List Expr}{f:Addr}{o:jA}{n:jB}{X:Addr->jA->jB->Prop}{kvs:List (Str×V)}{C:Addr}{K:Frag}(h:mcN e=some q) (G:Gr W K mg mb) (hm:J3 K C q.2.1 f) (hl:kvs.lookup q.2.1=none)
  (k:Ev W A env q.1 o n λy o n=>y = .ref b/\Has b (.inst C d) o/\Has d (.attrs kvs) o/\Evs W A env q.2.2 o n λxs o n=>ClX W A (.ref f) (.ref b::xs) o n X):EvX W A env e o n X/\∀ l,swapsWith e none l env=pure false:=by
 cases el (zPY e) h with
 | mk ap p h1 h2 h3 h4 =>obtain ⟨pl,he⟩:=Yb (env:=env) q.2.1 h1 h2 h3 h4;exact ⟨zA8 (pl:=pl) G k hm.1 hm.2.1 hm.2.2.1 hm.2.2.2 hl h2 he,λ_=>rfl⟩
theorem zHc (a:At (EW w mg mb k [] []).dn (frB names) W A env [b,d,p,L] s):EnvAt env names L []:=by have h:EnvAt env names (jL [b,d,p,L] 100006) []:=a.he.h;rwa [show jL [b,d,p,L] 100006=L from by kernel_rfl] at h
theorem zJY:J3 (Mine.KP.heap_1 w.params) 397 "need" 273:=(EW w (λ_=>none) (λ_=>none) 0 [] []).hmt _ _ (by kernel_rfl)
theorem mt_read:J3 (Mine.KP.heap_1 w.params) 397 "read" 281:=(EW w (λ_=>none) (λ_=>none) 0 [] []).hmt _ _ (by kernel_rfl)
theorem zNX {m:Int}(S:jU (EW w mg mb k [] []).dn F) (a:At (EW w mg mb k [] []).dn (frB names) W A env [b,d,p,L] s) (h:(zLC F B m body (frB names) s).holds)
  (c:∀ ll,ClX W A (.ref 273) [.ref b,.int m,.int 0] (jI b d p B) ((L,ll)::nss) (LeftX 60 ((L,ll)::nss) λ_=>PX (jI b d p B))):EsX W A env body (jC [b,d,p,L] s.o) (jK [b,d,p,L] s.ns++nss) (zEE 60 L nss λ_=>PX (jI b d p B)) :=
 jE h λb1 eb h=>jE h λb2 eb2 h=>jE h λe ee h=>jE h λq eq h=>j1 h λhg h=>by
  obtain ⟨p1,e1⟩:=el (zPX b2.1) ee;obtain ⟨g1,g2⟩:=jP hg;rw [zA eb,zA eb2,e1];refine Yu (Ex.fs a.G λW' G'=>Ex.lift (S.s h W' A env _ (a.world G')) λt1 f s1 ok1 wf h=>j1 h λhf h=>⟨by rw [yW hf];rfl,?_⟩);obtain ⟨ll,n,⟨l1,l2,l3⟩,rfl⟩:=h;rw [zLD,zLE];have lk:∀ {x:Str} {v:V},ll.lookup x=some v->(yX ([b,d,p,L]++t1) ll).lookup x=some (v.ren ([b,d,p,L]++t1)):=λh=>by rw [J2,h];rfl
  obtain ⟨g2,g3⟩:=jP g2;have G:Gr W (Mine.KP.heap_1 w.params) mg mb:=a.G;have e0:V.ren ([b,d,p,L]++t1) (.ref 100000) = .ref b:=by kernel_rfl
  have key:=mcX eq G (C:=397) (f:=273) (b:=b) (d:=d) (kvs:=j6 p B) (X:=zEE 60 L nss λ_=>PX (jI b d p B)) (by rw [eq_of_beq g1];exact zJY) (by rw [eq_of_beq g1];kernel_rfl) (zPZ (v:=V.ref b) (zHc a) (eq_of_beq g2) ((lk l3).trans (congrArg some e0)) ⟨rfl,.head,.tail .head,jz (zHc a) (eq_of_beq g3) (.cons (v:=V.int m) (lk l1) (.cons (v:=V.int 0) (lk l2) .nil)) (TrX.mono' (c _) λe o n z=>z.fly λ_ _ q=>q)⟩);exact YY (zFM (zHc a) key.1 (key.2 _))
end
end
section
set_option linter.unusedVariables false
variable {w:World} {mg mb:Str->Option Value}
theorem hz_fillS26:True\/PySem.Challenge.rw_tn0029_01.Holds/\∀ h:Heap,(Mine.KP.heap_1 w.params).In h:=by k_fill;exact .inl trivial
noncomputable def ll0 (n:Int):jX:=[("self",.ref 100000),("number",.int n),("mode",.int 0)]
structure Jl (w:World) (mg mb:Str->Option Value) (n:Int) (B:Bd) (x:Int):Prop where
 eT:∀ b d p,inG (YD w mg mb).1 [.ref 100000,.int n] ⟨jI 100000 100002 100004 B,[],3⟩ (zJW (go 60 (EW w mg mb 5 [] []).dn) [b,d,p] (zBr true b d p B) (YD w mg mb).1.body) = .br (x==0) .fail (.prop (j8 [b,d,p] (zBr true b d p B) (.ref 100020) ((100020,.list [.int 0])::jI 100000 100002 100004 B) 11))
 eN:zLB (go 60 (EW w mg mb 5 [] []).dn) B true (zBU w mg mb).1.body (frB (zBU w mg mb).1.names) (bdS B (ll0 n) 4) = .prop (BdL B (λ_=>(x==0)=true) (bdS B [("self",.ref 100000),("number",.int n),("mode",.int 0),("let",.int (la B.m1 B.s1))] 5))
 eR:zLC (go 60 (EW w mg mb 6 [] []).dn) B n (zBV w mg mb).1.body (frB (zBV w mg mb).1.names) (bdS B (ll0 n) 4) = .prop (BdL B (λll=>ll.lookup ("number":Str)=some (.int n)/\ll.lookup ("mode":Str)=some (.int 0)/\ll.lookup ("self":Str)=some (.ref 100000)) (bdS B (ll0 n) 4))
theorem zLF {B:Bd}:Jl w mg mb 3072 B (la (la B.m1 B.s1 / 1) 1):=⟨λb d p=>by kernel_rfl,by kernel_rfl,by kernel_rfl⟩
theorem zLG {B:Bd}:Jl w mg mb 3073 B (la (la B.m1 B.s1 / 2) 1):=⟨λb d p=>by kernel_rfl,by kernel_rfl,by kernel_rfl⟩
theorem zLH {B:Bd}:Jl w mg mb 3074 B (la (la B.m1 B.s1 / 4) 1):=⟨λb d p=>by kernel_rfl,by kernel_rfl,by kernel_rfl⟩
theorem zJZ:∃ p1 p2 p3 kk p4 p5 p6 p7 p8 p9 p10 p11 p12 p13,(YD w mg mb).1.body=[.Try [.Return (some (.List [.Call (.Attribute (.Name "board" p1) "read" p2) [.Name "at" p3,.Constant (.int 0) kk p4] [] p5] p6)) p7] [.ExceptHandler (some (.Name "Trap" p8)) (some "trap") [.Return (some (.Attribute (.Name "trap" p9) "cause" p10)) p11] p12] [] [] p13]/\(p2.endLine==p5.line)=true:=⟨_,_,_,_,_,_,_,_,_,_,_,_,_,_,rfl,rfl⟩
section
variable {W:Wd} {A:Around} {env:Env} {nss:jB} {l:List Env} {b d p L:Addr} {B:Bd} {n x:Int}
theorem zP0 {k kk:Nat}{names:List (Str×NameKind)}{A':Around}(G:Gr W (Mine.KP.heap_1 w.params) mg mb) (I:InF A kk names L [] env A') (hk:k - 1<=kk):At (EW w mg mb k [] []).dn (frB names) W A' env [b,d,p,L] (bdS B (ll0 n) 4) :=
 have wf:∀ a,wfB 4 a=true->wfA 4 a:=λ_ h=>wfB_h h
 ⟨G,I.R.le hk,⟨by show EnvAt env names (jL [b,d,p,L] 100006) [];rw [show jL [b,d,p,L] 100006=L from by kernel_rfl];exact I.he⟩,⟨wf 100006 (by kernel_rfl),jj⟩,rfl,YN (by kernel_rfl),jO ⟨wf 100006 (by kernel_rfl),jO (wf 100000 (by kernel_rfl)) (jO trivial (jO trivial jj))⟩ jj⟩
theorem zDx:jC [b,d,p,L] (bdS B (ll0 n) 4).o=jI b d p B/\jK [b,d,p,L] (bdS B (ll0 n) 4).ns++nss=(L,([("self",.ref b),("number",.int n),("mode",.int 0)]:jX))::nss:=⟨by kernel_rfl,by kernel_rfl⟩
theorem zJ0 (h:Jl w mg mb n B x) (hx:(x==0)=true) (G:Gr W (Mine.KP.heap_1 w.params) mg mb) (R:Ar A 5) (hfr:A.frames=some l) (F:Frs l nss):ClX W A (.ref 273) [.ref b,.int n,.int 0] (jI b d p B) nss (LeftX 60 nss λ_=>PX (jI b d p B)):=by refine zFN ((zBU w mg mb).2.2 _ _ rfl) G R hfr F λL=>zCz (λenv A' I=>zHa (a:="self") (b:="number") (c:="mode") I.he (by exact rfl) (by exact rfl) (by exact rfl) (by decide) (by decide) (by decide) ?_) (by exact rfl);rw [<- (zDx (L:=L) (nss:=nss)).1,<- (zDx (b:=b) (d:=d) (p:=p) (B:=B)).2];exact zNW (k:=5) (zN 60 _) (by decide) (zP0 G I (Nat.le_refl _)) (by rw [h.eN];exact ⟨_,_,hx,rfl⟩) rfl
theorem zJ1 (h:Jl w mg mb n B x) (hx:(x==0)=true) (G:Gr W (Mine.KP.heap_1 w.params) mg mb) (R:Ar A 6) (hfr:A.frames=some l) (F:Frs l nss):ClX W A (.ref 281) [.ref b,.int n,.int 0] (jI b d p B) nss (LeftX 60 nss λ_=>PX (jI b d p B)):=by refine zFN ((zBV w mg mb).2.2 _ _ rfl) G R hfr F λL=>zCz (λenv A' I=>zHa (a:="self") (b:="number") (c:="mode") I.he (by exact rfl) (by exact rfl) (by exact rfl) (by decide) (by decide) (by decide) ?_) (by exact rfl);rw [<- (zDx (L:=L) (nss:=nss)).1,<- (zDx (b:=b) (d:=d) (p:=p) (B:=B)).2];exact zNX (k:=6) (zN 60 _) (zP0 G I (Nat.le_refl _)) (by rw [h.eR];exact ⟨_,_,⟨rfl,rfl,rfl⟩,rfl⟩) λll=>zJ0 h hx G I.R (I.fr' hfr) (I.frs F)
theorem zNY (h:Jl w mg mb n B x) (hx:(x==0)=true) (R:Ar A 7) (hfr:A.frames=some l) (F:Frs l nss):CtF (Mine.KP.heap_1 w.params) mg mb A nss (.ref 558) [.ref b,.int n] (jI b d p B) (zBr false b d p B):=λW G=>Cc.cl (by
 refine zFT ((YD w mg mb).2.2 _ _ rfl) G R λL=>zCz (λenv A' I=>zKy (a:="board") (b:="at") I.he (by exact rfl) (by exact rfl) (by decide) ?_) (by exact rfl);obtain ⟨p1,p2,p3,kk,p4,p5,p6,p7,p8,p9,p10,p11,p12,p13,e,e2⟩:=zJZ (w:=w) (mg:=mg) (mb:=mb);rw [e];obtain ⟨pl,he⟩:=Yb (e:=.Name "board" p1) (apos:=p2) (pos:=p5) (es:=[.Name "at" p3,.Constant (.int 0) kk p4]) (env:=env) "read" rfl rfl rfl e2;refine jx (zL8 (P:=λ_=>PX (jI b d p B)) G I.he (I.fr' hfr) I.hf (λll=>I.frs F) excTrap.exc (by exact rfl) ?_ (λA2 o n=>zCA (hd:=by decide) I.he G rfl (by k_is) rfl ⟨rfl,rfl,rfl⟩) ?_)
 ·refine YY (zCG (zEC (hs:=λ_=>rfl) (zA8 (pl:=pl) (b:=b) (d:=d) (kvs:=j6 p B) (C:=397) (f:=281) G (jr (hd:=by decide) I.he rfl .head ⟨rfl,.head,.tail .head,jr (hd:=by decide) I.he rfl (.tail (by decide) .head) (JV ?_)⟩) mt_read.1 mt_read.2.1 mt_read.2.2.1 mt_read.2.2.2 (by kernel_rfl) rfl he)));exact TrX.mono' (zJ1 h hx G I.R (I.fr' hfr) (I.frs F)) λe o n z=>⟨_,z⟩
 ·rintro A2 e dd o' T ⟨dx,s,rfl,rfl⟩;refine jx (JW (zCC (hb:=λ_=>rfl) (ht:=λ_ _=>rfl) (jr (hd:=by decide) I.he rfl .head (zNz (hx:=by rfl) (d:=dx) G excTrap .head (.tail (.tail .head)) (.tail (by decide) .head) (by k_is) (by k_is) (by k_is) (by k_is) ?_))));exact Aft.ret ⟨_,rfl,⟨_,rfl,_,Sel.of_perm (l':=[(e,XO 60 (some dx) (.ref T)),(T,ZN .none),(dx,.attrs [("reason",s),("cause",.int 2),("value",.int 0)])]) (List.perm_append_comm (l₁:=[_,_,_]) (l₂:=jI b d p B)),0,rfl,rfl⟩⟩)
theorem zP1 (h:Jl w mg mb n B x) (hx:x=0\/x=1) (R:Ar A 7) (hfr:A.frames=some l) (F:Frs l nss):CtF (Mine.KP.heap_1 w.params) mg mb A nss (.ref 558) [.ref b,.int n] (jI b d p B) (zBr (x==1) b d p B):=by
 rcases hx with rfl | rfl
 ·exact zNY h rfl R hfr F
 ·intro W G;refine Cl.use (zNS (h.eT b d p) rfl) G (R.le (by decide)) (Nat.le_refl _) (.of_eq (List.append_nil _).symm) λx o' q=>?_;rw [List.append_nil];exact ⟨_,rfl,zH,q⟩
end
end
section
set_option linter.unusedVariables false
variable {w:World} {mg mb:Str->Option Value}
noncomputable def zP2 (st:Stmt):List Stmt:=(zCw st).elim [] (·.2.2)
noncomputable def dE:Expr:=.Tuple [] 0 ⟨0,0,0,0⟩
noncomputable def dS:Stmt:=.Pass ⟨0,0,0,0⟩
noncomputable def yk (w:World) (mg mb:Str->Option Value) (i:Nat):Stmt:=(VV w mg mb).1.body.getD i dS
noncomputable def Qh (w:World) (mg mb:Str->Option Value):List (Str×NameKind):=(VV w mg mb).1.names
noncomputable def zJ2 (st:Stmt):Expr:=(zJR st).elim dE (·.2)
noncomputable def yj (e:Expr) (i:Nat):Expr:=(zBW e).elim dE λq=>q.2.1.getD i dE
theorem zHd:(VV w mg mb).1.body=[yk w mg mb 0,yk w mg mb 1,yk w mg mb 2,yk w mg mb 3,yk w mg mb 4,yk w mg mb 5,yk w mg mb 6,yk w mg mb 7]:=by kernel_rfl
noncomputable def fr0 (names:List (Str×NameKind)):Fr:=⟨names,100000,[("let",100002)]⟩
structure zNZ (E:Est) (names:List (Str×NameKind)) (st:Stmt) (x:Str) (f:Addr) (y:Str):Prop where
 h1:zJR st=some (x,zJ2 st)
 h2:tc E (fr0 names) (zJ2 st)=some (f,[yj (zJ2 st) 0])
 h3:y0 names [yj (zJ2 st) 0]=some [y]
 h4:names.lookup x=some .local
theorem zN0:zNZ (EL w mg mb) (Qh w mg mb) (yk w mg mb 0) "box" 408 "script":=⟨by kernel_rfl,by kernel_rfl,by kernel_rfl,by kernel_rfl⟩
theorem zN1:zNZ (EL w mg mb) (Qh w mg mb) (yk w mg mb 1) "world" 503 "box":=⟨by kernel_rfl,by kernel_rfl,by kernel_rfl,by kernel_rfl⟩
section
variable {W:Wd} {A:Around} {env:Env} {L lc:Addr} {ll ll':jX} {names:List (Str×NameKind)} {st:Stmt} {rest:List Stmt} {x y:Str} {f:Addr} {v:V} {o o2 oc:jA} {n:jB} {k:Nat} {P:V->jA->Prop} {Q:Fl->jA->jB->Prop}
theorem zJ3 (G:Gr W (Mine.KP.heap_1 w.params) mg mb) (R:Ar A 9) (he:EnvAt env names L [("let",lc)]):At (EL w mg mb) (fr0 names) W A env [L,lc] ⟨[],[],2⟩ :=
 have wf:∀ a,wfB 2 a=true->wfA 2 a:=λ_ h=>wfB_h h
 ⟨G,R,⟨by
  have e1:jL [L,lc] 100000=L:=by kernel_rfl
  have e2:jL [L,lc] 100002=lc:=by kernel_rfl
  show EnvAt env names (jL [L,lc] 100000) [(("let":Str),jL [L,lc] 100002)];rw [e1,e2];exact he⟩,⟨wf 100000 (by kernel_rfl),jO (wf 100002 (by kernel_rfl)) jj⟩,rfl,jj,jj⟩
theorem zLI (a:zNZ (EL w mg mb) names st x f y) (G:Gr W (Mine.KP.heap_1 w.params) mg mb) (R:Ar A 9) (he:EnvAt env names L [("let",lc)]) (hl:ll.lookup y=some v) (c:Ct (Mine.KP.heap_1 w.params) mg mb k (.ref f) [v] oc P) (hk:k<=9) (p:o.Perm (oc++o2))
  (h:∀ z o',P z o'->∃ ll',SetL x z ll ll'/\Es W A env rest (o'++o2) ((L,ll')::n) Q):Es W A env (st::rest) o ((L,ll)::n) Q :=
 jx (zH5 (zJ3 G R he) (by kernel_rfl) a.h1 a.h4 a.h2 (jz (es:=[_]) he a.h3 (.cons hl .nil) (Cl.use c G R hk p λz o' q=>⟨rfl,(h z o' q).imp λ_ q=>⟨q.1,Aft.next q.2⟩⟩)))
end
noncomputable def gdE (st:Stmt):Expr:=(Vp st).getD dE
structure GdF (E:Est) (fr:Fr) (st:Stmt) (f:Addr) (es:List Expr) (ys:List Str):Prop where
 h1:Vp st=some (gdE st)
 h2:tc E fr (gdE st)=some (f,es)
 h3:y0 fr.names es=some ys
theorem law_s2:GdF (EL w mg mb) (fr0 (Qh w mg mb)) (yk w mg mb 2) 479 [yj (gdE (yk w mg mb 2)) 0] ["world"]:=⟨by kernel_rfl,by kernel_rfl,by kernel_rfl⟩
noncomputable def zJ4 (st:Stmt):Expr:=(zCw st).elim dE (·.1)
noncomputable def ZK (st:Stmt):Expr:=(zCw st).elim dE (·.2.1)
noncomputable def ifT (st:Stmt):Expr:=(ifN st).elim dE (·.1)
noncomputable def zQI (st:Stmt):List Stmt:=(ifN st).elim [] (·.2.1)
noncomputable def zBs (e:Expr) (i:Nat):Expr:=(J5 e).elim dE λq=>q.2.getD i dE
noncomputable def zHe (e:Expr):Expr:=(zJQ e).getD dE
noncomputable def zHf (e:Expr):Expr×Expr:=(zNN e).getD (dE,dE)
noncomputable def fdE (e:Expr):Expr×Expr:=(fdN e).getD (dE,dE)
noncomputable def lb3 (w:World) (mg mb:Str->Option Value) (i:Nat):Stmt:=(zP2 (yk w mg mb 3)).getD i dS
noncomputable def lb4 (w:World) (mg mb:Str->Option Value) (i:Nat):Stmt:=(zP2 (yk w mg mb 4)).getD i dS
theorem zN2 {X:Bx}{i c:Int}:zKw (go 60 (EL w mg mb)) (frL (Qh w mg mb)) (zJ4 (yk w mg mb 3)) (lb3 w mg mb 0) X i c = .br (i==0) (.side (zX X 2) (.side (IntMulOk 2 (jF X 2)) (.prop (zNP c (zBo (jD X 2) [("turn",.int i),("way",.int (1 + 2 * jF X 2))]))))) (.side (zX X 12) (.prop (zNP c (zBo (jD X 12) [("turn",.int i),("way",.int (jF X 12))])))):=by kernel_rfl
theorem zN3 {i side xa xb:Int}{L0 L1:Lv}{c0 c1:Cm}{M0 M1:List V}:zKx (go 60 (EL w mg mb)) (frW (Qh w mg mb)) (zJ4 (yk w mg mb 4)) (lb4 w mg mb 0) (zBs (ifT (lb4 w mg mb 1)) 0) i xa xb (zBq side xa xb L0 L1 c0 c1 M0 M1) = .prop (zPO xa xb (zBq side xa xb L0 L1 c0 c1 M0 M1) (xa != xb) (zBq side xa xb L0 L1 c0 c1 M0 M1 [("turn",.int i),("one",.int xa),("other",.int xb)])):=by kernel_rfl
theorem law_G3:GdF (EL w mg mb) (frL (Qh w mg mb)) (lb3 w mg mb 1) 565 [yj (gdE (lb3 w mg mb 1)) 0,yj (gdE (lb3 w mg mb 1)) 1,yj (gdE (lb3 w mg mb 1)) 2] ["box","world","way"]:=⟨by kernel_rfl,by kernel_rfl,by kernel_rfl⟩
theorem zP3:(zCw (yk w mg mb 3))=some (zJ4 (yk w mg mb 3),ZK (yk w mg mb 3),[lb3 w mg mb 0,lb3 w mg mb 1]):=by kernel_rfl
theorem zP4:(zCw (yk w mg mb 4))=some (zJ4 (yk w mg mb 4),ZK (yk w mg mb 4),[lb4 w mg mb 0,lb4 w mg mb 1]):=by kernel_rfl
theorem law_I4:gcN (EL w mg mb) (fr0 (Qh w mg mb)) (ZK (yk w mg mb 4))=some (.ty "range",[yj (ZK (yk w mg mb 4)) 0])/\Z3 (yj (ZK (yk w mg mb 4)) 0)=some 2:=⟨by kernel_rfl,by kernel_rfl⟩
theorem law_I3:ItF (EL w mg mb) (fr0 (Qh w mg mb)) (ZK (yk w mg mb 3)) (yj (ZK (yk w mg mb 3)) 0) (zHf (yj (ZK (yk w mg mb 3)) 0)).1 (zHf (yj (ZK (yk w mg mb 3)) 0)).2
  (yj (zHf (yj (ZK (yk w mg mb 3)) 0)).2 0) (yj (zHf (yj (ZK (yk w mg mb 3)) 0)).2 1) (yj (yj (zHf (yj (ZK (yk w mg mb 3)) 0)).2 0) 0):=⟨by kernel_rfl,by kernel_rfl,by kernel_rfl,by kernel_rfl,by kernel_rfl,by kernel_rfl,by kernel_rfl⟩
theorem zP5:JF (EL w mg mb) (frW (Qh w mg mb)) (lb4 w mg mb 1) (ifT (lb4 w mg mb 1)) (zBs (ifT (lb4 w mg mb 1)) 0) (zBs (ifT (lb4 w mg mb 1)) 1) (zHe (zBs (ifT (lb4 w mg mb 1)) 1)) (yj (zHe (zBs (ifT (lb4 w mg mb 1)) 1)) 0) (yj (zHe (zBs (ifT (lb4 w mg mb 1)) 1)) 1)
  (fdE (yj (zHe (zBs (ifT (lb4 w mg mb 1)) 1)) 1)).1 (fdE (yj (zHe (zBs (ifT (lb4 w mg mb 1)) 1)) 1)).2 (zQI (lb4 w mg mb 1)):=⟨by kernel_rfl,by kernel_rfl,by kernel_rfl,by kernel_rfl,by kernel_rfl,by kernel_rfl,by kernel_rfl,by kernel_rfl⟩
section
variable {W:Wd} {A:Around} {env:Env} {vs:List Value} {is:List Int} {scr lc bx sm L wd:Addr} {side:Int} {rest:List Stmt} {k cnt:Nat} {o:jA} {n:jB} {Q:Fl->jA->jB->Prop}
theorem Qi {E:Est}{fr:Fr}{r:List Addr}{s:SS}{v:V}{es:List Expr}{e:Expr}(a:At E fr W A env r s) (h:gcN E fr e=some (v,es)):∀ x,foldedSetIterable e env x=pure x:=by obtain ⟨x,p,pos,rfl,_⟩:=zH6 (o:=[]) (n:=[]) a h;exact λ_=>rfl
theorem zP6 (G:Gr W (Mine.KP.heap_1 w.params) mg mb) (R:Ar A 9) (he:EnvAt env (Qh w mg mb) L [("let",lc)]) (hk:k<=100) (hI:zEm vs scr lc bx sm L wd side k o n)
  (fin:∀ o n,QE vs scr lc L wd side k 2 o n->Es W A env rest o n Q):Es W A env (yk w mg mb 4::rest) o n Q:=by
 obtain ⟨r,xa,xb,L0,L1,c0,c1,M0,M1,X,N,ll,hr,hd,hW,hB,hs,rfl,h1,h2,h3⟩:=hI;obtain ⟨p,e⟩:=el (zCx (yk w mg mb 4)) zP4;refine Es.drop hs (Es.locs (JH h3) ?_);rw [e];have a:=zJ3 (w:=w) G R he;refine jx (QJ G (zKv a law_I4.1 ?_) (Qi a law_I4.1));obtain ⟨p1,p2,e2⟩:=el (JL (yj (ZK (yk w mg mb 4)) 0)) law_I4.2;rw [e2];refine JV (Qq λl=>ForQ.range (cnt:=2) (QE vs scr lc L wd side k) R.handled .head (by decide) ?_ (λW' i o n G' hi hI=>?_) λo n hI=>Aft.next (fin o n hI))
 ·exact .mk r xa xb L0 L1 c0 c1 M0 M1 N _ hr hd hW (Sel.of_perm (l':=(l,zU 2)::jc bx sm X) (List.perm_append_comm (l₁:=(l,zU 2)::jc bx sm X) (l₂:=zNQ vs scr lc side r xa xb L0 L1 c0 c1 M0 M1 N))) rfl (by kernel_rfl)
 ·exact zEn (zN 60 _) R he G' (λi side xa xb L0 L1 c0 c1 M0 M1=>by rw [zN3];exact .mk _ rfl rfl) zP5 hI (by omega)
theorem zP7 (G:Gr W (Mine.KP.heap_1 w.params) mg mb) (R:Ar A 9) (he:EnvAt env (Qh w mg mb) L [("let",lc)]) (hv:All2 (is.map V.int) vs) (hlen:is.length<=63) (hI:zEm vs scr lc bx sm L wd side 0 o n)
  (fin:∀ k o n,k<=100->zEm vs scr lc bx sm L wd side k o n->Es W A env rest o n Q):Es W A env (yk w mg mb 3::rest) o n Q:=by
 obtain ⟨p,e⟩:=el (zCx (yk w mg mb 3)) zP3;rw [e];have a:=zJ3 (w:=w) G R he;obtain ⟨r,xa,xb,L0,L1,c0,c1,M0,M1,X,N,ll,hr,hd,hW,hB,hs,rfl,h1,h2,h3⟩:=hI;have hscr:Has scr (z5 vs) (zJT vs scr lc bx sm side r xa xb L0 L1 c0 c1 M0 M1 X N):=.of_mem (List.mem_append_right _ (List.mem_append_right _ (List.mem_append_right _ (.tail _ (.head _)))));refine Es.drop hs ?_;have hl:(is.map V.int).length=is.length:=List.length_map ..;have ec:(3 + if (20:Int) < ((is.map V.int).length:Int) then (20:Int) else ((is.map V.int).length:Int))=((3 + min is.length 20:Nat):Int):=by
  rw [hl];by_cases h:(20:Int) < (is.length:Int)
  ·rw [if_pos h,Nat.min_eq_right (by omega)];rfl
  ·rw [if_neg h,Nat.min_eq_left (by omega)];omega
 refine jx (QJ G (zJS a law_I3 (by kernel_rfl) h1 hv hscr (by omega) λl=>?_) (Qi a law_I3.h1));rw [ec];have hm:min is.length 20<=20:=Nat.min_le_right ..;refine ForQ.range (cnt:=3 + min is.length 20) (zEm vs scr lc bx sm L wd side) R.handled .head (by omega) ?_ (λW' i o n G' hi hI=>?_) λo n hI=>Aft.next (fin _ o n (by omega) hI)
 ·exact .mk r xa xb L0 L1 c0 c1 M0 M1 X N ll hr hd hW hB (Sel.of_perm (l':=[(l,zU _)]) (List.perm_append_comm (l₁:=[(l,zU _)]) (l₂:=zJT vs scr lc bx sm side r xa xb L0 L1 c0 c1 M0 M1 X N))) rfl h1 h2 h3
 ·refine zH8 (zN 60 _) R he G' (λX i c hB hc=>?_) law_G3.h1 law_G3.h2 law_G3.h3 hI (by omega);rw [zN2];exact YR (C:=True) (λ_=>⟨hB.tk (by omega) (by decide) (by decide),⟨Zu (by decide),.mk _ _ _ (hB.next (by decide)) rfl⟩⟩) (λ_=>⟨hB.tk (by omega) (by decide) (by decide),.mk _ _ _ (hB.next (by decide)) rfl⟩) trivial
end
end
section
set_option linter.unusedVariables false
variable {w:World} {mg mb:Str->Option Value}
theorem hz_fillS28:True\/PySem.Challenge.rw_tn0029_01.Holds/\∀ h:Heap,(Mine.KP.heap_1 w.params).In h:=by k_fill;exact .inl trivial
noncomputable def bN (b:Bool):Nat:=bif b then 1 else 0
noncomputable def cdS (W:jA) (v:Int) (b0 b1 b2:Bool):SS:=⟨(nm (28 + bN b0 + bN b1 + bN b2),.list [bv b0 (nm 26),bv b1 (nm (27 + bN b0)),bv b2 (nm (28 + bN b0 + bN b1))])::(bo b2 (nm (28 + bN b0 + bN b1))++(bo b1 (nm (27 + bN b0))++(bo b0 (nm 26)++(W++[(100046,.cell (some (.int v))),(nm 24,.list [.int 0,.int 1,.int 2])])))),
 [(100044,[("world",.ref 100000),("due",.ref (nm (28 + bN b0 + bN b1 + bN b2)))])],29 + bN b0 + bN b1 + bN b2⟩
noncomputable def cdT (b0 b1 b2:Bool) (P:Bool->Bool->Bool->Tree):Tree:=.br b0 (.br b1 (.br b2 (P true true true) (P true true false)) (.br b2 (P true false true) (P true false false))) (.br b1 (.br b2 (P false true true) (P false true false)) (.br b2 (P false false true) (P false false false)))
noncomputable def zHg (side xa xb:Int) (L0 L1:Lv) (c0 c1:Cm) (M0 M1:List V):SS:=⟨wL side xa xb L0 L1 c0 c1 M0 M1++[(100046,.cell none)],[(100044,zBp 100000 [])],24⟩
noncomputable def zA1 (v k:Int):Bool:=la (v / k) 1==1
noncomputable def cdE (side xa xb:Int) (L0 L1:Lv) (c0 c1:Cm) (M0 M1:List V):Bool->Bool->Bool->SS:=cdS (wL side xa xb L0 L1 c0 c1 M0 M1) (la L0.v1 L1.v1)
theorem zJ5 {side xa xb:Int}{L0 L1:Lv}{c0 c1:Cm}{M0 M1:List V}{P:SS->Prop}:((go 60 (EL w mg mb)).s (frW (Qh w mg mb)) (yk w mg mb 5) (zHg side xa xb L0 L1 c0 c1 M0 M1) λf s=>gd f.nextB ((go 60 (EL w mg mb)).s (frW (Qh w mg mb)) (yk w mg mb 6) s λf s=>gd f.nextB (.prop (P s)))) =
  cdT (zA1 (la L0.v1 L1.v1) 1) (zA1 (la L0.v1 L1.v1) 2) (zA1 (la L0.v1 L1.v1) 4) λx y z=>.prop (P (cdE side xa xb L0 L1 c0 c1 M0 M1 x y z)):=by kernel_rfl
theorem zP8 {b0 b1 b2:Bool}{S:Bool->Bool->Bool->SS}:(cdT b0 b1 b2 λx y z=>.prop (S x y z=S b0 b1 b2)).holds:=by cases b0<;>cases b1<;>cases b2<;>exact rfl
noncomputable def sc1:Scope:={ kind:=.function,names:=[(".0",.local),("spot",.local),("_law_counter",.globalImplicit),("board",.free)],isGenerator:=false,isCoroutine:=false }
noncomputable def sc2:Scope:={ kind:=.function,names:=[(".0",.local),("board",.cell)],isGenerator:=false,isCoroutine:=false }
noncomputable def zN4 (p1 p2 p3 p4 p5 p6:Pos):Expr:=.Call (.Name "_law_counter" p1) [.Name "board" p2,.BinOp (.Constant (.int 3072) 0 p3) .Add (.Name "spot" p4) p5] [] p6
noncomputable def zP9 (p1 p2 p3 p4 p5 p6 p7 p8 p9 p10 p11 p12:Pos):Expr:=.ListComp (zN4 p1 p2 p3 p4 p5 p6) [⟨.Name "spot" p7,.List [.Constant (.int 0) 0 p8,.Constant (.int 1) 0 p9,.Constant (.int 2) 0 p10] p11,[],0⟩] sc1 p12
theorem zPa:∃ p1 p2 p3 p4 p5 p6 p7 p8 p9 p10 p11 p12 p13 p14 p15 p16 p17 p18 p19 p20 p21 p22,yk w mg mb 7 = .Return (some (.Compare (.ListComp (zP9 p1 p2 p3 p4 p5 p6 p7 p8 p9 p10 p11 p12) [⟨.Name "board" p13,.Subscript (.Name "world" p14) (.Constant (.str "boards") 0 p15) p16,[],0⟩] sc2 p17) [.Eq] [.List [.Name "due" p18,.Name "due" p19] p20] p21)) p22:=⟨_,_,_,_,_,_,_,_,_,_,_,_,_,_,_,_,_,_,_,_,_,_,rfl⟩
section
variable {W:Wd} {A:Around} {env:Env} {l:List Env} {b d p c L C:Addr} {B:Bd} {o o2:jA} {n:jB} {names cn:List (Str×NameKind)} {cells:List (Str×Addr)}
theorem zHh {s x:Int}{need:jA->Prop}{Q:List V->jA->jB->Prop}{r ys:List V}{p1 p2 p3 p4 p5 p6 p7:Pos}(h1:cn.lookup ("spot":Str)=some .local) (h2:cn.lookup ("_law_counter":Str)=some .globalImplicit) (h3:cn.lookup ("board":Str)=some .cell) (E:Jl w mg mb (3072 + s) B x) (hx:x=0\/x=1) (R:Ar A 7) (hfr:A.frames=some l) (F:Frs l n)
  (hp:o.Perm (jI b d p B++o2)) (hc:Has c (.cell (some (.ref b))) o2) (hn:need o) (next:∀ a,yx (Mine.KP.heap_1 w.params) mg mb A cn [("board",c)] (zN4 p1 p2 p3 p4 p5 p6) (.Name "spot" p7) [] need Q r (bv (x==1) a::ys) (jI b d p B++(bo (x==1) a++o2)) n) :
  yx (Mine.KP.heap_1 w.params) mg mb A cn [("board",c)] (zN4 p1 p2 p3 p4 p5 p6) (.Name "spot" p7) [] need Q (.int s::r) ys o n:=by
 refine ⟨hn,λW' G' cenv C he=>JC (zh he h1 .nil (Qr ⟨λ_=>?_,nofun⟩))⟩;refine JD (a:=558) G' (λQ q=>zCA (hd:=by decide) he G' h2 (by k_is) rfl q) (by k_is) (zEq (hd:=by decide) he h3 rfl (Has.perm (.tail (.tail (.tail hc))) hp.symm) (YU (JV (jr (hd:=by decide) he h1 .head (zEu rfl ?_))))) rfl;refine CtF.use (zP1 E hx R hfr (F.up λb hb=>List.mem_cons_of_mem _ hb)) G' hp λy o' q=>?_;obtain ⟨a,rfl,rfl⟩:=q;exact PopNs.some (Sel.of_perm (l':=[]) (by rw [List.append_nil,List.append_assoc];exact List.perm_append_comm_assoc ..)) (next a)
noncomputable def inX (D b d p:Addr) (B:Bd) (t0 t1 t2:Bool) (a0 a1 a2 l:Addr):jA:=(D,.list [bv t0 a0,bv t1 a1,bv t2 a2])::(jI b d p B++(bo t2 a2++(bo t1 a1++(bo t0 a0++[(l,.list [.int 0,.int 1,.int 2])]))))
theorem zDy {D b d p:Addr}{B:Bd}{t0 t1 t2:Bool}{a0 a1 a2 l:Addr}{o:jA}:(D,.list [bv t0 a0,bv t1 a1,bv t2 a2])::(jI b d p B++(bo t2 a2++(bo t1 a1++(bo t0 a0++((l,.list [.int 0,.int 1,.int 2])::o)))))=inX D b d p B t0 t1 t2 a0 a1 a2 l++o:=by unfold inX;show _=_::((jI b d p B++(bo t2 a2++(bo t1 a1++(bo t0 a0++[(l,.list [.int 0,.int 1,.int 2])]))))++o);rw [List.append_assoc (jI b d p B),List.append_assoc (bo t2 a2),List.append_assoc (bo t1 a1),List.append_assoc (bo t0 a0)];rfl
theorem zLJ {Q:V->jA->jB->Prop}{x0 x1 x2:Int}{p1 p2 p3 p4 p5 p6 p7 p8 p9 p10 p11 p12:Pos}(G:Gr W (Mine.KP.heap_1 w.params) mg mb) (he:EnvAt env names L [("board",c)]) (hb:names.lookup ("board":Str)=some .cell) (E0:Jl w mg mb 3072 B x0) (E1:Jl w mg mb 3073 B x1) (E2:Jl w mg mb 3074 B x2) (h0:x0=0\/x0=1) (h1:x1=0\/x1=1) (h2:x2=0\/x2=1)
  (R:Ar A 7) (hfr:A.frames=some l) (F:Frs l n) (hp:o.Perm (jI b d p B++o2)) (hc:Has c (.cell (some (.ref b))) o2)
  (k:∀ D a0 a1 a2 l,Q (.ref D) (inX D b d p B (x0==1) (x1==1) (x2==1) a0 a1 a2 l++o2) n):Ev W A env (zP9 p1 p2 p3 p4 p5 p6 p7 p8 p9 p10 p11 p12) o n Q:=by
 have rl:y4 sc1.names names=([(".0",.local),("spot",.local),("_law_counter",.globalImplicit),("board",.cell)]:List (Str×NameKind)):=by unfold y4 sc1;rw [List.map_cons,List.map_cons,List.map_cons,List.map_cons,hb];rfl
 refine zHv (hs:=λ_=>rfl) (hkind:=by rfl) (hnames:=by decide) G he rfl (zBv (JV (JV (JV λl=>CompQ.list R.handled .head (Nat.le_of_ble_eq_true rfl) rfl ?_))) rfl (Nat.le_of_ble_eq_true rfl));rw [rl];have m:∀ {X Y:jA},Has l (.list [.int 0,.int 1,.int 2]) Y->Has l (.list [.int 0,.int 1,.int 2]) (X++Y):=λh=>.of_mem (List.mem_append_right _ h.mem);refine zHh (s:=0) (o2:=(l,.list [.int 0,.int 1,.int 2])::o2) rfl rfl rfl E0 h0 R hfr F ((hp.cons _).trans List.perm_middle.symm) (.tail hc) .head λa0=>?_;refine zHh (s:=1) rfl rfl rfl E1 h1 R hfr F (.refl _) (.of_mem (List.mem_append_right _ (.tail _ hc.mem))) (m (m .head)) λa1=>?_;refine zHh (s:=2) rfl rfl rfl E2 h2 R hfr F (.refl _) (.of_mem (List.mem_append_right _ (List.mem_append_right _ (.tail _ hc.mem)))) (m (m (m .head))) λa2=>?_;exact zFK (m (m (m (m .head)))) rfl λD=>zDy▸k D a0 a1 a2 l
end
noncomputable def dv (t:Bool):PyData:=bif t then .list [.int 0] else .int 2
noncomputable def Hs (l o:jA):Prop:=∀ q ∈ l,q ∈ o
section
variable {o l r:jA} {t t0 t1 t2:Bool} {a a0 a1 a2 D:Addr} {q:Addr×Ob}
theorem zHi:Hs l (l++r):=λ_ h=>List.mem_append_left _ h
theorem Z7 (h:Hs l r):Hs l (o++r):=λq hq=>List.mem_append_right _ (h q hq)
theorem Yp (h:Hs l r):Hs l (q::r):=λq hq=>.tail _ (h q hq)
theorem zHj (h:Hs (bo t a) o):Rd o (bv t a) (dv t):=by
 induction t using Bool.casesOn with
 | true=>exact .list (.of_mem (h (a,.list [.int 0]) (.head _))) (.cons (.int 0) .nil)
 | false=>exact .int 2
theorem zHk (h:Has D (.list [bv t0 a0,bv t1 a1,bv t2 a2]) o) (h0:Hs (bo t0 a0) o) (h1:Hs (bo t1 a1) o) (h2:Hs (bo t2 a2) o):Rd o (.ref D) (.list [dv t0,dv t1,dv t2]):=.list h (.cons (zHj h0) (.cons (zHj h1) (.cons (zHj h2) .nil)))
end
section
variable {D b d p a0 a1 a2 l:Addr} {B:Bd} {t0 t1 t2:Bool} {o:jA}
theorem inX_rd:Rd (inX D b d p B t0 t1 t2 a0 a1 a2 l++o) (.ref D) (.list [dv t0,dv t1,dv t2]):=zDy▸zHk .head (Yp (Z7 (Z7 (Z7 zHi)))) (Yp (Z7 (Z7 zHi))) (Yp (Z7 zHi))
theorem Rd.up {o':jA}{x:V}{y:PyData}(h:Rd o x y) (k:Hs o o'):Rd o' x y :=
 Rd.rec (motive_1:=λx d _=>Rd o' x d) (motive_2:=λxs ds _=>RdL o' xs ds) .none .bool .int (λhl _ ih=>.list (.of_mem (k _ hl.mem)) ih) (λhl _ ih=>.tup (.of_mem (k _ hl.mem)) ih) .nil (λ_ _ h k=>.cons h k) h
theorem pm1 {α:Type}{q:α}{X Y R:List α}:(X++(q::(Y++R))).Perm (q::(Y++(X++R))):=List.perm_middle.trans (.cons _ (List.perm_append_comm_assoc ..))
theorem eqv_dv:PyData.eqv (.list [.list [dv t0,dv t1,dv t2],.list [dv t0,dv t1,dv t2]]) (.list [.list [dv t0,dv t1,dv t2],.list [dv t0,dv t1,dv t2]])=true/\(PyData.list [.list [dv t0,dv t1,dv t2],.list [dv t0,dv t1,dv t2]]).canLay0=true/\(PyData.list [.list [dv t0,dv t1,dv t2],.list [dv t0,dv t1,dv t2]]).depth<=8:=by cases t0<;>cases t1<;>cases t2<;>decide +kernel
end
structure zQJ (vs:List Value) (scr wd d b0 b1 a0 a1 a2:Addr) (t0 t1 t2:Bool) (R0:jA):Prop where
 bl:∃ bl kvs,Has wd (.sdict kvs) R0/\GetK ("boards":Str) (V.ref bl) kvs/\Has bl (.list [.ref b0,.ref b1]) R0
 dl:Has d (.list [bv t0 a0,bv t1 a1,bv t2 a2]) R0
 h0:Hs (bo t0 a0) R0
 h1:Hs (bo t1 a1) R0
 h2:Hs (bo t2 a2) R0
 s:Has scr (z5 vs) R0
section
variable {W:Wd} {A:Around} {env:Env} {vs:List Value} {scr wd d b0 d0 p0 b1 d1 p1 a0 a1 a2 L lc:Addr} {B0 B1:Bd} {x0 x1 x2:Int} {o R0:jA} {ll:jX} {Q:V->jA->jB->Prop}
theorem Has.app {a:Addr}{x:Ob}{l r:jA}(h:Has a x r):Has a x (l++r):=.of_mem (List.mem_append_right _ h.mem)
theorem zHl (G:Gr W (Mine.KP.heap_1 w.params) mg mb) (R:Ar A 9) (he:EnvAt env (Qh w mg mb) L [("let",lc)]) (hfr:A.frames=some [env]) (F:∀ nss:jB,L ∈ nss.map Prod.fst->Frs [env] nss)
  (hw:ll.lookup ("world":Str)=some (.ref wd)) (hd:ll.lookup ("due":Str)=some (.ref d)) (hp:o.Perm (jI b0 d0 p0 B0++(jI b1 d1 p1 B1++R0))) (e:zQJ vs scr wd d b0 b1 a0 a1 a2 (x0==1) (x1==1) (x2==1) R0)
  (E0:Jl w mg mb 3072 B0 x0/\Jl w mg mb 3072 B1 x0) (E1:Jl w mg mb 3073 B0 x1/\Jl w mg mb 3073 B1 x1) (E2:Jl w mg mb 3074 B0 x2/\Jl w mg mb 3074 B1 x2) (h0:x0=0\/x0=1) (h1:x1=0\/x1=1) (h2:x2=0\/x2=1) :
  Es W A env [yk w mg mb 7] o [(L,ll)] (zLa L [] λx o=>∃ o',Sel o' o/\(x = .bool true/\o'=[(scr,z5 vs)])):=by
 obtain ⟨q1,q2,q3,q4,q5,q6,q7,q8,q9,q10,q11,q12,q13,q14,q15,q16,q17,q18,q19,q20,q21,q22,eb⟩:=zPa (w:=w) (mg:=mg) (mb:=mb);obtain ⟨⟨bl,kvs,k1,k2,k4⟩,dl,s0,s1,s2,sc⟩:=e;rw [eb];have up:∀ {a x},Has a x R0->Has a x o:=λh=>Has.perm h.app.app hp.symm;refine jx (JW (QF (zHv (hs:=λ_=>rfl) (hkind:=by rfl) (hnames:=by decide) G he (cl:=[]) (by kernel_rfl) (zJd (jr (hd:=by decide) he rfl (GetL.of_look hw) (zDD (zDG (hs:=λ_ _=>rfl) (up k1) k2 (CompQ.listC R.handled (up k4) (Nat.le_of_ble_eq_true rfl) (λc=>?_)))))))));show yx _ _ _ _ _ _ _ _ _ _ _ _ _ _ _;have hb:(y4 sc2.names (Qh w mg mb)).lookup ("board":Str)=some .cell:=by kernel_rfl
 refine ⟨.tail (up k4),λW1 G1 env1 C1 he1=>JC (Zl he1 hb rfl .head (Qr ⟨λ_=>?_,nofun⟩))⟩;refine zLJ (o2:=(c,.cell (some (.ref b0)))::(jI b1 d1 p1 B1++R0)) G1 he1 hb E0.1 E1.1 E2.1 h0 h1 h2 (R.le (by decide)) hfr (F _ (.tail _ (.head _))) ((hp.cons _).trans List.perm_middle.symm) .head λD0 u0 u1 u2 ul=>PopNs.some (Sel.of_perm (l':=[]) (pm1.trans (.of_eq (List.append_nil _).symm))) ?_;refine ⟨.tail k4.app.app,λW1 G1 env1 C1 he1=>JC (Zl he1 hb rfl .head (Qr ⟨λ_=>?_,nofun⟩))⟩;refine zLJ G1 he1 hb E0.2 E1.2 E2.2 h0 h1 h2 (R.le (by decide)) hfr (F _ (.tail _ (.head _))) List.perm_middle.symm .head λD1 v0 v1 v2 vl=>PopNs.all (zFK (Has.app (.tail k4.app)) rfl λD=>?_);refine zBv (jr (hd:=by decide) he rfl (GetL.of_look hd) (jr (hd:=by decide) he rfl (GetL.of_look hd) λe=>?_)) rfl (Nat.le_of_ble_eq_true rfl);have rdd:Rd R0 (.ref d) (.list [dv (x0==1),dv (x1==1),dv (x2==1)]):=zHk dl s0 s1 s2;have r1:=rdd.up (Yp (q:=(e,.list [.ref d,.ref d])) (Yp (q:=(D,.list [.ref D0,.ref D1])) (Z7 (o:=inX D1 b1 d1 p1 B1 (x0==1) (x1==1) (x2==1) v0 v1 v2 vl) (Yp (q:=(c,.cell (some (.ref b1)))) (Z7 (o:=inX D0 b0 d0 p0 B0 (x0==1) (x1==1) (x2==1) u0 u1 u2 ul) (λ_ h=>h))))));refine zFH (hk:=by decide) R (.list (.tail .head) (.cons (inX_rd.up (Yp (Yp (Z7 (Yp λ_ h=>h))))) (.cons (inX_rd.up (Yp (Yp λ_ h=>h))) .nil))) (.list .head (.cons r1 (.cons r1 .nil))) ?_ eqv_dv.2.1 eqv_dv.2.1 eqv_dv.2.2;rw [eqv_dv.1];obtain ⟨N,hN⟩:=(show Has scr (z5 vs) ((e,.list [.ref d,.ref d])::(D,.list [.ref D0,.ref D1])::(inX D1 b1 d1 p1 B1 (x0==1) (x1==1) (x2==1) v0 v1 v2 vl++((c,.cell (some (.ref b1)))::(inX D0 b0 d0 p0 B0 (x0==1) (x1==1) (x2==1) u0 u1 u2 ul++R0)))) from .tail (.tail (Has.app (.tail sc.app)))).take;exact Aft.ret ⟨ll,rfl,_,Sel.of_perm (r:=[(scr,z5 vs)]) hN,rfl,rfl⟩
end
end
section
set_option linter.unusedVariables false
variable {w:World} {mg mb:Str->Option Value}
theorem zA2 (a b:Int):la a b=la b a:=by
 unfold la PySem.Builtin.bitAnd;by_cases h1:0<=a<;>by_cases h2:0<=b<;>simp only [h1,h2,decide_true,decide_false]
 ·rw [Nat.and_comm]
 ·rw [Nat.or_comm]
theorem zDA (a:Int):la a 1=0\/la a 1=1:=by have:=zFW a;omega
theorem zDB {r:List Addr}{b:Bool}{a:Addr}:jC r (bo b a)=bo b (jL r a):=by cases b<;>rfl
theorem zDC {r:List Addr}{b:Bool}{a:Addr}:V.ren r (bv b a)=bv b (jL r a):=by cases b<;>rfl
noncomputable def wa (f:Nat->Addr) (v:Wv):jA:=(wF f v).take 9
noncomputable def wz (f:Nat->Addr) (v:Wv):jA:=(wF f v).drop 15
theorem zHm {f:Nat->Addr}{v:Wv}:wF f v=wa f v++(jI (f 16) (f 17) (f 18) v.B0++(jI (f 19) (f 20) (f 21) v.B1++wz f v)):=rfl
theorem pm2 {α:Type}{H a b0 b1 z Z p:List α}:((H++((a++(b0++(b1++z)))++Z))++p).Perm (b0++(b1++(H++(a++(z++(Z++p)))))):=by have m:∀ {b X:List α},(H++(a++(b++X))).Perm (b++(H++(a++X))):=((List.perm_append_comm_assoc ..).append_left H).trans (List.perm_append_comm_assoc ..);rw [List.append_assoc,List.append_assoc a,List.append_assoc a,List.append_assoc b0,List.append_assoc b1,List.append_assoc b0,List.append_assoc b1,List.append_assoc z];exact m.trans (m.append_left b0)
section
variable {W:Wd} {A:Around} {env:Env} {vs:List Value} {is:List Int} {scr lc bx sm L wd:Addr} {side xa xb:Int} {k:Nat} {o:jA} {n:jB} {r u:List Addr} {L0 L1:Lv} {c0 c1:Cm} {M0 M1:List V} {b0 b1 b2:Bool}
theorem zN5 (hr:r.length=22):∃ D a0 a1 a2 Z,jC (r++[L,lc]++u) (cdE side xa xb L0 L1 c0 c1 M0 M1 b0 b1 b2).o=((D,.list [bv b0 a0,bv b1 a1,bv b2 a2])::(bo b2 a2++(bo b1 a1++bo b0 a0)))++(wF (jJ r) (zb side xa xb L0 L1 c0 c1 M0 M1)++Z) /\
  jK (r++[L,lc]++u) (cdE side xa xb L0 L1 c0 c1 M0 M1 b0 b1 b2).ns=[(L,([("world",.ref (jJ r 0)),("due",.ref D)]:jX))]:=by
 have hr2:(r++[L,lc]).length=24:=by rw [List.length_append,hr];rfl
 have e1:jL (r++[L,lc]++u) (nm 22)=L:=(jn hr2 (by decide)).trans (Jk hr);have e2:jL (r++[L,lc]++u) (nm 0)=jJ r 0:=(jn hr2 (by decide)).trans (zBh hr);have e3:jC (r++[L,lc]++u) (wL side xa xb L0 L1 c0 c1 M0 M1)=wF (jJ r) (zb side xa xb L0 L1 c0 c1 M0 M1):=by rw [List.append_assoc,yg,YS hr]
 generalize r++[L,lc]++u=R at e1 e2 e3;refine ⟨jL R (nm (28 + bN b0 + bN b1 + bN b2)),jL R (nm 26),jL R (nm (27 + bN b0)),jL R (nm (28 + bN b0 + bN b1)),jC R [(100046,.cell (some (.int (la L0.v1 L1.v1)))),(nm 24,.list [.int 0,.int 1,.int 2])],?_,?_⟩
 ·show (_,Ob.list [V.ren R (bv b0 _),V.ren R (bv b1 _),V.ren R (bv b2 _)])::jC R (_++(_++(_++(_++_))))=_::((bo b2 _++(bo b1 _++bo b0 _))++_);rw [zDC,zDC,zDC,ji,ji,ji,ji,zDB,zDB,zDB,e3,List.append_assoc (bo b2 _),List.append_assoc (bo b1 _)]
 ·show [(jL R (nm 22),[(("world":Str),V.ref (jL R (nm 0))),("due",V.ref (jL R _))])]=_;rw [e1,e2]
theorem zJ6 (hr:r.length=24):SS.ok r (zHg side xa xb L0 L1 c0 c1 M0 M1) :=
 ⟨hr,JR (Q9 (n:=24) (by decide)) (jO ⟨wfB_h (n:=24) (a:=100046) (by kernel_rfl),λ_ h=>nomatch h⟩ jj),jO ⟨wfB_h (n:=24) (a:=100044) (by kernel_rfl),jO (wfB_h (n:=24) (a:=100000) (by kernel_rfl)) jj⟩ jj⟩
theorem zJ7 (G:Gr W (Mine.KP.heap_1 w.params) mg mb) (R:Ar A 9) (he:EnvAt env (Qh w mg mb) L [("let",lc)]) (hfr:A.frames=some [env]) (F:∀ nss:jB,L ∈ nss.map Prod.fst->Frs [env] nss) (hI:QE vs scr lc L wd side k 2 o n) :
  Es W A env [yk w mg mb 5,yk w mg mb 6,yk w mg mb 7] o n (zLa L [] λx o=>∃ o',Sel o' o/\(x = .bool true/\o'=[(scr,z5 vs)])):=by
 obtain ⟨r,xa,xb,L0,L1,c0,c1,M0,M1,N,ll,hr,rfl,hW,hs,rfl,h3⟩:=hI;refine Es.drop ((Sel.of_perm (r:=(wF (jJ r) (zb side xa xb L0 L1 c0 c1 M0 M1)++[(lc,.cell none)])++(N++[(scr,z5 vs)])) (l':=[]) ?_).trans hs) (Es.locs (JH h3) ?_)
 ·rw [List.append_nil,List.append_assoc];exact List.Perm.append_left _ (List.perm_middle (l₁:=N) (l₂:=[(scr,z5 vs)]))
 have hr2:(r++[L,lc]).length=24:=by rw [List.length_append,hr];rfl
 have a:=zDw (w:=w) (mg:=mg) (mb:=mb) (names:=Qh w mg mb) G R he hr (zJ6 (side:=side) (xa:=xa) (xb:=xb) (L0:=L0) (L1:=L1) (c0:=c0) (c1:=c1) (M0:=M0) (M1:=M1) hr2) rfl;have e0:wF (jJ r) (zb side xa xb L0 L1 c0 c1 M0 M1)++[(lc,.cell none)]=jC (r++[L,lc]) (zHg side xa xb L0 L1 c0 c1 M0 M1).o:=by show _=jC _ (wL side xa xb L0 L1 c0 c1 M0 M1++[(nm 23,Ob.cell none)]);rw [ji,yg,YS hr];show _=_++[(jL (r++[L,lc]) (nm 23),_)];rw [z9,ZI hr];rfl
 have e1:[(L,[(("world":Str),V.ref (jJ r 0))])]=jK (r++[L,lc]) (zHg side xa xb L0 L1 c0 c1 M0 M1).ns:=by show _=[(jL (r++[L,lc]) (nm 22),[(("world":Str),V.ref (jL (r++[L,lc]) (nm 0)))])];rw [z9,z9,Jk hr,zBh hr]
 rw [e0,e1];have h:((go 60 (EL w mg mb)).s (frW (Qh w mg mb)) (yk w mg mb 5) (zHg side xa xb L0 L1 c0 c1 M0 M1) λf s=>gd f.nextB ((go 60 (EL w mg mb)).s (frW (Qh w mg mb)) (yk w mg mb 6) s λf s=>gd f.nextB (.prop (s=cdE side xa xb L0 L1 c0 c1 M0 M1 (zA1 (la L0.v1 L1.v1) 1) (zA1 (la L0.v1 L1.v1) 2) (zA1 (la L0.v1 L1.v1) 4))))).holds:=by rw [zJ5];exact zP8
 refine jx (Ex.frames G λW1 G1=>Ex.lift ((zN 60 _).s h W1 A env _ (a.world G1)) λt f s1 ok1 wf h=>j1 h λhf h=>?_);rw [yW hf];have a1:=a.next ok1;refine Aft.next (jx (Ex.frames G λW2 G2=>Ex.lift ((zN 60 _).s h W2 A env _ (a1.world G2)) λt2 f2 s2 ok2 wf2 h=>j1 h λhf2 h=>?_));rw [yW hf2];subst h;rw [List.append_assoc];obtain ⟨D,a0,a1,a2,Z,e2,e3⟩:=zN5 (lc:=lc) (L:=L) (u:=t++t2) (side:=side) (xa:=xa) (xb:=xb) (L0:=L0) (L1:=L1) (c0:=c0) (c1:=c1) (M0:=M0) (M1:=M1) (b0:=zA1 (la L0.v1 L1.v1) 1) (b1:=zA1 (la L0.v1 L1.v1) 2) (b2:=zA1 (la L0.v1 L1.v1) 4) hr;rw [e2,e3,zHm];refine Aft.next (zHl (a0:=a0) (a1:=a1) (a2:=a2) (x0:=la (la L0.v1 L1.v1 / 1) 1) (x1:=la (la L0.v1 L1.v1 / 2) 1) (x2:=la (la L0.v1 L1.v1 / 4) 1) (wd:=jJ r 0) (d:=D) (scr:=scr) (vs:=vs) G R he hfr F (by kernel_rfl) (by kernel_rfl) pm2 ⟨?_,.head,?_,?_,?_,?_⟩ ⟨?_,zLF⟩ ⟨?_,zLG⟩ ⟨?_,zLH⟩ (zDA _) (zDA _) (zDA _))
 ·exact ⟨jJ r 12,_,Has.app .head,.tail (by decide) (.tail (by decide) (.tail (by decide) (.tail (by decide) .head))),Has.app (.tail (.tail (.tail (.tail (.tail (.tail (.tail (.tail .head))))))))⟩
 ·exact Yp λq hq=>List.mem_append_left _ (Z7 (Z7 λ_ h=>h) q hq)
 ·exact Yp λq hq=>List.mem_append_left _ (Z7 zHi q hq)
 ·exact Yp λq hq=>List.mem_append_left _ (zHi q hq)
 ·exact Has.app (Has.app (Has.app (Has.app (Has.app .head))))
 ·rw [zA2 L0.v1];exact zLF
 ·rw [zA2 L0.v1];exact zLG
 ·rw [zA2 L0.v1];exact zLH
end
theorem zPb {x:Str}{Q:List (Str×Addr)->jA->Prop}:∀ {names:List (Str×NameKind)}{cs:List (Str×Addr)}{o:jA},names.filter (λp=>p.2==.cell)=[(x,.cell)]->(∀ a,Q ((x,a)::cs) ((a,.cell none)::o))->LayQ names cs o Q
 | [],_,_,h,_=>nomatch h
 | (n,k)::r,cs,o,h,q=>by
  unfold LayQ;induction e:k==.cell using Bool.casesOn with
  | true =>
   rw [List.filter_cons_of_pos (by rw [e])] at h;injection h with h1 h2
   cases h1
   rw [if_pos rfl];refine λa=>zCz (q a) (List.all_eq_true.mpr λp hp=>?_);induction e2:p.2==.cell using Bool.casesOn with
   | true=>exact absurd (h2▸List.mem_filter.mpr ⟨hp,e2⟩) List.not_mem_nil
   | false=>rfl
  | false =>rw [List.filter_cons_of_neg (by rw [e];decide)] at h;rw [if_neg (by decide)];exact zPb h q
theorem zPc {W:Wd}{A:Around}{scr:Addr}{vs:List Value}{is:List Int}(G:Gr W (Mine.KP.heap_1 w.params) mg mb) (R₀:Ar A 10) (hfr:A.frames=some []) (hv:All2 (is.map V.int) vs) (hlen:is.length<=63) :
  Cc W A (.ref 570) [.ref scr] [(scr,z5 vs)] [] (zLb [] λy o=>y = .bool true/\o=[(scr,z5 vs)]):=by
 refine zFT ((VV w mg mb).2.2 _ _ rfl) G R₀ λL=>zPb (x:="let") (by kernel_rfl) λlc env A' I=>?_;refine zh (x:="script") I.he (by exact rfl) .nil ?_;have he:EnvAt env (Qh w mg mb) L [("let",lc)]:=I.he;have F:∀ nss:jB,L ∈ nss.map Prod.fst->Frs [env] nss:=λnss h e he'=>by obtain rfl:=List.mem_singleton.mp he';exact ⟨by rw [he.kind];decide,L,I.hf,h⟩
 show Es W A' env (VV w mg mb).1.body _ _ _;rw [zHd];refine zLI zN0 G I.R he (by kernel_rfl) (zPK hv hlen) (by decide) (o2:=[(lc,.cell none)]) (.swap ..) ?_;rintro _ _ ⟨bx,sm,X,rfl,hX,rfl⟩;refine ⟨_,.tail (by decide) .nil,?_⟩;refine zLI zN1 G I.R he (by kernel_rfl) (zJO hX (by decide) bx sm) (by decide) (o2:=[(scr,z5 vs),(lc,.cell none)]) (.of_eq (List.append_assoc ..)) ?_;rintro _ _ ⟨r,side,bg,L0,L1,c0,c1,X1,hr,rfl,hW,hX1,rfl⟩;refine ⟨_,.tail (by decide) (.tail (by decide) .nil),?_⟩;have es:wF (jJ r) (zb side bg bg L0 L1 c0 c1 [] [])=jC r (stO side L0 L1 c0 c1)++(wF (jJ r) (zb side bg bg L0 L1 c0 c1 [] [])).drop 18:=zAR (l:=r) (r:=[]) (side:=side) (xa:=bg) (xb:=bg) (L0:=L0) (L1:=L1) (c0:=c0) (c1:=c1) (C0:=[]) (C1:=[]);have ea:([.ref 100000]:List V).map (V.ren r)=[.ref (jJ r 0)]:=congrArg (λx=>[V.ref x]) (z9 (k:=0));have cs:=zB9 (w:=w) (mg:=mg) (mb:=mb) side L0 L1 c0 c1 (JT hW.o0 hW.o1 hW.r0) (JU hW.o0 hW.o1 hW.r1) r hr;rw [ea] at cs;have pp:(wF (jJ r) (zb side bg bg L0 L1 c0 c1 [] [])++jc bx sm X1++[(scr,z5 vs),(lc,.cell none)])=jC r (stO side L0 L1 c0 c1)++((wF (jJ r) (zb side bg bg L0 L1 c0 c1 [] [])).drop 18++(jc bx sm X1++[(scr,z5 vs),(lc,.cell none)])):=by rw [<- List.append_assoc,<- es,List.append_assoc]
 refine jx (zBn (zJ3 G I.R he) law_s2.h1 law_s2.h2 (jz he law_s2.h3 (.cons (v:=.ref (jJ r 0)) (by kernel_rfl) .nil) (Cl.use cs G I.R (by decide) (.of_eq pp) ?_)));rintro _ _ ⟨rfl,rfl⟩;refine ⟨rfl,Aft.next ?_⟩;rw [<- pp];refine zP7 (bx:=bx) (sm:=sm) (wd:=jJ r 0) (side:=side) G I.R he hv hlen (.mk r bg bg L0 L1 c0 c1 [] [] X1 [] _ hr rfl hW (hX1.up (by decide)) (Sel.of_perm (l':=[]) ?_) rfl (by kernel_rfl) (by kernel_rfl) (by kernel_rfl)) λk o n hk hI=>zP6 G I.R he hk hI λo n hJ=>zJ7 G I.R he (by rw [I.fr,hfr];rfl) F hJ
 ·rw [List.append_nil];exact (List.perm_append_comm.append_right _).trans ((List.Perm.swap ..).append_left (jc bx sm X1++wF (jJ r) (zb side bg bg L0 L1 c0 c1 [] []))|>.trans (.of_eq (List.append_assoc ..)))
end
section
set_option linter.unusedVariables false
variable {w:World} {mg mb:Str->Option Value}
theorem zPd {h:Heap}{a l:Addr}{m:Str->Option Value}{vs:Array Value}(N:h.Ns a m) (hl:h.get? l=some { cls:=.type "list",data:=.seq vs }):a≠l:=λq=>by subst q;obtain ⟨o,es,ep,e,hd,_⟩:=N;rw [hl] at e;obtain rfl:=Option.some.inj e;contradiction
theorem Zk {h:Heap}{a l:Addr}{m:Str->Option Value}{vs:Array Value}(N:h.Ns a m) (hl:h.get? l=some { cls:=.type "list",data:=.seq vs }):(hideAll h [l]).Ns a m :=
 N.at' λo e=>hideAll_get _ e λq=>zPd N hl (List.mem_singleton.mp q)
theorem zEo {vs:List Value}{is:List Int}(h:IntsAre vs is):All2 (is.map V.int) vs:=by
 induction h with
 | nil=>exact .nil
 | cons n t _ ih=>exact .cons ⟨t,rfl⟩ ih
noncomputable def zDz (K:Frag):Bool:=K.all λp=>match p.2.cls with | .type n=>!(n=="list") | _=>true
theorem zHn {K:Frag}{h:Heap}{l:Addr}{vs:Array Value}(X:K.In h) (hK:zDz K=true) (hl:h.get? l=some { cls:=.type "list",data:=.seq vs }):K.In (hideAll h [l]):=λa o e =>
 hideAll_get _ (X a o e) λhm=>by obtain rfl:=List.mem_singleton.mp hm;have h1:=X _ _ e;rw [hl] at h1;obtain rfl:=Option.some.inj h1;cases List.all_eq_true.mp hK _ (lookA e)
theorem noL (P:Params):zDz (Mine.KP.heap_1 P)=true:=by kernel_rfl
theorem zEp:Ar callerA 10:=⟨rfl,by decide +kernel,by decide +kernel⟩
inductive zPe (s₁:Shared):Result->Shared->Prop
 | mk (h':Heap) (tk':Nat) (k:∀ b ob,s₁.heap.get? b=some ob->h'.get? b=some ob):zPe s₁ (.ok (.ret (.bool true))) (St s₁ h' tk')
theorem law_row {w:World}{mg mb:Str->Option Value}{p:Program}{s₁:Shared}{l:Addr}{vs:List Value}{is:List Int}(KX:(Mine.KP.heap_1 w.params).In s₁.heap) (Tg:s₁.heap.Ns mainGlobals mg) (Tb:s₁.heap.Ns builtinsNs mb) (Tn:s₁.heap.NoLimit) (Ti:∀ x:Str,x≠"__name__"->mb x=bootBuiltins x)
  (hl:s₁.heap.get? l=some { cls:=.type "list",data:=.seq vs.toArray }) (hI:IntsAre vs is) (hlen:is.length<=63):codeAny (model p w) callerA (.call (.ref 570) ⟨[.ref l],[]⟩) (zPe s₁) s₁:=by
 have Gr0:Gr ⟨p,w,hideAll s₁.heap [l],s₁⟩ (Mine.KP.heap_1 w.params) mg mb:={
  kin:=zHn KX (noL _) hl
  g:=Zk Tg hl
  b:=Zk Tb hl
  nolimit:=by obtain ⟨mc,N,e⟩:=Tn;exact ⟨mc,Zk N hl,e⟩
  bi:=Ti
  low:=by obtain ⟨o,es,ep,e,r⟩:=Zk Tg hl;exact ⟨_,o,by decide,e⟩ }
 have C0:Cx ⟨p,w,hideAll s₁.heap [l],s₁⟩ s₁.heap [(l,z5 vs)] []:={
  keep:=λb o e=>of_hideAll _ e
  obj:=jO ⟨⟨_,hl,rfl⟩,hideAll_none _ (List.mem_singleton.mpr rfl)⟩ jj
  ns:=nofun
  nd:=List.pairwise_singleton _ _ }
 refine codeAny_mono (zPc Gr0 zEp rfl (zEo hI) hlen [.ref l] (.cons rfl .nil) s₁.heap s₁.toks C0) λr s' q=>?_;obtain ⟨v,h',tk',o',n',C',x,hx,o'',hn,hsel,rfl,rfl⟩:=q;subst hx;refine ⟨h',tk',λb ob e=>?_⟩;by_cases q:b=l
 ·subst q;obtain ⟨⟨ob',e',eo⟩,_⟩:=(C'.sel hsel).obj _ (List.mem_singleton.mpr rfl);rw [hl] at e;obtain rfl:=Option.some.inj e;rw [e'];exact congrArg some eo
 ·exact C'.keep b ob (hideAll_get _ e λh=>q (List.mem_singleton.mp h))
end
end Mine
namespace Mh
noncomputable abbrev hp:Program:=PySem.Challenge.pw_tn0029_01
noncomputable def fE:Obj:={ cls:=.none,data:=.fields #[] }
noncomputable def tE:Obj:={ cls:=.type "tuple",data:=.seq #[] }
noncomputable def fO (l:List Value):Obj:={ cls:=.none,data:=.fields l.toArray }
noncomputable def iV (n:Nat):Value:=.int n 0
noncomputable def sV (s:Str) (t:Nat):Value:=.str s t
noncomputable def cO (s:Str) (t l a b:Nat):Obj:={ cls:=.type "code",data:=.fields #[sV s t,sV s (t + 1),sV "/claim/cut.py" (t + 2),iV l,iV 0,iV 0,iV 0,iV 0,.ref a,.bool false,iV 181,.ref b,.none,.none,.none,.none,iV (t + 3),iV l,sV "/claim/cut.py" (t + 4)] }
noncomputable def rO (c n:Nat) (m:Str) (t:Nat):Obj:={ cls:=.type "frame",slots:=#[some (.ref c),some (.ref 3),some (.ref n),none,some (sV m t),none,some (.ref 0)] }
noncomputable def bO (s:String) (v:Value):Obj:={ cls:=.type "builtin_function_or_method",data:=.fields #[.builtin s,v] }
noncomputable def pO:Obj:=bO "type.__prepare__" (.type "type")
noncomputable def uO (a:Nat):List Obj:=[{ cls:=.type "super",data:=.fields #[.ref a,.ref a,.ref a] },bO "object.__init_subclass__" (.ref a)]
noncomputable def lO (c:Nat) (l:List (Nat×Nat)):Obj:=fO (l.flatMap λp=>[iV p.1,iV c,.ref p.2])
noncomputable def dEs (o:Obj):List DictEntry:=match o.data with | .dict a _=>a.toList | _=>[]
noncomputable def dO (l:List DictEntry) (n:Nat):Obj:={ cls:=.type "dict",data:=.dict l.toArray n }
noncomputable def kO (P:Params) (E:List DictEntry) (q:Str) (t n:Nat):Obj:=dO (E.take 1++⟨PyData.keyHash P "__qualname__",sV "__qualname__" (t + 1),sV q t⟩::(E.drop 1).take (n - 2)) n
noncomputable def gO (o:Obj):List Obj:=match o.data with | .func f=>[fE,{ cls:=.none,data:=.func { f with globals:=0,closure:=[],defaults:=.none,kwdefaults:=.none,pyModule:=.none,code:=.none } }] | _=>[]
noncomputable def xE (P:Params) (e:DictEntry):DictEntry:=match e.val with | .str s _=>⟨PyData.keyHash P s,e.val,e.key⟩ | _=>e
noncomputable def zO:Nat->List DictEntry->List Obj
 | _,[]=>[]
 | a,e::l=>{ cls:=.type "tuple",data:=.seq #[e.key,e.val] }::{ cls:=.type "tuple_iterator",data:=.fields #[.none,iV 2] }::tE::{ cls:=.type "StopIteration",data:=.fields #[.ref (a + 2),.none,.none,.none,.bool false,.none] }::zO (a + 4) l
noncomputable def isF (o:Obj):Bool:=match o.cls with | .type s=>s=="function" | _=>false
noncomputable def at0 (K:List (Nat×Obj)) (a:Nat):Obj:=(K.lookup a).getD fE
noncomputable def mg:Nat->Nat->List (Nat×Obj)->List Obj->List Obj
 | 0,_,_,_=>[]
 | n + 1,i,K,A=>match K with
  | []=>[]
  | (a,o)::K'=>match Nat.beq a i with
   | true=>o::mg n (i + 1) K' A
   | false=>match A with
    | []=>[]
    | x::A'=>x::mg n (i + 1) ((a,o)::K') A'
noncomputable def c36:List (Nat×Nat):=[(1,20),(5,27),(10,48)]
noncomputable def c71:List (Nat×Nat):=[(65,222),(67,229),(69,236),(71,243),(76,250),(253,407),(262,414),(270,421),(272,426),(274,433),(276,440),(279,447),(281,454),(283,459),(287,464),(289,471),(294,478),(303,485),(305,492),(312,497),(322,502),(335,507),(339,512),(347,519),(355,524),(363,531),(370,538),(385,543),(395,550),(404,557),(409,564),(421,569)]
noncomputable def b11 (P:Params):List Obj:=[boot_o_0 P,boot_o_1 P,boot_o_4 P,boot_o_5 P,boot_o_6 P,boot_o_7 P,boot_o_8 P,boot_o_9 P,boot_o_10 P]
noncomputable def aux (P:Params) (K:List (Nat×Obj)):List Obj :=
 let g:=λ(l:List Nat)=>l.flatMap λa=>gO (at0 K a)
 let E:=(dEs (at0 K 69)).map (xE P)
 b11 P++[tE,lO 0 (c36++c71),cO "<module>" 182 1 11 12,rO 13 3 "__main__" 164]++g [21] ++
 [pO,kO P (dEs (at0 K 38)) "BoardError" 204 5,tE,lO 4 [(7,35)],cO "BoardError" 198 5 25 26,rO 27 24 "pipeboard.errors" 194]++g [36]++uO 39 ++
 [pO,kO P (dEs (at0 K 59)) "Trap" 232 19,tE,lO 4 [(26,56)],cO "Trap" 226 10 46 47,rO 48 45 "pipeboard.errors" 194]++g [57]++uO 60 ++
 [dO E 36,dO ((E.drop 17).take 17) 17,dO (E.drop 34) 2,{ cls:=.type "dict_items",data:=.fields #[.ref 63] },
  { cls:=.type "dict_itemiterator",data:=.fields #[.none,.bool false,.none,iV 36,iV 36,iV 36,sV "mhartid" 384,.int 3860 385] },dO [] 4]++zO 71 E ++
 [tE,{ cls:=.type "StopIteration",data:=.fields #[.ref 215,.none,.none,.none,.bool false,.none] }]++g [223,230,237,244] ++
 [tE,pO,kO P (dEs (at0 K 396)) "Csrs" 669 24,tE,lO 4 [(78,258),(91,265),(94,272),(102,280),(118,287),(129,294),(135,302),(156,309),(163,316),(175,323),(186,330),(192,337),(207,344),(213,351),(224,358),(230,365),(238,372),(244,379),(247,386),(250,393)],cO "Csrs" 663 76 248 249,rO 250 247 "pipeboard.csrs" 391]++g [259,266,273,281,288,295,303,310,317,324,331,338,345,352,359,366,373,380,387,394]++uO 397++g [408,415,422,427,434,441,448,455,460,465,472,479,486,493,498,503,508,513,520,525,532,539,544,551,558,565,570]
noncomputable def F71 (P:Params):List Obj:=mg 571 0 (Mine.KP.heap_1 P) (aux P (Mine.KP.heap_1 P))
noncomputable def FS (n m:Nat) (x:Str) (t c:Nat) (P:Params):List Obj:=(((F71 P).take n).set 3 (match (dEs (at0 (Mine.KP.heap_1 P) 3)).take m with | e::l=>dO ({ e with val:=sV x t }::l) m | _=>fE)).set 12 (lO 0 (c36++c71.take c))
noncomputable def Fa (P:Params):List Obj:=[boot_o_0 P,boot_o_1 P,boot_o_2 P,boot_o_3 P,boot_o_4 P,boot_o_5 P,boot_o_6 P,boot_o_7 P,boot_o_8 P,boot_o_9 P,boot_o_10 P,tE,fE,cO "<module>" 182 1 11 12,rO 13 3 "__main__" 164]
noncomputable def ev:Bool->List Obj->List Obj
 | _,[]=>[]
 | true,a::l=>a::ev false l
 | false,_::l=>ev true l
noncomputable def tr:Nat->List Obj->BT
 | 0,_=>.nil
 | _ + 1,[]=>.nil
 | n + 1,a::l=>.node a (tr n (ev true l)) (tr n (ev false l))
noncomputable def sT (l:List Obj) (n k:Nat) (os:OsState):SharedT:=⟨tr 10 l,n,{},#[],{},k,os⟩
noncomputable def hv:Env:={ scope:=hp.main.scope,locals:=mainNs,globals:=mainNs,cells:=[],code:=.ref 13,frame:=some 14 }
noncomputable def hb:List Stmt:=hp.main.body
noncomputable def hc:Code:=.body hb hv
noncomputable abbrev q0:Pos:=⟨0,0,0,0⟩
noncomputable def F4:=FS 63 12 "pipeboard.errors" 194 0
noncomputable def F5:=FS 66 13 "pipeboard.errors" 194 0
noncomputable def F36:=FS 67 43 "pipeboard.csrs" 391 0
noncomputable def F37:=FS 217 44 "pipeboard.csrs" 391 0
noncomputable def F44:=FS 402 51 "pipeboard.csrs" 391 5
noncomputable def rn (n:Nat) (l:List Stmt) (q:Pos) (F:Params->List Obj) (a k:Nat) (q':Pos) (F':Params->List Obj) (a' k':Nat) (w:World):Prop:=∀ os,PySem.W.Fast.tw10110043849684766642 PySem.W.Fast.tw14364793385576792824 hp w 11 (some (.ref 6)) 1 n (sT (F w.params) a k os) (piecesOf l hv hc q [topFrame q0])=some (.next,sT (F' w.params) a' k' os,hc,q')
noncomputable def r1:=rn 700 (hb.take 4) q0 Fa 15 187 ⟨10,0,29,26⟩ F4 63 280
noncomputable def r2:=rn 700 ((hb.drop 4).take 1) ⟨10,0,29,26⟩ F4 63 280 ⟨30,0,30,4⟩ F5 66 389
noncomputable def r3:=rn 900 ((hb.drop 5).take 31) ⟨30,0,30,4⟩ F5 66 389 ⟨61,0,61,9⟩ F36 67 500
noncomputable def nE (P:Params):List DictEntry:=dEs (at0 (Mine.KP.heap_1 P) 69)
noncomputable def sC (i:Nat) (P:Params):List Obj:=match (nE P).drop (i - 1) with
 | e::_=>(((FS (71 + 4 * i) 43 "pipeboard.csrs" 391 0 P).set 68 ({ cls:=.type "dict_itemiterator",data:=.fields #[.none,.bool false,.ref 63,iV i,iV 36,iV 36,e.val,e.key] })).set 69 (dO ((nE P).take i) i)).set 70 (dO [⟨PyData.keyHash P "name",sV "name" 500,e.val⟩,⟨PyData.keyHash P "number",sV "number" 501,e.key⟩] 2)
 | []=>[]
noncomputable def t4:Thread:=piecesOf ((hb.drop 36).take 1) hv hc ⟨61,0,61,9⟩ [topFrame q0]
noncomputable def tg (n:Nat) (w:World) (s:SharedT) (t:Thread):Option (SharedT×Thread):=PySem.W.Fast.tw10295753902157049106 PySem.W.Fast.tw14364793385576792824 hp w 11 (some (.ref 6)) 1 n s t
noncomputable def tL (n:Nat) (w:World) (os:OsState):Thread:=match tg n w (sT (F36 w.params) 67 500 os) t4 with
 | some (_,t)=>t
 | none=>t4
noncomputable def sI (i:Nat) (w:World) (os:OsState):SharedT:=sT (sC i w.params) (71 + 4 * i) (500 + 3 * i) os
noncomputable def A4 (n:Nat) (w:World):Prop:=∀ os,tg n w (sT (F36 w.params) 67 500 os) t4=some (sI 1 w os,tL n w os)
noncomputable def B4 (n i j:Nat) (w:World):Prop:=∀ os,tg (110 * (j - i)) w (sI i w os) (tL n w os)=some (sI j w os,tL n w os)
noncomputable def C4 (n m i:Nat) (w:World):Prop:=∀ os,PySem.W.Fast.tw10110043849684766642 PySem.W.Fast.tw14364793385576792824 hp w 11 (some (.ref 6)) 1 m (sI i w os) (tL n w os)=some (.next,sT (F37 w.params) 217 609 os,hc,⟨62,0,62,5⟩)
noncomputable def r4 (w:World):Prop:=∀ os,segRun treeTable hp w 11 (some (.ref 6)) 1 5000 (sT (F36 w.params) 67 500 os).abs t4=some (.next,(sT (F37 w.params) 217 609 os).abs,hc,⟨62,0,62,5⟩)
noncomputable def r5:=rn 1500 ((hb.drop 37).take 7) ⟨62,0,62,5⟩ F37 217 609 ⟨76,0,251,51⟩ F44 402 879
noncomputable def r6:=rn 1500 (hb.drop 44) ⟨76,0,251,51⟩ F44 402 879 ⟨421,0,436,112⟩ F71 571 1121
theorem sQ {w:World}{n:Nat}{s:SharedT}{t:Thread}{r:Option (Flow×SharedT×Code×Pos)}(h:PySem.W.Fast.tw10110043849684766642 PySem.W.Fast.tw14364793385576792824 hp w 11 (some (.ref 6)) 1 n s t=r):segRunT treeTable hp w 11 (some (.ref 6)) 1 n s t=r:=by rewrite [PySem.W.Fast.te10110043849684766642,PySem.W.Fast.te14364793385576792824];exact h
theorem zN6 (w:World):(fencedOpening treeTable hp w 20000).map (λs=>(s.heap,s.gens,s.drawn,s.toks))=some (boot_heap w.params,Array.mk [],boot_drawn,boot_toks):=by unfold fencedOpening;rewrite [PySem.W.Fast.te10274390034422433532,PySem.W.Fast.te14289696077712309145,PySem.W.Fast.te14364793385576792824];kernel_rfl
theorem zN7 (w:World):((boot_heap w.params).isNs mainGlobals&&(Array.mk []:Array GenState).size==0,(boot_heap w.params).objs.size,(boot_heap w.params).nsMap mainGlobals "__annotations__")=(true,11,some (.ref 6)):=by kernel_rfl
theorem zPf (w:World) (os:OsState):topGo treeTable hp w 11 (some (.ref 6)) 12 ⟨boot_heap w.params,Array.mk [],boot_drawn,boot_toks,os⟩ (topStub hp)=some ((sT (Fa w.params) 15 187 os).abs,⟨denote treeTable hc,hc,q0,[topFrame q0]⟩):=by rewrite [PySem.W.Fast.te15667345088766844465,PySem.W.Fast.te14364793385576792824,PySem.W.Fast.te11892475500146522536];kernel_rfl
theorem zJ8 (w:World) (os:OsState):segRun treeTable hp w 11 (some (.ref 6)) 1 1 (sT (Fa w.params) 15 187 os).abs (blockOf hb hv hc q0 [topFrame q0])=some (.next,(sT (Fa w.params) 15 187 os).abs,hc,q0):=by rewrite [PySem.W.Fast.te14374325043358763698,PySem.W.Fast.te14364793385576792824];kernel_rfl
theorem h1 (w:World):r1 w:=λos=>by kernel_rfl
theorem h2a (w:World):r2 (w.withFollow "special-get-raises" false):=λos=>by kernel_rfl
theorem h2b (w:World):r2 (w.withFollow "special-get-raises" true):=λos=>by kernel_rfl
theorem h2 (w:World):r2 w:=byRow2 "special-get-raises" (P:=r2) h2a h2b w
theorem h3 (w:World):r3 w:=λos=>by kernel_rfl
theorem gQ {w:World}{n:Nat}{s:SharedT}{t:Thread}{r:Option (SharedT×Thread)}(h:tg n w s t=r):segGoT treeTable hp w 11 (some (.ref 6)) 1 n s t=r:=by rewrite [PySem.W.Fast.te10295753902157049106,PySem.W.Fast.te14364793385576792824];exact h
theorem g4 {n m:Nat}{w:World}(e:n + (110 * 12 + (110 * 12 + m))=5000) (h1:A4 n w) (h2:B4 n 1 13 w) (h3:B4 n 13 25 w) (h4:C4 n m 25 w):r4 w:=λos=>by rewrite [<- e];exact seg_go (segGo_of (gQ (h1 os))) (seg_go (segGo_of (gQ (h2 os))) (seg_go (segGo_of (gQ (h3 os))) (segRun_of (sQ (h4 os)))))
theorem zQK (w:World):A4 154 ((w.withFollow "special-get-raises" false).withFollow "comprehension-iter-twice" false):=λos=>by kernel_rfl
theorem zQL (w:World):B4 154 1 13 ((w.withFollow "special-get-raises" false).withFollow "comprehension-iter-twice" false):=λos=>by kernel_rfl
theorem zQM (w:World):B4 154 13 25 ((w.withFollow "special-get-raises" false).withFollow "comprehension-iter-twice" false):=λos=>by kernel_rfl
theorem zQN (w:World):C4 154 2206 25 ((w.withFollow "special-get-raises" false).withFollow "comprehension-iter-twice" false):=λos=>by kernel_rfl
theorem h4a (w:World):r4 ((w.withFollow "special-get-raises" false).withFollow "comprehension-iter-twice" false):=g4 rfl (zQK w) (zQL w) (zQM w) (zQN w)
theorem zQO (w:World):A4 144 ((w.withFollow "special-get-raises" false).withFollow "comprehension-iter-twice" true):=λos=>by kernel_rfl
theorem zQP (w:World):B4 144 1 13 ((w.withFollow "special-get-raises" false).withFollow "comprehension-iter-twice" true):=λos=>by kernel_rfl
theorem zQQ (w:World):B4 144 13 25 ((w.withFollow "special-get-raises" false).withFollow "comprehension-iter-twice" true):=λos=>by kernel_rfl
theorem zQR (w:World):C4 144 2216 25 ((w.withFollow "special-get-raises" false).withFollow "comprehension-iter-twice" true):=λos=>by kernel_rfl
theorem h4b (w:World):r4 ((w.withFollow "special-get-raises" false).withFollow "comprehension-iter-twice" true):=g4 rfl (zQO w) (zQP w) (zQQ w) (zQR w)
theorem zQS (w:World):A4 154 ((w.withFollow "special-get-raises" true).withFollow "comprehension-iter-twice" false):=λos=>by kernel_rfl
theorem zQT (w:World):B4 154 1 13 ((w.withFollow "special-get-raises" true).withFollow "comprehension-iter-twice" false):=λos=>by kernel_rfl
theorem zQU (w:World):B4 154 13 25 ((w.withFollow "special-get-raises" true).withFollow "comprehension-iter-twice" false):=λos=>by kernel_rfl
theorem zQV (w:World):C4 154 2206 25 ((w.withFollow "special-get-raises" true).withFollow "comprehension-iter-twice" false):=λos=>by kernel_rfl
theorem h4c (w:World):r4 ((w.withFollow "special-get-raises" true).withFollow "comprehension-iter-twice" false):=g4 rfl (zQS w) (zQT w) (zQU w) (zQV w)
theorem zQW (w:World):A4 144 ((w.withFollow "special-get-raises" true).withFollow "comprehension-iter-twice" true):=λos=>by kernel_rfl
theorem zQX (w:World):B4 144 1 13 ((w.withFollow "special-get-raises" true).withFollow "comprehension-iter-twice" true):=λos=>by kernel_rfl
theorem zQY (w:World):B4 144 13 25 ((w.withFollow "special-get-raises" true).withFollow "comprehension-iter-twice" true):=λos=>by kernel_rfl
theorem zQZ (w:World):C4 144 2216 25 ((w.withFollow "special-get-raises" true).withFollow "comprehension-iter-twice" true):=λos=>by kernel_rfl
theorem h4d (w:World):r4 ((w.withFollow "special-get-raises" true).withFollow "comprehension-iter-twice" true):=g4 rfl (zQW w) (zQX w) (zQY w) (zQZ w)
theorem h4 (w:World):r4 w:=byRow2 "comprehension-iter-twice" (P:=r4) (byRow2 "special-get-raises" (P:=λw=>r4 (w.withFollow "comprehension-iter-twice" false)) h4a h4c) (byRow2 "special-get-raises" (P:=λw=>r4 (w.withFollow "comprehension-iter-twice" true)) h4b h4d) w
theorem h5 (w:World):r5 w:=λos=>by kernel_rfl
theorem h6 (w:World):r6 w:=λos=>by kernel_rfl
noncomputable def hH (P:Params):Heap:=⟨(F71 P).toArray,{}⟩
theorem zPg (w:World) (os:OsState):topRun treeTable hp w 11 (some (.ref 6)) 2 (sT (F71 w.params) 571 1121 os).abs ⟨doneF .next,hc,⟨421,0,436,112⟩,[topFrame q0]⟩=some ⟨hH w.params,Array.mk [],{},1121,os⟩:=by rewrite [PySem.W.Fast.te14082659384304107361,PySem.W.Fast.te14364793385576792824];kernel_rfl
theorem hbE:hb.take 4++((hb.drop 4).take 1++((hb.drop 5).take 31++((hb.drop 36).take 1++((hb.drop 37).take 7++(hb.drop 44++[])))))=hb:=by kernel_rfl
theorem zPh (w:World) (os:OsState):topRun treeTable hp w 11 (some (.ref 6)) (12 + (1 + (700 + (700 + (900 + (5000 + (1500 + (1500 + 2)))))))) ⟨boot_heap w.params,Array.mk [],boot_drawn,boot_toks,os⟩ (topStub hp)=some ⟨hH w.params,Array.mk [],{},1121,os⟩:=by refine go_top (zPf w os) (piece_block (zJ8 w os) ?_);have k:=piece_app (segRun_of (sQ (h1 w os))) (piece_app (segRun_of (sQ (h2 w os))) (piece_app (segRun_of (sQ (h3 w os))) (piece_app (h4 w os) (piece_app (segRun_of (sQ (h5 w os))) (piece_app (segRun_of (sQ (h6 w os))) (piece_nil (env:=hv) (zPg w os)))))));rwa [hbE] at k
noncomputable def hK:Hook:=kHook Mine.KP.heap_1 [2,3,15,17,18,20,21,22,29,30,32,33,35,36,37,38,39,40,43,50,51,53,54,56,57,58,59,60,66,69,217,219,220,222,223,224,226,227,229,230,231,233,234,236,237,238,240,241,243,244,252,253,255,256,258,259,260,262,263,265,266,267,269,270,272,273,274,275,277,278,280,281,282,284,285,287,288,289,291,292,294,295,296,297,299,300,302,303,304,306,307,309,310,311,313,314,316,317,318,320,321,323,324,325,327,328,330,331,332,334,335,337,338,339,341,342,344,345,346,348,349,351,352,353,355,356,358,359,360,362,363,365,366,367,369,370,372,373,374,376,377,379,380,381,383,384,386,387,388,390,391,393,394,395,396,397,398,399,402,404,405,407,408,409,411,412,414,415,416,418,419,421,422,423,426,427,428,430,431,433,434,435,437,438,440,441,442,444,445,447,448,449,451,452,454,455,456,459,460,461,464,465,466,468,469,471,472,473,475,476,478,479,480,482,483,485,486,487,489,490,492,493,494,497,498,499,502,503,504,507,508,509,512,513,514,516,517,519,520,521,524,525,526,528,529,531,532,533,535,536,538,539,540,543,544,545,547,548,550,551,552,554,555,557,558,559,561,562,564,565,566,569,570] (λ_=>by kernel_rfl)
noncomputable def hV:Program:={ hp with main:={ hp.main with body:=hp.main.body.drop 71 } }
noncomputable def hL:List Str:=hp.boundNames.filter λs=>!(s=="law")
noncomputable def hX (s:Shared):Bool:=xlAt hV [] s&&recOk PySem.Challenge.rw_tn0029_01.row.toRowW.records s
theorem zJ9 (w:World):(λos=>((staticsOk (importedModules hp.main.body) (boot_heap w.params) (hH w.params)&&namesBound hp (hH w.params)&&gensDone ⟨hH w.params,Array.mk [],{},1121,os⟩&&laidKept (boot_heap w.params) (hH w.params)),
  openSeen hV hL (importedModules hp.main.body) hX true ⟨hH w.params, Array.mk [], {}, 1121, os⟩, Hook.obs hK ⟨hH w.params, Array.mk [], {}, 1121, os⟩)) = λ_ => (true, openGood hV hL, Hook.val hK w) := by
 funext os;kernel_rfl
theorem h_left:LeftO hp hV hL hX (Hook.obs hK) (Hook.val hK) 20000 :=
 LeftO.of_pieces zN6 zN7 zPh (by decide +kernel) zJ9
noncomputable abbrev hr:OpenRow:=PySem.Challenge.rw_tn0029_01.row
noncomputable def hD:DefRec×List (Str×Expr):=match defOf hV "law" with
 | some x=>x
 | none=>(⟨"",⟨[],[],none,[],[],none,[]⟩,[],⟨.module,[],false,false,[]⟩,q0⟩,[])
theorem h_def:defOf hV hr.name=some (hD.1,hD.2):=by kernel_rfl
theorem h_the:hr.prog.theDef hr.name=some (hD.1.params,hD.1.body,hD.1.scope):=by kernel_rfl
theorem h_kw:kwWritten? hD.1.params.kwonlyargs hD.1.params.kw_defaults=some hD.2:=by kernel_rfl
theorem h_wr:(!hr.writes||hr.records.isEmpty)=true:=by kernel_rfl
theorem h_ok:(chainsOk hV&&opensWell hr.prog&&(frees hr.toRowW&&hr.within.isEmpty))=true:=by kernel_rfl
theorem h_bare:hr.prog.bare:=⟨rfl,rfl,rfl,rfl,rfl,by kernel_rfl⟩
theorem h_prom:PySem.Challenge.rw_tn0029_01.row.toRowW.promised:=by w_witness2
theorem h_xl (s:Shared) (e:hX s=true):XL hV [] (s.heap.nsMap mainGlobals) s.heap/\RecFacts hr.records s.heap :=
 have e:=Bool.and_eq_true_iff.mp e
 ⟨xl_of s e.1,recFacts_of e.2⟩
theorem h_nm:hD.1.name="law":=by kernel_rfl
theorem wl {P:Params}{h:Heap}{l:Addr}{xs:List PyData}{vs:List Value}(w1:Well P h (.ref l) (ofPy (.list xs))) (hL:h.IsList l vs.toArray):h.get? l=some { cls:=.type "list",data:=.seq vs.toArray }:=by
 obtain ⟨o,e,_,n,hd⟩:=hL;cases w1 with
 | list h1 _ =>
  have e2:=e;rw [h1] at e2;cases e2
  have h3:=(Data.seq.inj hd).1;rw [h1];exact congrArg (λa=>some { cls:=.type "list",data:=.seq a:Obj }) h3
theorem h_said:PySem.Challenge.rw_tn0029_01.wellSaid=true:=by
 rewrite [PySem.W.Fast.te9446332074065402090];iterate 38 refine look_both ?_ (by as_aux_lemma=>kernel_rfl)
 as_aux_lemma=>kernel_rfl
end Mh
set_option tactic.hygienic true
theorem PySem.Challenge.cw_tn0029_01_holds : PySem.Challenge.rw_tn0029_01.Holds := by
 w_on;refine holds_law Mh.h_said λsaid=>PySem.W.holds_open (r:=Mh.hr) Mh.h_left (Hook.of Mh.hK) (Hook.keeps Mh.hK) (λs e=>(Mh.h_xl s e).1) XL.keeps Mh.h_def Mh.h_the Mh.h_kw (λs e=>(Mh.h_xl s e).2) Mh.h_wr said Mh.h_ok Mh.h_bare Mh.h_prom ?_;intro w s₀ s₁ mg mb G Y fa o pm cd doc dV kV ho hd hcd hD hmg hg args vals as hpre hlay hrd hwl hlo;have KX:(Mine.KP.heap_1 w.params).In s₁.heap:=Y;rw [Mh.h_nm] at hmg;have Tg:=G.T.g;have Tb:=G.T.b;have Tn:=G.T.nolimit;have Ti:=G.T.builtins;clear G Y ho hd hcd hD;wrow_args hpre hlay hrd hwl hlo;refine enter_call ?_;rename_i is hs hlay0 hL1 hr1 hl2 as4 as3 l vs as0 hL ra w1 r0 hI hr hc1 hc2;have hlen:is.length<=63:=by omega
 have hl:=Mh.wl w1 hL;have efa:fa=570:=by have h1:=mg_of KX Tg (show nsIn (Mine.KP.heap_1 w.params) mainGlobals (Str.ofString "law")=some (some (.ref 570)) by kernel_rfl);rw [h1] at hmg;cases hmg;rfl
 subst efa;refine codeAny_mono (Mine.law_row KX Tg Tb Tn Ti hl hI hlen) λr s' q=>?_;obtain ⟨h',tk',k⟩:=q;refine GoodW.toG ⟨.inl ⟨_,.bool true,[],rfl,raisesW_false ?_,.bool true,?_,λ_=>⟨List.nodup_nil,nofun⟩⟩,k,rfl,hg⟩
 ·wrow_none_raised
 ·wrow_post
