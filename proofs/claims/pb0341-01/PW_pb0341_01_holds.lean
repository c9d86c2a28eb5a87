import PyProof.Rows.All
import Wide.All
import OpenK.AllK
import Wide.FinOn
import Lean
import PySem.Challenge.RW_pb0341_01
open PySem PySem.W PyProof.Rows PySem.Calls
set_option Elab.async false
set_option tactic.hygienic false
set_option maxRecDepth 100000
set_option genSizeOf false
set_option genInjectivity false
set_option linter.unusedVariables false
section
namespace Mine
theorem lin {l r A B:Nat} (S:A<=B) (h:l+B<=r+A):l<=r:=by omega
theorem sbE (a b:Nat) (h:b<=a):a - b+b<=a:=Nat.le_of_eq (Nat.sub_add_cancel h)
theorem nLt {a b:Nat} (h:(a:Int) < (b:Int)):a < b:=Int.ofNat_lt.mp h
theorem nLe {a b:Nat} (h:(a:Int)<=(b:Int)):a<=b:=Int.ofNat_le.mp h
theorem sbP (a b:Nat) (h:1<=a - b):a - b+b<=a:=sbE a b (Nat.le_of_lt (Nat.lt_of_sub_pos h))
theorem mnL (a b:Nat) (h:a<=b):a<=min a b:=Nat.le_min.mpr ⟨Nat.le_refl _,h⟩
theorem mnR (a b:Nat) (h:b<=a):b<=min a b:=Nat.le_min.mpr ⟨h,Nat.le_refl _⟩
theorem sbA (a b:Nat):a<=a - b+b:=Nat.sub_le_iff_le_add.mp (Nat.le_refl _)
theorem linL {l r A B:Nat} (S:A<=B) (h:l+1+B<=r+A):l < r:=lin S h
theorem linE {l r A B C E:Nat} (S:A<=B) (h:l+B<=r+A) (S':C<=E) (h':r+E<=l+C):l=r:=Nat.le_antisymm (lin S h) (lin S' h')
theorem linF {A B:Nat} (S:A<=B) (h:B+1<=A):False:=Nat.not_le_of_lt h S
theorem linZ {l r A B:Int} (S:A<=B) (h:l+B<=r+A):l<=r:=by omega
theorem linZL {l r A B:Int} (S:A<=B) (h:l+1+B<=r+A):l < r:=by omega
theorem linZE {l r A B C E:Int} (S:A<=B) (h:l+B<=r+A) (S':C<=E) (h':r+E<=l+C):l=r:=Int.le_antisymm (linZ S h) (linZ S' h')
theorem linZF {A B:Int} (S:A<=B) (h:B+1<=A):False:=by omega
inductive V where
 | none
 | bool (b:Bool)
 | int (i:Int)
 | str (s:Str)
 | ref (a:Addr)
 | raw (v:Value)
 | tup (xs:List V)
noncomputable abbrev Led:=List (Addr×Obj)
mutual
inductive VRel (T:Led):V->Value->Prop where
 | none:VRel T .none .none
 | bool (b:Bool):VRel T (.bool b) (.bool b)
 | int (i:Int) (t:Tok):VRel T (.int i) (.int i t)
 | str (x:Str) (t:Tok):VRel T (.str x) (.str x t)
 | ref (a:Addr):VRel T (.ref a) (.ref a)
 | raw (v:Value):VRel T (.raw v) v
 | tup {xs:List V} {ws:List Value} {a:Addr} {o:Obj} {n:Nat}:(a,o)∈T->o.cls=.type "tuple"->o.data=.seq ws.toArray n->VRels T xs ws->VRel T (.tup xs) (.ref a)
inductive VRels (T:Led):List V->List Value->Prop where
 | nil:VRels T [] []
 | cons {x:V} {v:Value} {xs:List V} {ws:List Value}:VRel T x v->VRels T xs ws->VRels T (x::xs) (v::ws)
end
noncomputable def Sub (T T':Led):Prop:=∀ p∈T,p∈T'
theorem Sub.refl (T:Led):Sub T T:=fun _ h=>h
theorem Sub.trans {T T' T'':Led} (x:Sub T T') (y:Sub T' T''):Sub T T'':=fun p h=>y p (x p h)
theorem Sub.cons (T:Led) (p:Addr×Obj):Sub T (p::T):=fun _ h=>.tail _ h
theorem VRel.mono {T T':Led} (h:Sub T T') {x:V} {v:Value} (r:VRel T x v):VRel T' x v:=
 VRel.rec (motive_1:=fun x v _=>VRel T' x v) (motive_2:=fun xs ws _=>VRels T' xs ws) .none .bool .int .str .ref .raw (fun hm hc hd _ r=>.tup (h _ hm) hc hd r) .nil (fun _ _ r rs=>.cons r rs) r
theorem VRels.mono {T T':Led} (h:Sub T T') {xs:List V} {ws:List Value} (r:VRels T xs ws):VRels T' xs ws:=
 VRels.rec (motive_1:=fun x v _=>VRel T' x v) (motive_2:=fun xs ws _=>VRels T' xs ws) .none .bool .int .str .ref .raw (fun hm hc hd _ r=>.tup (h _ hm) hc hd r) .nil (fun _ _ r rs=>.cons r rs) r
noncomputable def VR (T:Led):V->Value->Prop
 | .none,v=>∃ _:Unit,v=.none
 | .bool b,v=>∃ _:Unit,v=.bool b
 | .int i,v=>∃ t,v=.int i t
 | .str x,v=>∃ t,v=.str x t
 | .ref a,v=>∃ _:Unit,v=.ref a
 | .raw w,v=>∃ _:Unit,v=w
 | .tup _,_=>True
theorem VRel.inv {T:Led} {x:V} {v:Value} (h:VRel T x v):VR T x v:=by
 cases h <;> first | exact ⟨_,rfl⟩ | exact ⟨(),rfl⟩ | exact True.intro
theorem VRels.nil_inv {T:Led} {ws:List Value} (h:VRels T [] ws):ws=[]:=by cases h; rfl
theorem VRels.cons_inv {T:Led} {x:V} {xs:List V} {ws:List Value} (h:VRels T (x::xs) ws):∃ v us,ws=v::us/\VRel T x v/\VRels T xs us:=by
 cases h with | cons r rs=>exact ⟨_,_,rfl,r,rs⟩
theorem VRels.length {T:Led} {xs:List V}:∀ {ws:List Value},VRels T xs ws->ws.length=xs.length:=by
 induction xs with
 | nil=>intro ws h; rw [h.nil_inv]; rfl
 | cons x xs ih=>intro ws h; obtain ⟨v,us,rfl,_,rs⟩:=h.cons_inv; exact congrArg Nat.succ (ih rs)
theorem VRels.append {T:Led} {xs:List V}:∀ {ws:List Value} {ys:List V} {us:List Value},VRels T xs ws->VRels T ys us->VRels T (xs++ys) (ws++us):=by
 induction xs with
 | nil=>intro ws ys us h k; rw [h.nil_inv]; exact k
 | cons x xs ih=>intro ws ys us h k; obtain ⟨v,us',rfl,r,rs⟩:=h.cons_inv; exact .cons r (ih rs k)
theorem VRels.get {T:Led} {xs:List V}:∀ {ws:List Value},VRels T xs ws->∀ {i:Nat} {x:V},xs[i]?=some x->∃ v,ws[i]?=some v/\VRel T x v:=by
 induction xs with
 | nil=>intro ws h i x e; cases e
 | cons y xs ih=>
  intro ws h i x e
  obtain ⟨v,us,rfl,r,rs⟩:=h.cons_inv
  cases i with
  | zero=>exact ⟨v,rfl,Option.some.inj e ▸ r⟩
  | succ i=>exact ih rs e
theorem VRels.get' {T:Led} {xs:List V}:∀ {ws:List Value},VRels T xs ws->∀ {i:Nat} {v:Value},ws[i]?=some v->∃ x,xs[i]?=some x/\VRel T x v:=by
 induction xs with
 | nil=>intro ws h i x e; rw [h.nil_inv] at e; cases e
 | cons y xs ih=>
  intro ws h i x e
  obtain ⟨v,us,rfl,r,rs⟩:=h.cons_inv
  cases i with
  | zero=>exact ⟨y,rfl,Option.some.inj e ▸ r⟩
  | succ i=>exact ih rs e
theorem VRels.take {T:Led} {xs:List V}:∀ {ws:List Value},VRels T xs ws->∀ n,VRels T (xs.take n) (ws.take n):=by
 induction xs with
 | nil=>intro ws h n; rw [h.nil_inv,List.take_nil,List.take_nil]; exact .nil
 | cons x xs ih=>
  intro ws h n
  obtain ⟨v,us,rfl,r,rs⟩:=h.cons_inv
  cases n with
  | zero=>exact .nil
  | succ n=>exact .cons r (ih rs n)
theorem VRels.reverse {T:Led} {xs:List V}:∀ {ws:List Value},VRels T xs ws->VRels T xs.reverse ws.reverse:=by
 induction xs with
 | nil=>intro ws h; rw [h.nil_inv]; exact .nil
 | cons x xs ih=>intro ws h; obtain ⟨v,us,rfl,r,rs⟩:=h.cons_inv; rw [List.reverse_cons,List.reverse_cons]; exact (ih rs).append (.cons r .nil)
theorem VRels.ints {T:Led} {is:List Int}:∀ {ws:List Value},VRels T (is.map V.int) ws->IntsAre ws is:=by
 induction is with
 | nil=>intro ws h; rw [h.nil_inv]; exact .nil
 | cons i is ih=>intro ws h; obtain ⟨v,us,rfl,r,rs⟩:=h.cons_inv; obtain ⟨t,rfl⟩:=r.inv; exact .cons _ _ (ih rs)
theorem VRels.of_ints {T:Led} {is:List Int} {ws:List Value} (h:IntsAre ws is):VRels T (is.map V.int) ws:=by
 induction h with
 | nil=>exact .nil
 | cons _ _ _ ih=>exact .cons (.int _ _) ih
inductive IObj where
 | liter (l:Addr) (i:Nat)
 | riter (x left step:Int)
 | rng (a b c:Int)
 | kiter (d:Addr) (i n ep:Nat)
 | viter (d:Addr) (i n ep:Nat)
 | vview (d:Addr)
 | siter (x:Str) (i:Nat)
noncomputable def IObj.ok:IObj->Obj->Prop
 | .liter l i,o=>o.cls=.type "list_iterator"/\o.data=.fields #[.ref l,.int i 0]
 | .riter x left step,o=>o={ cls:=.type "range_iterator",dict:=none,data:=.fields #[rawInt x,rawInt left,rawInt step],slots:=#[] }
 | .rng a b c,o=>∃ t u v,o={ cls:=.type "range",dict:=none,data:=.fields #[.int a t,.int b u,.int c v],slots:=#[] }
 | .kiter d i n ep,o=>o.cls=.type "dict_keyiterator"/\o.data=.fields #[.ref d,.int i 0,.int n 0,.int ep 0]
 | .viter d i n ep,o=>o.cls=.type "dict_valueiterator"/\o.data=.fields #[.ref d,.int i 0,.int n 0,.int ep 0]
 | .vview d,o=>o.cls=.type "dict_values"/\o.data=.fields #[.ref d]
 | .siter x i,o=>o.cls=.type (strIterType x)/\∃ t,o.data=.fields #[.str x t,.int i 0]
inductive AObj where
 | io (k:IObj)
 | list (xs:List V)
 | inst (C:Addr) (at_:List (Str×V))
 | dictI (kvs:List (Int×V)) (ep:Nat)
 | dictS (kvs:List (Str×V)) (ep:Nat)
 | dictT (n:Nat)
 | cell (x:Option V)
 | raw (o:Obj)
noncomputable abbrev HL:=List (Addr×AObj)
structure Wd where
 prog:Program
 w:World
 K:Frag
 p:Program
 loose:List Str
 mean:ExcName->Option Value
 mg:Str->Option Value
 mb:Str->Option Value
noncomputable abbrev lObj (ws:List Value) (n:Nat):Obj:={ cls:=.type "list",dict:=none,data:=.seq ws.toArray n,slots:=#[] }
inductive AttrRel (T:Led):List (Str×V)->List DictEntry->Prop where
 | nil:AttrRel T [] []
 | cons {n:Str} {x:V} {v:Value} {hs:Int} {t:Tok} {l:List (Str×V)} {es:List DictEntry}:VRel T x v->AttrRel T l es->AttrRel T ((n,x)::l) (⟨hs,.str n t,v⟩::es)
inductive PairsRel {α:Type} (T:Led):List (α×V)->List (α×Value)->Prop where
 | nil:PairsRel T [] []
 | cons {k:α} {x:V} {v:Value} {l:List (α×V)} {l':List (α×Value)}:VRel T x v->PairsRel T l l'->PairsRel T ((k,x)::l) ((k,v)::l')
theorem AttrRel.mono {T T':Led} (h:Sub T T') {l:List (Str×V)} {es:List DictEntry} (r:AttrRel T l es):AttrRel T' l es:=by
 induction r with
 | nil=>exact .nil
 | cons r _ ih=>exact .cons (r.mono h) ih
theorem PairsRel.mono {α:Type} {T T':Led} (h:Sub T T') {l:List (α×V)} {es:List (α×Value)} (r:PairsRel T l es):PairsRel T' l es:=by
 induction r with
 | nil=>exact .nil
 | cons r _ ih=>exact .cons (r.mono h) ih
noncomputable def DictIs {prog:Program} {w:World} {K:Type} [DecidableEq K] (knd:KeyKind prog w K) (o:Obj) (l:List (K×Value)) (ep:Nat):Prop:=
 ∃ es,o.ExactDict/\o.data=.dict es ep/\KeysOf knd es/\Pairs knd es.toList l/\(l.map (·.1)).Nodup
inductive Conc (D:Wd) (T:Led):Addr->AObj->Led->Prop where
 | list {a:Addr} {xs:List V} {ws:List Value} {n:Nat}:VRels T xs ws->Conc D T a (.list xs) [(a,lObj ws n)]
 | inst {a C dx:Addr} {l:List (Str×V)} {es:List DictEntry} {n:Nat}:AttrRel T l es->Conc D T a (.inst C l) [(a,instObj C dx),(dx,dictOf es n)]
 | dictI {a:Addr} {o:Obj} {kvs:List (Int×V)} {l:List (Int×Value)} {ep:Nat}:DictIs (intKind D.prog D.w) o l ep->PairsRel T kvs l->Conc D T a (.dictI kvs ep) [(a,o)]
 | dictS {a:Addr} {o:Obj} {kvs:List (Str×V)} {l:List (Str×Value)} {ep:Nat}:DictIs (strKind D.prog D.w) o l ep->PairsRel T kvs l->Conc D T a (.dictS kvs ep) [(a,o)]
 | io {a:Addr} {o:Obj} {k:IObj}:k.ok o->Conc D T a (.io k) [(a,o)]
 | cell {a:Addr} {o:Obj} {x:V} {v:Value}:o.data=.cell (some v)->VRel T x v->Conc D T a (.cell (some x)) [(a,o)]
 | cell0 {a:Addr} {o:Obj}:o.data=.cell none->Conc D T a (.cell none) [(a,o)]
 | raw {a:Addr} {o:Obj}:o.isFreed=false->Conc D T a (.raw o) [(a,o)]
 | dictT {a:Addr} {o:Obj} {n ep:Nat} {es:Array DictEntry} {xs:List (List Str×Addr×Value)}:o.ExactDict->o.data=.dict es ep->es.toList=xs.map (entryOfKey (tupleKind (strKind D.prog D.w)))->(xs.map (·.1)).Nodup->
   (∀ x∈xs,∃ ok,(x.2.1,ok)∈T/\TupKeyObj (strKind D.prog D.w) x.1 ok)->xs.length<=n->Conc D T a (.dictT n) [(a,o)]
theorem Conc.mono {D:Wd} {T T':Led} (h:Sub T T') {a:Addr} {o:AObj} {b:Led} (c:Conc D T a o b):Conc D T' a o b:=by
 induction c with
 | list r=>exact .list (r.mono h)
 | inst r=>exact .inst (r.mono h)
 | dictI d r=>exact .dictI d (r.mono h)
 | dictS d r=>exact .dictS d (r.mono h)
 | cell d r=>exact .cell d (r.mono h)
 | cell0 d=>exact .cell0 d
 | raw d=>exact .raw d
 | dictT h1 h2 h3 h4 h5 h6=>exact .dictT h1 h2 h3 h4 (fun x hx=>let ⟨ok,m,t⟩:=h5 x hx; ⟨ok,h _ m,t⟩) h6
 | io d=>exact .io d
inductive Concs (D:Wd) (T:Led):HL->Led->Prop where
 | nil:Concs D T [] []
 | cons {a:Addr} {o:AObj} {b:Led} {H:HL} {N:Led}:Conc D T a o b->Concs D T H N->Concs D T ((a,o)::H) (b++N)
theorem Concs.mono {D:Wd} {T T':Led} (h:Sub T T') {H:HL} {N:Led} (c:Concs D T H N):Concs D T' H N:=by
 induction c with
 | nil=>exact .nil
 | cons c _ ih=>exact .cons (c.mono h) ih
theorem Concs.cons_inv {D:Wd} {T:Led} {q:Addr×AObj} {H:HL} {N:Led} (c:Concs D T (q::H) N):∃ b N',N=b++N'/\Conc D T q.1 q.2 b/\Concs D T H N':=by
 cases c with | cons c cs=>exact ⟨_,_,rfl,c,cs⟩
inductive Ext (a:Addr) (o:AObj):HL->HL->Prop where
 | head {H:HL}:Ext a o ((a,o)::H) H
 | tail {q:Addr×AObj} {H R:HL}:Ext a o H R->Ext a o (q::H) (q::R)
theorem Ext.of_mem {a:Addr} {o:AObj} {H:HL} (h:(a,o)∈H):∃ R,Ext a o H R:=by
 induction H with
 | nil=>cases h
 | cons q H ih=>
  rcases List.mem_cons.mp h with e | h
  ·exact ⟨H,e ▸ .head⟩
  ·obtain ⟨R,e⟩:=ih h
   exact ⟨_,.tail e⟩
theorem Ext.mem {a:Addr} {o:AObj} {H R:HL} (e:Ext a o H R):(a,o)∈H:=by
 induction e with
 | head=>exact .head _
 | tail _ ih=>exact .tail _ ih
theorem Concs.split {D:Wd} {T:Led} {a:Addr} {o:AObj} {H R:HL} {N:Led} (e:Ext a o H R) (c:Concs D T H N) :
  ∃ b NR,Conc D T a o b/\Concs D T R NR/\N.Perm (b++NR):=by
 induction e generalizing N with
 | head=>obtain ⟨b,N',rfl,c,cs⟩:=c.cons_inv; exact ⟨_,_,c,cs,.refl _⟩
 | tail e ih=>
  obtain ⟨b',N',rfl,c,cs⟩:=c.cons_inv
  obtain ⟨b,NR,h1,h2,h3⟩:=ih cs
  refine ⟨b,b'++NR,h1,.cons c h2,?_⟩
  refine (List.Perm.append_left b' h3).trans ?_
  rw [<- List.append_assoc,<- List.append_assoc]
  exact List.Perm.append_right NR List.perm_append_comm
end Mine
end
section
namespace Mine
inductive LocRel (T:Led) (mc:Str->Option Value):List Str->List (Option V)->Prop where
 | nil:LocRel T mc [] []
 | cons {n:Str} {o:Option V} {ns:List Str} {vs:List (Option V)}:(∀ x,o=some x->∃ v,mc n=some v/\VRel T x v)->LocRel T mc ns vs->LocRel T mc (n::ns) (o::vs)
theorem LocRel.mono {T T':Led} (h:Sub T T') {mc:Str->Option Value} {ns:List Str} {vs:List (Option V)} (r:LocRel T mc ns vs):LocRel T' mc ns vs:=by
 induction r with
 | nil=>exact .nil
 | cons r _ ih=>exact .cons (fun x e=>let ⟨v,h1,h2⟩:=r x e; ⟨v,h1,h2.mono h⟩) ih
theorem LocRel.get {T:Led} {mc:Str->Option Value} {ns:List Str} {vs:List (Option V)} (r:LocRel T mc ns vs):∀ {i:Nat} {n:Str} {x:V},ns[i]?=some n->vs[i]?=some (some x)->∃ v,mc n=some v/\VRel T x v:=by
 induction r with
 | nil=>intro i n x e; cases e
 | cons r _ ih=>
  intro i n x e1 e2
  cases i with
  | zero=>exact Option.some.inj e1 ▸ r x (Option.some.inj e2)
  | succ i=>exact ih e1 e2
theorem LocRel.keep {T:Led} {mc:Str->Option Value} {n:Str} {v:Value} {ns:List Str} {vs:List (Option V)} (hn:n ∉ ns) (r:LocRel T mc ns vs):LocRel T (fun y=>if y=n then some v else mc y) ns vs:=by
 induction r with
 | nil=>exact .nil
 | cons r _ ih=>exact .cons (fun x e=>let ⟨u,h1,h2⟩:=r x e; ⟨u,(if_neg (fun q:_=n=>hn (q ▸ .head _))).trans h1,h2⟩) (ih fun q=>hn (.tail _ q))
theorem LocRel.set {T:Led} {mc:Str->Option Value} {n:Str} {v:Value} {x:V} (hx:VRel T x v) {ns:List Str} {vs:List (Option V)} {i:Nat} (nd:ns.Nodup) (e:ns[i]?=some n) (r:LocRel T mc ns vs) :
  LocRel T (fun y=>if y=n then some v else mc y) ns (vs.set i (some x)):=by
 induction r generalizing i with
 | nil=>cases e
 | @cons n' o ns _ r rs ih=>
  have nd':=List.nodup_cons.mp nd
  cases i with
  | zero=>exact Option.some.inj e ▸ .cons (fun y q=>⟨v,if_pos rfl,Option.some.inj q ▸ hx⟩) (rs.keep (Option.some.inj e ▸ nd'.1))
  | succ i=>
   have hm:n∈ns:=List.mem_of_getElem? (i:=i) e
   exact .cons (fun y q=>let ⟨u,h1,h2⟩:=r y q; ⟨u,(if_neg fun q=>nd'.1 (by rw [q]; exact hm)).trans h1,h2⟩) (ih nd'.2 e)
structure Fm where
 F:Heap
 L:Addr
 gs:Array GenState
 os:OsState
 ns:List Str
 nd:ns.Nodup
noncomputable def GOk (g₀ g:Array GenState):Prop:=(∀ (i:Nat) (x:GenState),g₀[i]?=some x->g[i]?=some x)/\∀ (i:Nat) (x:GenState),g₀.size<=i->g[i]?=some x->x.bare=true
theorem GOk.refl (g:Array GenState):GOk g g:=⟨fun _ _ e=>e,fun i x hi e=>by rw [Array.getElem?_eq_none hi] at e; cases e⟩
structure Base (D:Wd) (F:Heap):Prop where
 k:D.K.In F
 t:Top D.p D.loose D.mean D.mg D.mb F
theorem Base.keeps {D:Wd} {F F':Heap} (B:Base D F) (k:∀ b o,F.get? b=some o->F'.get? b=some o):Base D F':=⟨B.k.keeps k,B.t.keeps k⟩
structure Inv (D:Wd) (fm:Fm) (T:Led) (s:Shared) (H:HL) (vs:List (Option V)):Prop where
 ex:∃ mc N,Fr fm.F fm.L s.heap mc/\LocRel T mc fm.ns vs/\Concs D T H N/\News fm.F fm.L s.heap (T++N)/\((T++N).map (·.1)).Nodup/\∀ p∈N,p.1≠sysModules
 base:Base D fm.F
 gens:GOk fm.gs s.gens
 os:s.os=fm.os
theorem News.perm {F h:Heap} {L:Addr} {N N':Led} (p:N.Perm N') (n:News F L h N):News F L h N':=fun q hq=>n q (p.mem_iff.mpr hq)
section
variable {D:Wd} {fm:Fm} {T:Led} {s:Shared} {H:HL} {vs:List (Option V)}
theorem Inv.k (I:Inv D fm T s H vs):D.K.In s.heap:=let ⟨_,_,F,_⟩:=I.ex; I.base.k.keeps F.keep
theorem Inv.nolimit (I:Inv D fm T s H vs):s.heap.NoLimit:=let ⟨_,_,F,_⟩:=I.ex; I.base.t.nolimit.keeps F.keep
theorem Inv.keep (I:Inv D fm T s H vs):∀ b o,fm.F.get? b=some o->s.heap.get? b=some o:=let ⟨_,_,F,_⟩:=I.ex; F.keep
theorem Inv.perm {H':HL} (p:H.Perm H') (I:Inv D fm T s H vs):Inv D fm T s H' vs:=by
 obtain ⟨⟨mc,N,F,l,c,n,nd,lo⟩,b,g,o⟩:=I
 have:∃ N',Concs D T H' N'/\N.Perm N':=by
  clear n nd lo
  induction p generalizing N with
  | nil=>exact ⟨N,c,.refl _⟩
  | cons x _ ih=>
   cases c with
   | cons c cs=>
    obtain ⟨N',h1,h2⟩:=ih _ cs
    exact ⟨_,.cons c h1,.append_left _ h2⟩
  | swap x y l=>
   cases c with
   | cons c cs=>cases cs with
    | cons c' cs=>
     refine ⟨_,.cons c' (.cons c cs),?_⟩
     rw [<- List.append_assoc,<- List.append_assoc]
     exact List.Perm.append_right _ List.perm_append_comm
  | trans _ _ ih1 ih2=>
   obtain ⟨N',h1,h2⟩:=ih1 _ c
   obtain ⟨N'',h3,h4⟩:=ih2 _ h1
   exact ⟨N'',h3,h2.trans h4⟩
 obtain ⟨N',c',p'⟩:=this
 have pp:(T++N).Perm (T++N'):=.append_left _ p'
 exact ⟨⟨mc,N',F,l,c',News.perm pp n,(pp.map _).nodup_iff.mp nd,fun q hq=>lo q (p'.mem_iff.mpr hq)⟩,b,g,o⟩
theorem Ext.perm {a:Addr} {o:AObj} {H R:HL} (e:Ext a o H R):H.Perm ((a,o)::R):=by
 induction e with
 | head=>exact .refl _
 | tail _ ih=>exact (ih.cons _).trans (.swap _ _ _)
theorem Inv.forget {a:Addr} {o:AObj} {R:HL} (e:Ext a o H R) (I:Inv D fm T s H vs):Inv D fm T s R vs:=by
 obtain ⟨⟨mc,N,F,l,c,n,nd,lo⟩,b,g,os⟩:=I
 obtain ⟨b1,NR,h1,h2,h3⟩:=c.split e
 have pp:(T++N).Perm (b1++(T++NR)):=by
  refine (List.Perm.append_left T h3).trans ?_
  rw [<- List.append_assoc,<- List.append_assoc]
  exact List.Perm.append_right _ List.perm_append_comm
 have nd':=(pp.map (·.1)).nodup_iff.mp nd
 rw [List.map_append] at nd'
 exact ⟨⟨mc,NR,F,l,h2,fun q hq=>News.perm pp n q (List.mem_append_right _ hq),(List.nodup_append.mp nd').2.1,fun q hq=>lo q (h3.mem_iff.mpr (List.mem_append_right _ hq))⟩,b,g,os⟩
theorem Inv.read {a:Addr} {o:AObj} (m:(a,o)∈H) (I:Inv D fm T s H vs):∃ b,Conc D T a o b/\∀ p∈b,s.heap.get? p.1=some p.2/\p.1≠fm.L/\fm.F.get? p.1=none/\p.1≠sysModules:=by
 obtain ⟨R,e⟩:=Ext.of_mem m
 obtain ⟨⟨mc,N,F,l,c,n,nd,lo⟩,b,g,os⟩:=I
 obtain ⟨b1,NR,h1,h2,h3⟩:=c.split e
 refine ⟨b1,h1,fun p hp=>?_⟩
 have hm:p∈N:=h3.mem_iff.mpr (List.mem_append_left _ hp)
 have:=n p (List.mem_append_right _ hm)
 exact ⟨this.1,this.2.1,this.2.2,lo p hm⟩
theorem Inv.tupAt {a:Addr} {o:Obj} (m:(a,o)∈T) (I:Inv D fm T s H vs):s.heap.get? a=some o:=by
 obtain ⟨⟨mc,N,F,l,c,n,nd,lo⟩,b,g,os⟩:=I
 exact (n _ (List.mem_append_left _ m)).1
theorem Inv.grow {h':Heap} {tk:Tok} (I:Inv D fm T s H vs) (k:∀ b o,s.heap.get? b=some o->h'.get? b=some o):Inv D fm T { s with heap:=h',toks:=tk } H vs:=by
 obtain ⟨⟨mc,N,F,l,c,n,nd,lo⟩,b,g,os⟩:=I
 exact ⟨⟨mc,N,⟨F.ns.keeps k,fun b o e=>k b o (F.keep b o e),F.above⟩,l,c,fun p hp=>⟨k _ _ (n p hp).1,(n p hp).2⟩,nd,lo⟩,b,g,os⟩
theorem Inv.toks {tk:Tok} (I:Inv D fm T s H vs):Inv D fm T { s with toks:=tk } H vs:=I.grow (h':=s.heap) fun _ _ e=>e
theorem Inv.low (I:Inv D fm T s H vs):sysModules < s.heap.objs.size:=by
 obtain ⟨mc,N,F,_⟩:=I.ex
 exact Nat.lt_of_le_of_lt (by decide) (I.base.t.g.keeps F.keep).lt
theorem Inv.change {a a':Addr} {o o':AObj} {R:HL} {h':Heap} {tk:Tok} {b b':Led} (e:Ext a o H R) (I:Inv D fm T s H vs)
  (hb:∀ b₀,Conc D T a o b₀->(∀ p∈b₀,s.heap.get? p.1=some p.2)->b₀.map (·.1)=b.map (·.1)) (c':Conc D T a' o' b')
  (h1:∀ p∈b',h'.get? p.1=some p.2/\(p.1∈b.map (·.1)\/s.heap.get? p.1=none)) (hnd:(b'.map (·.1)).Nodup)
  (h2:∀ x ob,s.heap.get? x=some ob->x ∉ b.map (·.1)->h'.get? x=some ob) (hnew:∀ p∈b',s.heap.get? p.1=none->s.heap.objs.size<=p.1) :
  Inv D fm T { s with heap:=h',toks:=tk } ((a',o')::R) vs:=by
 have hlo:=I.low
 obtain ⟨⟨mc,N,F,l,c,n,nd,lo⟩,B,g,os⟩:=I
 obtain ⟨b1,NR,c1,c2,c3⟩:=c.split e
 have pp:(T++N).Perm (b1++(T++NR)):=by
  refine (List.Perm.append_left T c3).trans ?_
  rw [<- List.append_assoc,<- List.append_assoc]
  exact List.Perm.append_right _ List.perm_append_comm
 have n':=News.perm pp n
 have nd':=(pp.map (·.1)).nodup_iff.mp nd
 rw [List.map_append] at nd'
 obtain ⟨nd1,nd2,nd3⟩:=List.nodup_append.mp nd'
 have hbb:b1.map (·.1)=b.map (·.1):=hb b1 c1 fun p hp=>(n' p (List.mem_append_left _ hp)).1
 have hown:∀ x,x∈b.map (·.1)->x≠fm.L/\fm.F.get? x=none/\x≠sysModules:=fun x hx=>by
  rw [<- hbb] at hx
  obtain ⟨p,hp,rfl⟩:=List.mem_map.mp hx
  have:=n' p (List.mem_append_left _ hp)
  exact ⟨this.2.1,this.2.2,lo p (c3.mem_iff.mpr (List.mem_append_left _ hp))⟩
 have hL:fm.L ∉ b.map (·.1):=fun q=>(hown _ q).1 rfl
 have hF:∀ x ob,fm.F.get? x=some ob->x ∉ b.map (·.1):=fun x ob e q=>by rw [(hown _ q).2.1] at e; cases e
 obtain ⟨oL,es,ep,hLo,r⟩:=F.ns
 refine ⟨⟨mc,b'++NR,⟨⟨oL,es,ep,h2 _ _ hLo hL,r⟩,fun x ob e=>h2 _ _ (F.keep x ob e) (hF x ob e),F.above⟩,l,.cons c' c2,?_,?_,?_⟩,B,g,os⟩
 ·intro p hp
  have old:p∈T++NR->h'.get? p.1=some p.2/\p.1≠fm.L/\fm.F.get? p.1=none:=fun hq=>by
   have:=n' p (List.mem_append_right _ hq)
   refine ⟨h2 _ _ this.1 fun q=>?_,this.2⟩
   rw [<- hbb] at q
   exact nd3 _ q _ (List.mem_map_of_mem hq) rfl
  rcases List.mem_append.mp hp with hp | hp
  ·exact old (List.mem_append_left _ hp)
  ·rcases List.mem_append.mp hp with hp | hp
   ·obtain ⟨e1,e2⟩:=h1 p hp
    refine ⟨e1,?_⟩
    rcases e2 with e2 | e2
    ·exact ⟨(hown _ e2).1,(hown _ e2).2.1⟩
    ·refine ⟨fun q=>?_,?_⟩
     ·rw [q,hLo] at e2; cases e2
     ·cases q:fm.F.get? p.1 with
      | none=>rfl
      | some ob=>rw [F.keep _ _ q] at e2; cases e2
   ·exact old (List.mem_append_right _ hp)
 ·have:(T++(b'++NR)).Perm (b'++(T++NR)):=by
   rw [<- List.append_assoc,<- List.append_assoc]
   exact List.Perm.append_right _ List.perm_append_comm
  refine (this.map (·.1)).nodup_iff.mpr ?_
  rw [List.map_append]
  refine List.nodup_append.mpr ⟨hnd,nd2,fun x hx y hy q=>?_⟩
  subst q
  obtain ⟨p,hp,rfl⟩:=List.mem_map.mp hx
  rcases (h1 p hp).2 with e2 | e2
  ·rw [<- hbb] at e2
   exact nd3 _ e2 _ hy rfl
  ·obtain ⟨q,hq,e⟩:=List.mem_map.mp hy
   have:=(n' q (List.mem_append_right _ hq)).1
   rw [show q.1=p.1 from e,e2] at this; cases this
 ·intro p hp
  rcases List.mem_append.mp hp with hp | hp
  ·rcases (h1 p hp).2 with e2 | e2
   ·exact (hown _ e2).2.2
   ·exact Nat.ne_of_gt (Nat.lt_of_lt_of_le hlo (hnew p hp e2))
  ·exact lo p (c3.mem_iff.mpr (List.mem_append_right _ hp))
theorem Inv.new {a':Addr} {o':AObj} {h':Heap} {tk:Tok} {b':Led} (I:Inv D fm T s H vs) (c':Conc D T a' o' b')
  (h1:∀ p∈b',h'.get? p.1=some p.2/\s.heap.objs.size<=p.1) (hnd:(b'.map (·.1)).Nodup)
  (h2:∀ x ob,s.heap.get? x=some ob->h'.get? x=some ob) :
  Inv D fm T { s with heap:=h',toks:=tk } ((a',o')::H) vs:=by
 have hlo:=I.low
 obtain ⟨⟨mc,N,F,l,c,n,nd,lo⟩,B,g,os⟩:=I
 have out:∀ p∈b',s.heap.get? p.1=none:=fun p hp=>by
  cases q:s.heap.get? p.1 with
  | none=>rfl
  | some ob=>exact absurd (Heap.lt_size q) (Nat.not_lt.mpr (h1 p hp).2)
 obtain ⟨oL,es,ep,hLo,r⟩:=F.ns
 refine ⟨⟨mc,b'++N,⟨⟨oL,es,ep,h2 _ _ hLo,r⟩,fun x ob e=>h2 _ _ (F.keep x ob e),F.above⟩,l,.cons c' c,?_,?_,?_⟩,B,g,os⟩
 ·intro p hp
  have old:p∈T++N->h'.get? p.1=some p.2/\p.1≠fm.L/\fm.F.get? p.1=none:=fun hq=>⟨h2 _ _ (n p hq).1,(n p hq).2⟩
  rcases List.mem_append.mp hp with hp | hp
  ·exact old (List.mem_append_left _ hp)
  ·rcases List.mem_append.mp hp with hp | hp
   ·refine ⟨(h1 p hp).1,fun q=>?_,?_⟩
    ·have:=out p hp; rw [q,hLo] at this; cases this
    ·cases q:fm.F.get? p.1 with
     | none=>rfl
     | some ob=>have:=out p hp; rw [F.keep _ _ q] at this; cases this
   ·exact old (List.mem_append_right _ hp)
 ·have:(T++(b'++N)).Perm (b'++(T++N)):=by
   rw [<- List.append_assoc,<- List.append_assoc]
   exact List.Perm.append_right _ List.perm_append_comm
  refine (this.map (·.1)).nodup_iff.mpr ?_
  rw [List.map_append]
  refine List.nodup_append.mpr ⟨hnd,nd,fun x hx y hy q=>?_⟩
  subst q
  obtain ⟨p,hp,rfl⟩:=List.mem_map.mp hx
  obtain ⟨q,hq,e⟩:=List.mem_map.mp hy
  have:=(n q hq).1
  rw [show q.1=p.1 from e,out p hp] at this; cases this
 ·intro p hp
  rcases List.mem_append.mp hp with hp | hp
  ·exact Nat.ne_of_gt (Nat.lt_of_lt_of_le hlo (h1 p hp).2)
  ·exact lo p hp
theorem Inv.newTup {a:Addr} {o:Obj} {h':Heap} {tk:Tok} (I:Inv D fm T s H vs) (h1:h'.get? a=some o) (h0:s.heap.objs.size<=a)
  (h2:∀ x ob,s.heap.get? x=some ob->h'.get? x=some ob):Inv D fm ((a,o)::T) { s with heap:=h',toks:=tk } H vs:=by
 obtain ⟨⟨mc,N,F,l,c,n,nd,lo⟩,B,g,os⟩:=I
 have out:s.heap.get? a=none:=by
  cases q:s.heap.get? a with
  | none=>rfl
  | some ob=>exact absurd (Heap.lt_size q) (Nat.not_lt.mpr h0)
 obtain ⟨oL,es,ep,hLo,r⟩:=F.ns
 refine ⟨⟨mc,N,⟨⟨oL,es,ep,h2 _ _ hLo,r⟩,fun x ob e=>h2 _ _ (F.keep x ob e),F.above⟩,l.mono (Sub.cons _ _),c.mono (Sub.cons _ _),?_,?_,lo⟩,B,g,os⟩
 ·intro p hp
  rcases List.mem_cons.mp hp with rfl | hp
  ·refine ⟨h1,fun q=>?_,?_⟩
   ·dsimp only at q; rw [q,hLo] at out; cases out
   ·cases q:fm.F.get? a with
    | none=>rfl
    | some ob=>rw [F.keep _ _ q] at out; cases out
  ·exact ⟨h2 _ _ (n p hp).1,(n p hp).2⟩
 ·rw [List.cons_append,List.map_cons]
  refine List.nodup_cons.mpr ⟨fun q=>?_,nd⟩
  obtain ⟨p,hp,e⟩:=List.mem_map.mp q
  have:=(n p hp).1
  rw [show p.1=a from e,out] at this; cases this
theorem Inv.store {h':Heap} {tk:Tok} {n:Str} {i:Nat} {x:V} {v:Value} (hi:fm.ns[i]?=some n) (hx:VRel T x v) (I:Inv D fm T s H vs)
  (hm:∀ mc,s.heap.Ns fm.L mc->h'.Ns fm.L (fun y=>if y=n then some v else mc y)) (hs:Heap.SameBut fm.L s.heap h') :
  Inv D fm T { s with heap:=h',toks:=tk } H (vs.set i (some x)):=by
 obtain ⟨⟨mc,N,F,l,c,nw,nd,lo⟩,b,g,os⟩:=I
 exact ⟨⟨_,N,F.set (hm mc F.ns) hs,l.set hx fm.nd hi,c,nw.set hs,nd,lo⟩,b,g,os⟩
theorem Inv.local {n:Str} {i:Nat} {x:V} (hi:fm.ns[i]?=some n) (hv:vs[i]?=some (some x)) (I:Inv D fm T s H vs):∃ mc v,s.heap.Ns fm.L mc/\mc n=some v/\VRel T x v:=by
 obtain ⟨⟨mc,N,F,l,c,nw,nd,lo⟩,b,g,os⟩:=I
 obtain ⟨v,h1,h2⟩:=l.get hi hv
 exact ⟨mc,v,F.ns,h1,h2⟩
theorem Inv.enter (I:Inv D fm T s H vs) (ns':List Str) (nd':ns'.Nodup):∃ F',F'.objs.size=s.heap.objs.size /\
  (∀ (L':Addr) (h':Heap) (tk:Tok) (mc:Str->Option Value) (vs':List (Option V)),s.heap.objs.size<=L'->h'.Ns L' mc->(∀ b o,s.heap.get? b=some o->h'.get? b=some o)->LocRel T mc ns' vs'->
   Inv D ⟨F',L',s.gens,s.os,ns',nd'⟩ T { s with heap:=h',toks:=tk } H vs') /\
  (∀ L' T' s' H' vs' gs',GOk fm.gs gs'->Sub T T'->Inv D ⟨F',L',gs',s.os,ns',nd'⟩ T' s' H' vs'->Inv D fm T' s' H' vs)/\(∀ b o,F'.get? b=some o->s.heap.get? b=some o) /\
  (∀ b o,fm.F.get? b=some o->F'.get? b=some o):=by
 obtain ⟨⟨mc,N,F,l,c,n,nd,lo⟩,B,g,os⟩:=I
 have nm:∀ b o,fm.F.get? b=some o->b ∉ (T++N).map (·.1):=fun b o e q=>by
  obtain ⟨p,hp,rfl⟩:=List.mem_map.mp q
  rw [(n p hp).2.2] at e; cases e
 have st:∀ b o,fm.F.get? b=some o->(hideAll s.heap ((T++N).map (·.1))).get? b=some o:=fun b o e=>hideAll_get _ (F.keep b o e) (nm b o e)
 have nL:fm.L ∉ (T++N).map (·.1):=fun q=>by
  obtain ⟨p,hp,e⟩:=List.mem_map.mp q
  exact (n p hp).2.1 e
 obtain ⟨oL,es,ep,hLo,r⟩:=F.ns
 have hLg:=hideAll_get _ hLo nL
 refine ⟨hideAll s.heap ((T++N).map (·.1)),hideAll_size _ _,fun L' h' tk mc' vs' hL hns k l'=>?_,fun L' T' s' H' vs' gs' hg hT I'=>?_,fun b o e=>of_hideAll _ e,st⟩
 ·refine ⟨⟨mc',N,⟨hns,fun b o e=>k b o (of_hideAll _ e),Nat.le_trans (Nat.le_of_eq (hideAll_size _ _)) hL⟩,l',c,fun p hp=>⟨k _ _ (n p hp).1,?_,hideAll_none _ (List.mem_map_of_mem hp)⟩,nd,lo⟩,B.keeps st,GOk.refl _,rfl⟩
  exact Nat.ne_of_lt (Nat.lt_of_lt_of_le (Heap.lt_size (n p hp).1) hL)
 ·obtain ⟨⟨mc',N',F',l',c',n',nd',lo'⟩,B',g',os'⟩:=I'
  refine ⟨⟨mc,N',⟨⟨oL,es,ep,F'.keep _ _ hLg,r⟩,fun b o e=>F'.keep b o (st b o e),F.above⟩,l.mono hT,c',fun p hp=>⟨(n' p hp).1,fun q=>?_,?_⟩,nd',lo'⟩,B,?_,os'.trans os⟩
  ·have:=(n' p hp).2.2; rw [q,hLg] at this; cases this
  ·cases q:fm.F.get? p.1 with
   | none=>rfl
   | some o=>have:=(n' p hp).2.2; rw [st _ _ q] at this; cases this
  ·refine ⟨fun i x e=>g'.1 i x (hg.1 i x e),fun i x hi e=>?_⟩
   by_cases hi':gs'.size<=i
   ·exact g'.2 i x hi' e
   ·have hlt:i < gs'.size:=Nat.not_le.mp hi'
    have e2:gs'[i]?=some gs'[i]:=Array.getElem?_eq_getElem hlt
    have e3:=g'.1 i _ e2
    rw [e] at e3
    cases e3
    exact hg.2 i _ hi e2
end
end Mine
end
section
namespace Mine
structure Rm (k:Nat) (A:Around):Prop where
 depth:A.depth+5 * k<=900
 units:A.units+60 * k<=9000
 handled:A.handled=none
 guards:A.guards=some []
structure EnvOk (fm:Fm) (env:Env):Prop where
 kind:env.scope.kind=.function
 loc:env.locals=fm.L
 glob:env.globals=mainGlobals
 blt:env.builtins=builtinsNs
inductive Out (D:Wd) (fm:Fm) (T:Led) (vs:List (Option V)) (Q:V->HL->Prop) (v:Value) (s':Shared):Prop where
 | mk (T':Led) (x:V) (H':HL) (st:Sub T T') (I:Inv D fm T' s' H' vs) (r:VRel T' x v) (q:Q x H')
inductive OutL (D:Wd) (fm:Fm) (T:Led) (vs:List (Option V)) (Q:List V->HL->Prop) (l:List Value) (s':Shared):Prop where
 | mk (T':Led) (xs:List V) (H':HL) (st:Sub T T') (I:Inv D fm T' s' H' vs) (r:VRels T' xs l) (q:Q xs H')
inductive OutB (D:Wd) (fm:Fm) (T:Led) (vs:List (Option V)) (Q:Bool->HL->Prop) (b:Bool) (s':Shared):Prop where
 | mk (T':Led) (H':HL) (st:Sub T T') (I:Inv D fm T' s' H' vs) (q:Q b H')
inductive OutS (D:Wd) (fm:Fm) (T:Led) (vs:List (Option V)) (Q:HL->Prop) (s':Shared):Prop where
 | mk (T':Led) (H':HL) (st:Sub T T') (I:Inv D fm T' s' H' vs) (q:Q H')
inductive OutM (D:Wd) (fm:Fm) (T:Led) (vs:List (Option V)) (Q:V->List V->HL->Prop) (r:Value×List Value) (s':Shared):Prop where
 | mk (T':Led) (f:V) (fx:List V) (H':HL) (st:Sub T T') (I:Inv D fm T' s' H' vs) (rf:VRel T' f r.1) (rx:VRels T' fx r.2) (q:Q f fx H')
inductive Fl where
 | next | brk | cont
 | ret (x:V)
inductive FlRel (T:Led):Fl->Flow->Prop where
 | next:FlRel T .next .next
 | brk:FlRel T .brk .brk
 | cont:FlRel T .cont .cont
 | ret {x:V} {v:Value}:VRel T x v->FlRel T (.ret x) (.ret v)
inductive OutF (D:Wd) (fm:Fm) (T:Led) (Q:Fl->HL->List (Option V)->Prop) (f:Flow) (s':Shared):Prop where
 | mk (T':Led) (fl:Fl) (H':HL) (vs':List (Option V)) (st:Sub T T') (I:Inv D fm T' s' H' vs') (r:FlRel T' fl f) (q:Q fl H' vs')
noncomputable abbrev NoE:Value->Shared->Prop:=fun _ _=>False
structure EV (D:Wd) (fm:Fm) (A:Around) (env:Env) (e:Expr) (H:HL) (vs:List (Option V)) (Q:V->HL->Prop):Prop where
 run:EnvOk fm env->∀ T s,Inv D fm T s H vs->wpAny (model D.prog D.w) A (eval e env) (Out D fm T vs Q) NoE s
structure EL (D:Wd) (fm:Fm) (A:Around) (env:Env) (es:List Expr) (H:HL) (vs:List (Option V)) (Q:List V->HL->Prop):Prop where
 run:EnvOk fm env->∀ T s,Inv D fm T s H vs->∀ pos,wpAny (model D.prog D.w) A (spliced (backTo pos (starEach es env))) (OutL D fm T vs Q) NoE s
structure EB (D:Wd) (fm:Fm) (A:Around) (env:Env) (e:Expr) (H:HL) (vs:List (Option V)) (Q:Bool->HL->Prop):Prop where
 run:EnvOk fm env->∀ T s,Inv D fm T s H vs->wpAny (model D.prog D.w) A (isTrue e env (eval e env)) (OutB D fm T vs Q) NoE s
structure CL (D:Wd) (A:Around) (f:V) (xs:List V) (H:HL) (Q:V->HL->Prop):Prop where
 run:∀ fm T s vs fv ws,Inv D fm T s H vs->VRel T f fv->VRels T xs ws->wpAny (model D.prog D.w) A (call fv ws) (Out D fm T vs Q) NoE s
structure EX (D:Wd) (fm:Fm) (A:Around) (env:Env) (st:Stmt) (H:HL) (vs:List (Option V)) (Q:Fl->HL->List (Option V)->Prop):Prop where
 run:EnvOk fm env->∀ T s,Inv D fm T s H vs->wpAny (model D.prog D.w) A (exec st env) (OutF D fm T Q) NoE s
structure XS (D:Wd) (fm:Fm) (A:Around) (env:Env) (st:List Stmt) (H:HL) (vs:List (Option V)) (Q:Fl->HL->List (Option V)->Prop):Prop where
 run:EnvOk fm env->∀ T s,Inv D fm T s H vs->wpAny (model D.prog D.w) A (execs st env) (OutF D fm T Q) NoE s
@[reducible] noncomputable def thenE (D:Wd) (fm:Fm) (A:Around) (env:Env) (r:Expr) (vs:List (Option V)) (K:V->V->HL->Prop):V->HL->Prop:=fun x H₁=>EV D fm A env r H₁ vs (K x)
@[reducible] noncomputable def notQ (Q:Bool->HL->Prop):Bool->HL->Prop:=fun b H=>Q (!b) H
@[reducible] noncomputable def conQ (Q:List V->HL->Prop) (x:V):List V->HL->Prop:=fun xs H=>Q (x::xs) H
@[reducible] noncomputable def conP (D:Wd) (fm:Fm) (A:Around) (env:Env) (es:List Expr) (vs:List (Option V)) (Q:List V->HL->Prop):V->HL->Prop:=fun x H₁=>EL D fm A env es H₁ vs (conQ Q x)
@[reducible] noncomputable def tupQ (Q:V->HL->Prop):List V->HL->Prop:=fun xs H=>xs.length<=sizeLine/\Q (.tup xs) H
@[reducible] noncomputable def lisQ (Q:V->HL->Prop):List V->HL->Prop:=fun xs H=>xs.length<=sizeLine/\∀ a,Q (.ref a) ((a,.list xs)::H)
@[reducible] noncomputable def nxt (D:Wd) (fm:Fm) (A:Around) (env:Env) (rest:List Stmt) (Q:Fl->HL->List (Option V)->Prop):Fl->HL->List (Option V)->Prop:=fun fl H vs=>match fl with
 | .next=>XS D fm A env rest H vs Q
 | f=>Q f H vs
@[reducible] noncomputable def retQ (vs:List (Option V)) (Q:Fl->HL->List (Option V)->Prop):V->HL->Prop:=fun x H=>Q (.ret x) H vs
@[reducible] noncomputable def stepQ (vs:List (Option V)) (Q:Fl->HL->List (Option V)->Prop):HL->Prop:=fun H=>Q .next H vs
@[reducible] noncomputable def asgQ (vs:List (Option V)) (i:Nat) (Q:Fl->HL->List (Option V)->Prop):V->HL->Prop:=fun y H=>Q .next H (vs.set i (some y))
inductive AsgC (vs:List (Option V)) (c:Addr) (Q:Fl->HL->List (Option V)->Prop) (y:V) (H:HL):Prop where
 | mk (o₀:Option V) (R:HL) (e:Ext c (.cell o₀) H R) (q:Q .next ((c,.cell (some y))::R) vs)
inductive IfX (D:Wd) (fm:Fm) (A:Around) (env:Env) (body orelse:List Stmt) (vs:List (Option V)) (Q:Fl->HL->List (Option V)->Prop) (b:Bool) (H:HL):Prop where
 | mk (t:b=true->XS D fm A env body H vs Q) (f:b=false->XS D fm A env orelse H vs Q)
inductive IfE (D:Wd) (fm:Fm) (A:Around) (env:Env) (body orelse:Expr) (vs:List (Option V)) (Q:V->HL->Prop) (b:Bool) (H:HL):Prop where
 | mk (t:b=true->EV D fm A env body H vs Q) (f:b=false->EV D fm A env orelse H vs Q)
inductive AndB (D:Wd) (fm:Fm) (A:Around) (env:Env) (e:Expr) (vs:List (Option V)) (Q:Bool->HL->Prop) (b:Bool) (H:HL):Prop where
 | mk (t:b=true->EB D fm A env e H vs Q) (f:b=false->Q false H)
inductive OrB (D:Wd) (fm:Fm) (A:Around) (env:Env) (e:Expr) (vs:List (Option V)) (Q:Bool->HL->Prop) (b:Bool) (H:HL):Prop where
 | mk (f:b=false->EB D fm A env e H vs Q) (t:b=true->Q true H)
section
variable {D:Wd} {fm:Fm} {A:Around} {env:Env} {H:HL} {vs:List (Option V)} {T T':Led} {s:Shared}
theorem Out.mono {Q Q':V->HL->Prop} {v:Value} {s':Shared} (hq:∀ x H,Q x H->Q' x H):Out D fm T vs Q v s'->Out D fm T vs Q' v s'
 | ⟨T',x,H',h1,h2,h3,h4⟩=>⟨T',x,H',h1,h2,h3,hq _ _ h4⟩
theorem Out.sub {Q:V->HL->Prop} {v:Value} {s':Shared} (h:Sub T T'):Out D fm T' vs Q v s'->Out D fm T vs Q v s'
 | ⟨T',x,H',h1,h2,h3,h4⟩=>⟨T',x,H',h.trans h1,h2,h3,h4⟩
theorem OutB.sub {Q:Bool->HL->Prop} {v:Bool} {s':Shared} (h:Sub T T'):OutB D fm T' vs Q v s'->OutB D fm T vs Q v s'
 | ⟨T',H',h1,h2,h4⟩=>⟨T',H',h.trans h1,h2,h4⟩
theorem OutF.sub {Q:Fl->HL->List (Option V)->Prop} {v:Flow} {s':Shared} (h:Sub T T'):OutF D fm T' Q v s'->OutF D fm T Q v s'
 | ⟨T',x,H',vs',h1,h2,h3,h4⟩=>⟨T',x,H',vs',h.trans h1,h2,h3,h4⟩
theorem noE {E:Value->Shared->Prop}:∀ e s,NoE e s->E e s:=fun _ _ h=>h.elim
theorem wpNoE {α:Type} {t:Sem α} {Q Q':α->Shared->Prop} {E:Value->Shared->Prop} (h:wpAny (model D.prog D.w) A t Q NoE s) (hq:∀ a s',Q a s'->Q' a s'):wpAny (model D.prog D.w) A t Q' E s:=
 wpAny_mono h hq noE
theorem EV.mono {e:Expr} {Q Q':V->HL->Prop} (h:EV D fm A env e H vs Q) (hq:∀ x H,Q x H->Q' x H):EV D fm A env e H vs Q':=
 ⟨fun he T s I=>wpNoE (h.run he T s I) fun _ _=>Out.mono hq⟩
theorem EX.mono {st:Stmt} {Q Q':Fl->HL->List (Option V)->Prop} (h:EX D fm A env st H vs Q) (hq:∀ x H vs,Q x H vs->Q' x H vs):EX D fm A env st H vs Q':=
 ⟨fun he T s I=>wpNoE (h.run he T s I) fun _ _ oo=>by obtain ⟨T',x,H',vs',h1,h2,h3,h4⟩:=oo; exact ⟨T',x,H',vs',h1,h2,h3,hq _ _ _ h4⟩⟩
theorem EV.perm {e:Expr} {H':HL} {Q:V->HL->Prop} (p:H.Perm H') (h:EV D fm A env e H' vs Q):EV D fm A env e H vs Q:=⟨fun he T s I=>h.run he T s (I.perm p)⟩
theorem XS.perm {st:List Stmt} {H':HL} {Q:Fl->HL->List (Option V)->Prop} (p:H.Perm H') (h:XS D fm A env st H' vs Q):XS D fm A env st H vs Q:=⟨fun he T s I=>h.run he T s (I.perm p)⟩
theorem CL.perm {f:V} {xs:List V} {H':HL} {Q:V->HL->Prop} (p:H.Perm H') (h:CL D A f xs H' Q):CL D A f xs H Q:=⟨fun fm T s vs fv ws I=>h.run fm T s vs fv ws (I.perm p)⟩
theorem XS.forget {st:List Stmt} {a:Addr} {o:AObj} {R:HL} {Q:Fl->HL->List (Option V)->Prop} (e:Ext a o H R) (h:XS D fm A env st R vs Q):XS D fm A env st H vs Q:=⟨fun he T s I=>h.run he T s (I.forget e)⟩
theorem EV.loc {x:Str} {pos:Pos} {Q:V->HL->Prop} {v:V} {i:Nat} (hk:env.scope.names.lookup x=some .local) (hi:fm.ns[i]?=some x) (hv:vs[i]?=some (some v)) (hq:Q v H)
  (hd:(x==("__debug__":Str))=false:=by decide):EV D fm A env (.Name x pos) H vs Q:=⟨fun he T s I=>by
 obtain ⟨mc,w,h1,h2,h3⟩:=I.local hi hv
 exact wpAny_Name (wpAny_loadName_local he.kind hk (he.loc ▸ h1) h2 ⟨T,v,H,.refl _,I,h3,hq⟩) hd⟩
theorem cell_of (I:Inv D fm T s H vs) {c:Addr} {v:V} (hm:(c,.cell (some v))∈H):∃ w,s.heap.IsCell c (some w)/\VRel T v w:=by
 obtain ⟨b,hc,hb⟩:=I.read hm
 cases hc with
 | cell hd hr=>exact ⟨_,⟨_,(hb _ (.head _)).1,hd⟩,hr⟩
theorem EV.cell {x:Str} {pos:Pos} {Q:V->HL->Prop} {v:V} {c:Addr} (hk:env.scope.names.lookup x=some .cell) (hc:env.cells.lookup x=some c) (hm:(c,.cell (some v))∈H) (hq:Q v H)
  (hd:(x==("__debug__":Str))=false:=by decide):EV D fm A env (.Name x pos) H vs Q:=⟨fun he T s I=>by
 obtain ⟨w,h1,h2⟩:=cell_of I hm
 exact wpAny_Name (wpAny_loadName_cell he.kind hk hc h1 ⟨T,v,H,.refl _,I,h2,hq⟩) hd⟩
theorem EV.free {x:Str} {pos:Pos} {Q:V->HL->Prop} {v:V} {c:Addr} (hk:env.scope.names.lookup x=some .free) (hc:env.cells.lookup x=some c) (hm:(c,.cell (some v))∈H) (hq:Q v H)
  (hd:(x==("__debug__":Str))=false:=by decide) (hn:(x==("__classdict__":Str))=false:=by decide):EV D fm A env (.Name x pos) H vs Q:=⟨fun he T s I=>by
 obtain ⟨w,h1,h2⟩:=cell_of I hm
 exact wpAny_Name (wpAny_loadName_free he.kind hk hc h1 ⟨T,v,H,.refl _,I,h2,hq⟩ hn) hd⟩
theorem EV.glob {x:Str} {pos:Pos} {Q:V->HL->Prop} {u:Value} {y:V} (hk:env.scope.names.lookup x=some .globalImplicit) (e:nsIn D.K mainGlobals x=some (some u)) (hy:∀ T,VRel T y u) (hq:Q y H)
  (hd:(x==("__debug__":Str))=false:=by decide):EV D fm A env (.Name x pos) H vs Q:=⟨fun he T s I=>
 Name_function_global he.kind hk (loadGlobal_global (env:=env) (by rw [he.glob]; exact I.base.t.g.keeps I.keep) (mg_of I.base.k I.base.t.g e) ⟨T,y,H,.refl _,I,hy T,hq⟩) hd⟩
theorem EV.bltn {x:Str} {pos:Pos} {Q:V->HL->Prop} {u:Value} (hk:env.scope.names.lookup x=some .globalImplicit) (e:nsIn D.K mainGlobals x=some none) (hv:bootBuiltins x=some u) (hn:x≠"__name__") (hq:Q (.raw u) H)
  (hd:(x==("__debug__":Str))=false:=by decide):EV D fm A env (.Name x pos) H vs Q:=⟨fun he T s I=>
 Name_function_global he.kind hk (loadGlobal_builtin (env:=env) (by rw [he.glob]; exact I.base.t.g.keeps I.keep) (mg_none_of I.base.k I.base.t.g e) (by rw [he.blt]; exact I.base.t.b.keeps I.keep)
  ((I.base.t.builtins x hn).trans hv) ⟨T,.raw u,H,.refl _,I,.raw u,hq⟩) hd⟩
theorem EV.int {i:Int} {k:Nat} {pos:Pos} {Q:V->HL->Prop} (hq:Q (.int i) H):EV D fm A env (.Constant (.int i) k pos) H vs Q:=
 ⟨fun _ T _ I=>wpAny_Constant_int ⟨T,_,_,.refl _,I.toks,.int _ _,hq⟩⟩
theorem EV.str {x:Str} {k:Nat} {pos:Pos} {Q:V->HL->Prop} (hq:Q (.str x) H):EV D fm A env (.Constant (.str x) k pos) H vs Q:=
 ⟨fun _ T _ I=>wpAny_Constant_str ⟨T,_,_,.refl _,I.toks,.str _ _,hq⟩⟩
theorem EV.cnone {k:Nat} {pos:Pos} {Q:V->HL->Prop} (hq:Q .none H):EV D fm A env (.Constant .none k pos) H vs Q:=
 ⟨fun _ T _ I=>wpAny_Constant_none ⟨T,_,_,.refl _,I,.none,hq⟩⟩
theorem EV.bool {b:Bool} {k:Nat} {pos:Pos} {Q:V->HL->Prop} (hq:Q (.bool b) H):EV D fm A env (.Constant (.bool b) k pos) H vs Q:=
 ⟨fun _ T _ I=>wpAny_Constant_bool ⟨T,_,_,.refl _,I,.bool _,hq⟩⟩
inductive Bin:Operator->V->V->V->Prop where
 | add {a b:Int}:Bin .Add (.int a) (.int b) (.int (a+b))
 | sub {a b:Int}:Bin .Sub (.int a) (.int b) (.int (a - b))
 | mul {a b:Int}:IntMulOk a b->Bin .Mult (.int a) (.int b) (.int (a * b))
 | fdiv {a b:Int}:b≠0->Builtin.divisionGoesByPylong a b=false->Bin .FloorDiv (.int a) (.int b) (.int (a.fdiv b))
 | mod {a b:Int}:b≠0->Bin .Mod (.int a) (.int b) (.int (a.fmod b))
 | pow {a b:Int}:0<=b->(Builtin.Int.intBits a:Int) * b<=2 ^ 27->Bin .Pow (.int a) (.int b) (.int (a ^ b.toNat))
 | cat {a b:Str}:a.length+b.length<=sizeLine->Bin .Add (.str a) (.str b) (.str (a++b))
theorem Bin.run {op:Operator} {x y z:V} {v w:Value} {Q:V->HL->Prop} (h:Bin op x y z) (I:Inv D fm T s H vs) (hx:VRel T x v) (hy:VRel T y w) (hq:Q z H) :
  wpAny (model D.prog D.w) A (binaryOp op v w) (Out D fm T vs Q) NoE s:=by
 have ok:∀ {tk t:Tok} {i:Int},Q (.int i) H->Out D fm T vs Q (.int i t) { s with toks:=tk }:=fun q=>⟨T,_,_,.refl _,I.toks,.int _ _,q⟩
 cases h with
 | add=>obtain ⟨_,rfl⟩:=hx.inv; obtain ⟨_,rfl⟩:=hy.inv; exact add_int (ok hq)
 | sub=>obtain ⟨_,rfl⟩:=hx.inv; obtain ⟨_,rfl⟩:=hy.inv; exact sub_int (ok hq)
 | mul hm=>obtain ⟨_,rfl⟩:=hx.inv; obtain ⟨_,rfl⟩:=hy.inv; exact PyProof.Rows.mul_int (ok hq) hm
 | fdiv hb hl=>obtain ⟨_,rfl⟩:=hx.inv; obtain ⟨_,rfl⟩:=hy.inv; exact AutoIntOps.floordiv_1 (by simpa using hb) (by rw [hl]; exact Bool.false_ne_true) (ok hq)
 | mod hb=>obtain ⟨_,rfl⟩:=hx.inv; obtain ⟨_,rfl⟩:=hy.inv; exact mod_int hb (ok hq)
 | pow hn hs=>obtain ⟨_,rfl⟩:=hx.inv; obtain ⟨_,rfl⟩:=hy.inv; exact pow_int hn hs (ok hq)
 | cat hs=>obtain ⟨_,rfl⟩:=hx.inv; obtain ⟨_,rfl⟩:=hy.inv; exact PyProof.Rows.add_str (fun t' tk=>⟨T,_,_,.refl _,I.toks,.str _ _,hq⟩) hs
inductive BinQ (op:Operator) (Q:V->HL->Prop) (x y:V) (H:HL):Prop where
 | mk (z:V) (h:Bin op x y z) (q:Q z H)
inductive NegQ (Q:V->HL->Prop) (x:V) (H:HL):Prop where
 | mk (i:Int) (e:x=.int i) (q:Q (.int (-i)) H)
theorem EV.bin {l r:Expr} {op:Operator} {pos:Pos} {Q:V->HL->Prop} (h:EV D fm A env l H vs (thenE D fm A env r vs (BinQ op Q))) :
  EV D fm A env (.BinOp l op r pos) H vs Q:=⟨fun he T s I=>wpAny_BinOp (wpNoE (h.run he T s I) fun v s₁ oo=>by obtain ⟨T₁,x,H₁,st₁,I₁,hx,h₁⟩:=oo; exact wpNoE (h₁.run he T₁ s₁ I₁) fun w s₂ oo=>by obtain ⟨T₂,y,H₂,st₂,I₂,hy,z,hz,hq⟩:=oo; exact wpNoE (hz.run I₂ (hx.mono st₂) hy hq) fun _ _ o=>o.sub (st₁.trans st₂))⟩
theorem EV.neg {e:Expr} {pos:Pos} {Q:V->HL->Prop} (h:EV D fm A env e H vs (NegQ Q)):EV D fm A env (.UnaryOp .USub e pos) H vs Q:=⟨fun he T s I=>
 UnaryOp_ (wpNoE (h.run he T s I) fun v s₁ oo=>by obtain ⟨T₁,x,H₁,st₁,I₁,hx,i,e,hq⟩:=oo; exact by subst e; obtain ⟨_,rfl⟩:=hx.inv; exact PyProof.Rows.neg_int ⟨T₁,_,_,st₁,I₁.toks,.int _ _,hq⟩)⟩
inductive Cmp:CmpOp->V->V->Bool->Prop where
 | eq {a b:Int}:Cmp .Eq (.int a) (.int b) (a==b)
 | ne {a b:Int}:Cmp .NotEq (.int a) (.int b) (a != b)
 | lt {a b:Int}:Cmp .Lt (.int a) (.int b) (decide (a < b))
 | gt {a b:Int}:Cmp .Gt (.int a) (.int b) (decide (b < a))
 | le {a b:Int}:Cmp .LtE (.int a) (.int b) (decide (a<=b))
 | ge {a b:Int}:Cmp .GtE (.int a) (.int b) (decide (b<=a))
 | eqS {a b:Str}:Cmp .Eq (.str a) (.str b) (a==b)
 | neS {a b:Str}:Cmp .NotEq (.str a) (.str b) (a != b)
 | isN:Cmp .Is .none .none true
 | isRN {a:Addr}:Cmp .Is (.ref a) .none false
 | notN:Cmp .IsNot .none .none false
 | notRN {a:Addr}:Cmp .IsNot (.ref a) .none true
theorem Cmp.run {op:CmpOp} {x y:V} {b:Bool} {v w:Value} {Q:V->HL->Prop} (h:Cmp op x y b) (I:Inv D fm T s H vs) (hx:VRel T x v) (hy:VRel T y w) (hq:Q (.bool b) H) :
  wpAny (model D.prog D.w) A (compareOp op v w) (Out D fm T vs Q) NoE s:=by
 have ok:∀ {b:Bool},Q (.bool b) H->Out D fm T vs Q (.bool b) s:=fun q=>⟨T,_,_,.refl _,I,.bool _,q⟩
 cases h with
 | eq=>obtain ⟨_,rfl⟩:=hx.inv; obtain ⟨_,rfl⟩:=hy.inv; exact eq_int (ok hq)
 | ne=>obtain ⟨_,rfl⟩:=hx.inv; obtain ⟨_,rfl⟩:=hy.inv; exact ne_int (ok hq)
 | lt=>obtain ⟨_,rfl⟩:=hx.inv; obtain ⟨_,rfl⟩:=hy.inv; exact lt_int (ok hq)
 | gt=>obtain ⟨_,rfl⟩:=hx.inv; obtain ⟨_,rfl⟩:=hy.inv; exact gt_int (ok hq)
 | le=>obtain ⟨_,rfl⟩:=hx.inv; obtain ⟨_,rfl⟩:=hy.inv; exact PyProof.Rows.le_int (ok hq)
 | ge=>obtain ⟨_,rfl⟩:=hx.inv; obtain ⟨_,rfl⟩:=hy.inv; exact PyProof.Rows.ge_int (ok hq)
 | eqS=>obtain ⟨_,rfl⟩:=hx.inv; obtain ⟨_,rfl⟩:=hy.inv; exact PyProof.Rows.eq_str (ok hq)
 | neS=>obtain ⟨_,rfl⟩:=hx.inv; obtain ⟨_,rfl⟩:=hy.inv; exact PyProof.Rows.ne_str (ok hq)
 | isN=>obtain ⟨_,rfl⟩:=hx.inv; obtain ⟨_,rfl⟩:=hy.inv; exact is_none (ok hq)
 | isRN=>obtain ⟨_,rfl⟩:=hx.inv; obtain ⟨_,rfl⟩:=hy.inv; exact is_none (ok hq)
 | notN=>obtain ⟨_,rfl⟩:=hx.inv; obtain ⟨_,rfl⟩:=hy.inv; exact isNot_none (ok hq)
 | notRN=>obtain ⟨_,rfl⟩:=hx.inv; obtain ⟨_,rfl⟩:=hy.inv; exact isNot_none (ok hq)
structure CP (D:Wd) (A:Around) (op:CmpOp) (x y:V) (H:HL) (Q:V->HL->Prop):Prop where
 run:∀ fm T s vs v w,Inv D fm T s H vs->VRel T x v->VRel T y w->wpAny (model D.prog D.w) A (compareOp op v w) (Out D fm T vs Q) NoE s
theorem CP.of {op:CmpOp} {x y:V} {b:Bool} {Q:V->HL->Prop} (h:Cmp op x y b) (hq:Q (.bool b) H):CP D A op x y H Q:=⟨fun _ _ _ _ _ _ I hx hy=>h.run I hx hy hq⟩
@[reducible] noncomputable def cmpQ (D:Wd) (A:Around) (op:CmpOp) (Q:V->HL->Prop) (x:V):V->HL->Prop:=fun y H=>CP D A op x y H Q
theorem EV.cmp {l r:Expr} {op:CmpOp} {pos:Pos} {Q:V->HL->Prop} (h:EV D fm A env l H vs (thenE D fm A env r vs (cmpQ D A op Q)))
  (hm:behindInMarks op r=false:=by with_unfolding_all rfl):EV D fm A env (.Compare l [op] [r] pos) H vs Q:=⟨fun he T s I=>wpAny_Compare1 (wpNoE (h.run he T s I) fun v s₁ oo=>by obtain ⟨T₁,x,H₁,st₁,I₁,hx,h₁⟩:=oo; exact wpNoE (h₁.run he T₁ s₁ I₁) fun w s₂ oo=>by obtain ⟨T₂,y,H₂,st₂,I₂,hy,h₂⟩:=oo; exact wpNoE (h₂.run _ _ _ _ _ _ I₂ (hx.mono st₂) hy) fun _ _ o=>o.sub (st₁.trans st₂)) hm⟩
inductive Tru:V->Bool->Prop where
 | bool (b:Bool):Tru (.bool b) b
 | int (i:Int):Tru (.int i) (i != 0)
 | none:Tru .none false
theorem Tru.run {x:V} {b:Bool} {v:Value} {Q:Bool->Shared->Prop} (h:Tru x b) (hx:VRel T x v) (hq:Q b s):wpAny (model D.prog D.w) A (truthy v) Q NoE s:=by
 cases h with
 | bool b=>obtain ⟨_,rfl⟩:=hx.inv; exact wpAny_truthy_bool hq
 | int i=>obtain ⟨_,rfl⟩:=hx.inv; exact PyProof.Rows.truthy_int hq
 | none=>obtain ⟨_,rfl⟩:=hx.inv; exact truthy_none hq
inductive ValQ (Q:Bool->HL->Prop) (x:V) (H:HL):Prop where
 | mk (b:Bool) (t:Tru x b) (q:Q b H)
inductive OrV (D:Wd) (fm:Fm) (A:Around) (env:Env) (e:Expr) (vs:List (Option V)) (Q:V->HL->Prop) (v:V) (H:HL):Prop where
 | mk (b:Bool) (r:Tru v b) (t:b=true->Q v H) (f:b=false->EV D fm A env e H vs Q)
inductive AndV (D:Wd) (fm:Fm) (A:Around) (env:Env) (e:Expr) (vs:List (Option V)) (Q:V->HL->Prop) (v:V) (H:HL):Prop where
 | mk (b:Bool) (r:Tru v b) (f:b=false->Q v H) (t:b=true->EV D fm A env e H vs Q)
theorem EB.val {e:Expr} {Q:Bool->HL->Prop} (h:EV D fm A env e H vs (ValQ Q))
  (he:∀ whole,isTrue e env whole=(do let v <- whole; standAt e.pos; holding [v] (truthy v)):=by intro _; rfl):EB D fm A env e H vs Q:=⟨fun hE T s I=>
 isTrue_plain (wpNoE (h.run hE T s I) fun v s₁ oo=>by obtain ⟨T₁,x,H₁,st₁,I₁,hx,b,hb,hq⟩:=oo; exact hb.run hx ⟨T₁,H₁,st₁,I₁,hq⟩) (he _)⟩
theorem EB.cmp {l r:Expr} {op:CmpOp} {pos:Pos} {Q:Bool->HL->Prop} (h:EV D fm A env l H vs (thenE D fm A env r vs (cmpQ D A op (ValQ Q))))
  (hm:behindInMarks op r=false:=by with_unfolding_all rfl):EB D fm A env (.Compare l [op] [r] pos) H vs Q:=⟨fun he T s I=>wpAny_isTrue_Compare1 (wpNoE (h.run he T s I) fun v s₁ oo=>by obtain ⟨T₁,x,H₁,st₁,I₁,hx,h₁⟩:=oo; exact wpNoE (h₁.run he T₁ s₁ I₁) fun w s₂ oo=>by obtain ⟨T₂,y,H₂,st₂,I₂,hy,h₂⟩:=oo; exact wpNoE (h₂.run _ _ _ _ _ _ I₂ (hx.mono st₂) hy) fun _ _ oo=>by obtain ⟨T₃,z,H₃,st₃,I₃,hz,b,hb,hq⟩:=oo; exact hb.run hz ⟨T₃,H₃,(st₁.trans st₂).trans st₃,I₃,hq⟩) hm⟩
theorem bool_whole {op:BoolOp} {l:List Expr} {pos:Pos} {w w':Sem Value}:isTrue (.BoolOp op l pos) env w=isTrue (.BoolOp op l pos) env w':=by rw [arm_isTrue_BoolOp,arm_isTrue_BoolOp]
theorem EB.and {x:Expr} {rest:List Expr} {pos:Pos} {Q:Bool->HL->Prop} (h:EB D fm A env x H vs (AndB D fm A env (.BoolOp .And rest pos) vs Q)) :
  EB D fm A env (.BoolOp .And (x::rest) pos) H vs Q:=⟨fun he T s I=>
 isTrue_and (wpNoE (h.run he T s I) fun b s' oo=>by
  obtain ⟨T',H',st,I',ht,hf⟩:=oo
  cases b with
  | false=>exact ⟨T',H',st,I',hf rfl⟩
  | true=>exact wpNoE (bool_whole ▸ (ht rfl).run he T' s' I') fun _ _ o=>o.sub st)⟩
theorem EB.and0 {pos:Pos} {Q:Bool->HL->Prop} (h:Q true H):EB D fm A env (.BoolOp .And [] pos) H vs Q:=⟨fun _ T _ I=>isTrue_and_nil ⟨T,H,.refl _,I,h⟩⟩
theorem EB.or {x:Expr} {rest:List Expr} {pos:Pos} {Q:Bool->HL->Prop} (h:EB D fm A env x H vs (OrB D fm A env (.BoolOp .Or rest pos) vs Q)) :
  EB D fm A env (.BoolOp .Or (x::rest) pos) H vs Q:=⟨fun he T s I=>
 isTrue_or (wpNoE (h.run he T s I) fun b s' oo=>by
  obtain ⟨T',H',st,I',ht,hf⟩:=oo
  cases b with
  | true=>exact ⟨T',H',st,I',hf rfl⟩
  | false=>exact wpNoE (bool_whole ▸ (ht rfl).run he T' s' I') fun _ _ o=>o.sub st)⟩
theorem EB.or0 {pos:Pos} {Q:Bool->HL->Prop} (h:Q false H):EB D fm A env (.BoolOp .Or [] pos) H vs Q:=⟨fun _ T _ I=>isTrue_or_nil ⟨T,H,.refl _,I,h⟩⟩
theorem EV.ife {test body orelse:Expr} {pos:Pos} {Q:V->HL->Prop} (h:EB D fm A env test H vs (IfE D fm A env body orelse vs Q)) :
  EV D fm A env (.IfExp test body orelse pos) H vs Q:=⟨fun he T s I=>
 IfExp_ (wpAny_mono (h.run he T s I) (fun b s' oo=>by
  obtain ⟨T',H',st,I',ht,hf⟩:=oo
  cases b with
  | false=>exact wpAny_mono ((hf rfl).run he T' s' I') (fun _ _ o=>o.sub st) noE
  | true=>exact wpAny_mono ((ht rfl).run he T' s' I') (fun _ _ o=>o.sub st) noE) noE)⟩
theorem EV.or2 {x y:Expr} {pos:Pos} {Q:V->HL->Prop} (h:EV D fm A env x H vs (OrV D fm A env y vs Q)) :
  EV D fm A env (.BoolOp .Or [x,y] pos) H vs Q:=⟨fun he T s I=>wpAny_Or2 (wpNoE (h.run he T s I) fun v s₁ oo=>by obtain ⟨T₁,x,H₁,st₁,I₁,hx,b,hb,ht,hf⟩:=oo; exact hb.run hx (by
  cases b with
  | true=>exact ⟨T₁,x,H₁,st₁,I₁,hx,ht rfl⟩
  | false=>exact wpAny_mono ((hf rfl).run he _ _ I₁) (fun _ _ o=>o.sub st₁) noE))⟩
theorem EV.and2 {x y:Expr} {pos:Pos} {Q:V->HL->Prop} (h:EV D fm A env x H vs (AndV D fm A env y vs Q)) :
  EV D fm A env (.BoolOp .And [x,y] pos) H vs Q:=⟨fun he T s I=>wpAny_And2 (wpNoE (h.run he T s I) fun v s₁ oo=>by obtain ⟨T₁,x,H₁,st₁,I₁,hx,b,hb,ht,hf⟩:=oo; exact hb.run hx (by
  cases b with
  | false=>exact ⟨T₁,x,H₁,st₁,I₁,hx,ht rfl⟩
  | true=>exact wpAny_mono ((hf rfl).run he _ _ I₁) (fun _ _ o=>o.sub st₁) noE))⟩
theorem EL.nil {Q:List V->HL->Prop} (hq:Q [] H):EL D fm A env [] H vs Q:=⟨fun _ T _ I _=>wpAny_items_nil ⟨T,[],H,.refl _,I,.nil,hq⟩⟩
theorem EL.cons {e:Expr} {rest:List Expr} {Q:List V->HL->Prop} (h:EV D fm A env e H vs (conP D fm A env rest vs Q))
  (he:starEach (e::rest) env=(false,eval e env)::starEach rest env:=by rfl):EL D fm A env (e::rest) H vs Q:=⟨fun hE T s I pos=>wpAny_items_cons (wpNoE (h.run hE T s I) fun v s₁ oo=>by obtain ⟨T₁,x,H₁,st₁,I₁,hx,h₁⟩:=oo; exact wpNoE (h₁.run hE T₁ s₁ I₁ pos) fun ws s₂ oo=>by obtain ⟨T₂,xs,H₂,st₂,I₂,hxs,hq⟩:=oo; exact ⟨T₂,x::xs,H₂,st₁.trans st₂,I₂,.cons (hx.mono st₂) hxs,hq⟩) he⟩
theorem Inv.pushTup {ws:List Value} (I:Inv D fm T s H vs):Inv D fm ((s.heap.objs.size,{ cls:=.type "tuple",data:=.seq ws.toArray })::T)
  { s with heap:=s.heap.push { cls:=.type "tuple",data:=.seq ws.toArray } } H vs:=
 I.newTup (tk:=s.toks) (Heap.get?_push_size _ rfl) (Nat.le_refl _) fun _ _ e=>Heap.get?_push_of_some _ e
theorem Inv.pushList {xs:List V} {ws:List Value} (I:Inv D fm T s H vs) (h:VRels T xs ws):Inv D fm T
  { s with heap:=s.heap.push { cls:=.type "list",data:=.seq ws.toArray } } ((s.heap.objs.size,.list xs)::H) vs:=
 I.new (tk:=s.toks) (.list (n:=0) h) (fun p hp=>by
  rcases List.mem_cons.mp hp with rfl | hp
  ·exact ⟨Heap.get?_push_size _ rfl,Nat.le_refl _⟩
  ·cases hp) (by simp) fun _ _ e=>Heap.get?_push_of_some _ e
theorem EV.tuple {es:List Expr} {k:Nat} {pos:Pos} {Q:V->HL->Prop} (h:EL D fm A env es H vs (tupQ Q)):EV D fm A env (.Tuple es k pos) H vs Q:=⟨fun he T s I=>wpAny_Tuple (wpNoE (h.run he T s I pos) fun ws s₁ oo=>by obtain ⟨T₁,xs,H₁,st₁,I₁,hxs,hl,hq⟩:=oo; exact ⟨hxs.length ▸ hl,_,_,_,st₁.trans (Sub.cons _ _),I₁.pushTup,.tup (.head _) rfl rfl (hxs.mono (Sub.cons _ _)),hq⟩)⟩
theorem EV.list {es:List Expr} {pos:Pos} {Q:V->HL->Prop} (h:EL D fm A env es H vs (lisQ Q)):EV D fm A env (.List es pos) H vs Q:=⟨fun he T s I=>wpAny_List (wpNoE (h.run he T s I pos) fun ws s₁ oo=>by obtain ⟨T₁,xs,H₁,st₁,I₁,hxs,hl,hq⟩:=oo; exact ⟨hxs.length ▸ hl,_,_,_,st₁,I₁.pushList hxs,.ref _,hq _⟩)⟩
theorem XS.nil {Q:Fl->HL->List (Option V)->Prop} (h:Q .next H vs):XS D fm A env [] H vs Q:=⟨fun _ T _ I=>wpAny_execs_nil ⟨T,_,_,_,.refl _,I,.next,h⟩⟩
theorem XS.cons {st:Stmt} {rest:List Stmt} {Q:Fl->HL->List (Option V)->Prop} (h:EX D fm A env st H vs (nxt D fm A env rest Q)) :
  XS D fm A env (st::rest) H vs Q:=⟨fun he T s I=>wpAny_execs_cons (wpNoE (h.run he T s I) fun f s₁ oo=>by
 obtain ⟨T₁,fl,H₁,vs₁,st₁,I₁,hf,h₁⟩:=oo
 cases hf with
 | next=>exact wpNoE (h₁.run he T₁ s₁ I₁) fun _ _ o=>o.sub st₁
 | brk=>exact ⟨T₁,_,H₁,vs₁,st₁,I₁,.brk,h₁⟩
 | cont=>exact ⟨T₁,_,H₁,vs₁,st₁,I₁,.cont,h₁⟩
 | ret hr=>exact ⟨T₁,_,H₁,vs₁,st₁,I₁,.ret hr,h₁⟩)⟩
theorem EX.cont {pos:Pos} {Q:Fl->HL->List (Option V)->Prop} (h:Q .cont H vs):EX D fm A env (.Continue pos) H vs Q:=⟨fun _ T _ I=>wpAny_Continue ⟨T,_,_,_,.refl _,I,.cont,h⟩⟩
theorem EX.brk {pos:Pos} {Q:Fl->HL->List (Option V)->Prop} (h:Q .brk H vs):EX D fm A env (.Break pos) H vs Q:=⟨fun _ T _ I=>wpAny_Break ⟨T,_,_,_,.refl _,I,.brk,h⟩⟩
theorem EX.ret {e:Expr} {pos:Pos} {Q:Fl->HL->List (Option V)->Prop} (h:EV D fm A env e H vs (retQ vs Q)):EX D fm A env (.Return (some e) pos) H vs Q:=⟨fun he T s I=>wpAny_Return_some (wpNoE (h.run he T s I) fun v s₁ oo=>by obtain ⟨T₁,x,H₁,st₁,I₁,hx,hq⟩:=oo; exact ⟨T₁,_,H₁,vs,st₁,I₁,.ret hx,hq⟩)⟩
theorem EX.ifs {test:Expr} {body orelse:List Stmt} {pos:Pos} {Q:Fl->HL->List (Option V)->Prop} (h:EB D fm A env test H vs (IfX D fm A env body orelse vs Q)) :
  EX D fm A env (.If test body orelse pos) H vs Q:=⟨fun he T s I=>wpAny_If (wpNoE (h.run he T s I) fun b s' oo=>by
  obtain ⟨T',H',st,I',ht,hf⟩:=oo
  cases b with
  | false=>exact wpAny_mono ((hf rfl).run he T' s' I') (fun _ _ o=>o.sub st) noE
  | true=>exact wpAny_mono ((ht rfl).run he T' s' I') (fun _ _ o=>o.sub st) noE)⟩
theorem storeL {x:Str} {v:Value} {y:V} {i:Nat} {Q:Unit->Shared->Prop} {E:Value->Shared->Prop} (he:EnvOk fm env) (hk:env.scope.names.lookup x=some .local) (hi:fm.ns[i]?=some x) (I:Inv D fm T s H vs) (hy:VRel T y v)
  (h:∀ s',Inv D fm T s' H (vs.set i (some y))->Q () s'):wpAny (model D.prog D.w) A (storeName env x v) Q E s:=by
 obtain ⟨mc,N,F,r⟩:=I.ex
 refine wpAny_storeName_local hk (he.loc ▸ F.ns) (fun h' hn hs=>?_) (by rw [he.kind]; rfl)
 refine h _ (I.store hi hy (fun mc' hmc=>?_) (he.loc ▸ hs))
 rw [he.loc] at hn
 obtain ⟨o,es,ep,e1,e2,e3,e4⟩:=F.ns
 obtain ⟨o',es',ep',f1,f2,f3,f4⟩:=hmc
 have:mc'=mc:=by
  funext z
  rw [e1] at f1; cases f1
  rw [e2] at f2; cases f2
  rw [<- e4 z,<- f4 z]
 rw [this]; exact hn
theorem storeC {x:Str} {v:Value} {y:V} {c:Addr} {o₀:Option V} {R:HL} {Q:Unit->Shared->Prop} {E:Value->Shared->Prop} (he:EnvOk fm env) (hk:env.scope.names.lookup x=some .cell) (hc:env.cells.lookup x=some c) (hm:Ext c (.cell o₀) H R) (I:Inv D fm T s H vs) (hy:VRel T y v)
  (h:∀ s',Inv D fm T s' ((c,.cell (some y))::R) vs->Q () s'):wpAny (model D.prog D.w) A (storeName env x v) Q E s:=by
 obtain ⟨b,hcc,hb⟩:=I.read hm.mem
 have:∃ o v₀,b=[(c,o)]/\o.data=.cell v₀:=by cases hcc <;> exact ⟨_,_,rfl,by assumption⟩
 obtain ⟨o,v₀,rfl,hd⟩:=this
 have hg:=(hb _ (.head _)).1
 refine wpAny_storeName_cell he.kind hk hc ⟨o,hg,hd⟩ fun h' hv hs=>?_
 obtain ⟨o',ho',hd'⟩:=hv
 refine h _ (I.change (tk:=s.toks) (b:=[(c,o)]) (b':=[(c,o')]) hm (fun b₀ h0 _=>by cases h0 <;> rfl) (.cell hd' hy) (fun p hp=>?_) (by simp) (fun z ob e hz=>?_) fun p hp e=>?_)
 ·cases hp with
  | head=>exact ⟨ho',.inl (by simp)⟩
  | tail _ h=>cases h
 ·exact (hs.2 z fun q=>hz (by simp [q])).trans e
 ·cases hp with
  | head=>rw [hg] at e; cases e
  | tail _ h=>cases h
theorem EX.assign {x:Str} {p:Pos} {e:Expr} {pos:Pos} {i:Nat} {Q:Fl->HL->List (Option V)->Prop} (hk:env.scope.names.lookup x=some .local) (hi:fm.ns[i]?=some x)
  (h:EV D fm A env e H vs (asgQ vs i Q)) (hs:swapsWith e (some (.Name x p)) pos.line env=pure false:=by rfl):EX D fm A env (.Assign [.Name x p] e pos) H vs Q:=⟨fun he T s I=>wpAny_Assign_Name (wpNoE (h.run he T s I) fun v s₁ oo=>by obtain ⟨T₁,y,H₁,st₁,I₁,hy,hq⟩:=oo; exact storeL he hk hi I₁ hy fun s' I'=>⟨T₁,_,H₁,_,st₁,I',.next,hq⟩) hs⟩
theorem EX.assignC {x:Str} {p:Pos} {e:Expr} {pos:Pos} {c:Addr} {Q:Fl->HL->List (Option V)->Prop} (hk:env.scope.names.lookup x=some .cell) (hc:env.cells.lookup x=some c)
  (h:EV D fm A env e H vs (AsgC vs c Q)) (hs:swapsWith e (some (.Name x p)) pos.line env=pure false:=by rfl):EX D fm A env (.Assign [.Name x p] e pos) H vs Q:=⟨fun he T s I=>wpAny_Assign_Name (wpNoE (h.run he T s I) fun v s₁ oo=>by obtain ⟨T₁,y,H₁,st₁,I₁,hy,o₀,R,hm,hq⟩:=oo; exact storeC he hk hc hm I₁ hy fun s' I'=>⟨T₁,_,_,_,st₁,I',.next,hq⟩) hs⟩
end
end Mine
end
section
namespace Mine
section
variable {D:Wd} {fm:Fm} {A:Around} {env:Env} {H R:HL} {vs:List (Option V)} {T:Led} {s:Shared}
theorem Inv.listAt {a:Addr} {xs:List V} (I:Inv D fm T s H vs) (m:(a,.list xs)∈H):∃ ws n,s.heap.get? a=some (lObj ws n)/\VRels T xs ws:=by
 obtain ⟨b,hc,hb⟩:=I.read m
 cases hc with
 | list hr=>exact ⟨_,_,(hb _ (.head _)).1,hr⟩
theorem Inv.listAs {a:Addr} {xs ys:List V} {ws:List Value} {n:Nat} {f:Array Value->Array Value} {tk:Tok} (e:Ext a (.list xs) H R) (I:Inv D fm T s H vs) (hg:s.heap.get? a=some (lObj ws n))
  (hr:VRels T ys (f ws.toArray).toList):Inv D fm T { s with heap:=s.heap.update a (Obj.mapSeq f),toks:=tk } ((a,.list ys)::R) vs:=by
 have hu:=Heap.get?_update_self (Obj.mapSeq f) hg (by rfl)
 refine I.change (b:=[(a,lObj ws n)]) (b':=[(a,Obj.mapSeq f (lObj ws n))]) e (fun b₀ h0 _=>by cases h0; rfl) ?_ (fun p hp=>?_) (by simp) (fun z ob e hz=>?_) fun p hp e=>?_
 ·exact .list (ws:=(f ws.toArray).toList) (n:=if (f ws.toArray).size==ws.toArray.size then n else n+1) hr
 ·cases hp with
  | head=>exact ⟨hu,.inl (by simp)⟩
  | tail _ h=>cases h
 ·exact (Heap.get?_update_other _ _ fun q=>hz (by simp [q])).trans e
 ·cases hp with
  | head=>rw [hg] at e; cases e
  | tail _ h=>cases h
inductive Kp (D:Wd) (H:HL):V->Prop where
 | k {a:Addr}:keepIn D.K (.ref a)=true->Kp D H (.ref a)
 | blt {i:String}:Kp D H (.raw (.builtin i))
 | typ {i:String}:Kp D H (.raw (.type i))
 | fn {a:Addr} {o:Obj} {fd:FuncData}:(a,.raw o)∈H->o.data=.func fd->Kp D H (.ref a)
noncomputable abbrev Plain1 (es:List Expr) (env:Env):Prop:=match es with
 | []=>True
 | e::rest=>starEach (e::rest) env=(false,eval e env)::starEach rest env
@[reducible] noncomputable def calF (D:Wd) (A:Around) (fv:V) (fx:List V) (Q:V->HL->Prop):List V->HL->Prop:=fun xs H=>Kp D H fv/\CL D A fv (fx++xs) H Q
@[reducible] noncomputable def calQ (D:Wd) (A:Around) (fv:V) (Q:V->HL->Prop):List V->HL->Prop:=fun xs H=>Kp D H fv/\CL D A fv xs H Q
@[reducible] noncomputable def calP (D:Wd) (fm:Fm) (A:Around) (env:Env) (es:List Expr) (vs:List (Option V)) (Q:V->HL->Prop):V->HL->Prop:=fun fv H=>EL D fm A env es H vs (calQ D A fv Q)
@[reducible] noncomputable def metQ (D:Wd) (fm:Fm) (A:Around) (env:Env) (es:List Expr) (vs:List (Option V)) (Q:V->HL->Prop):V->List V->HL->Prop:=fun f fx H=>EL D fm A env es H vs (calF D A f fx Q)
theorem callW {f:Value} {first:List Value} {pos:Pos} {es:List Expr} {fv:V} {fx:List V} {Q:V->HL->Prop} (he:EnvOk fm env) (I:Inv D fm T s H vs) (hf:VRel T fv f) (hx:VRels T fx first)
  (h:EL D fm A env es H vs (calF D A fv fx Q)) (hs:Plain1 es env) (hp:(backTo pos (starEach es env)).any (·.1)=false) :
  wpAny (model D.prog D.w) A (callWith pos f first (backTo pos (starEach es env)) []) (Out D fm T vs Q) NoE s:=by
 have key:wpAny (model D.prog D.w) A (evalArgs f true (backTo pos (starEach es env)) []) (fun a s₁=>(∃ k,(k=Keeper.frame\/k=Keeper.machine\/k=Keeper.boundFrame)/\Looks (model D.prog D.w) s₁.heap (keeperOf f) k) /\
   wpAny (model D.prog D.w) A (call f (first++a.pos) a.kw) (Out D fm T vs Q) NoE s₁) NoE s:=by
  have fin:∀ ws s₁,OutL D fm T vs (calF D A fv fx Q) ws s₁->(∃ k,(k=Keeper.frame\/k=Keeper.machine\/k=Keeper.boundFrame)/\Looks (model D.prog D.w) s₁.heap (keeperOf f) k) /\
   wpAny (model D.prog D.w) A (call f (first++ws) []) (Out D fm T vs Q) NoE s₁:=fun ws s₁ oo=>by
   obtain ⟨T₁,xs,H₁,st₁,I₁,hxs,hk,hc⟩:=oo
   refine ⟨?_,wpNoE (hc.run _ _ _ _ _ _ I₁ (hf.mono st₁) ((hx.mono st₁).append hxs)) fun _ _ o=>o.sub st₁⟩
   cases hk with
   | k hk=>obtain ⟨_,rfl⟩:=hf.inv; exact keeps_K hk _ I₁.k
   | blt=>obtain ⟨_,rfl⟩:=hf.inv; exact ⟨.machine,.inr (.inl rfl),Looks.of_pure rfl⟩
   | typ=>obtain ⟨_,rfl⟩:=hf.inv; exact ⟨.machine,.inr (.inl rfl),Looks.of_pure rfl⟩
   | fn hm hd=>
    obtain ⟨_,rfl⟩:=hf.inv
    obtain ⟨b,hc,hb⟩:=I₁.read hm
    cases hc with
    | raw _=>exact ⟨.frame,.inl rfl,(Looks.ld (part:=none) (hb _ (.head _)).1).andThen (by rw [hd]; exact .now)⟩
  have run:=h.run he T s I pos
  cases es with
  | nil=>
   unfold evalArgs
   show wpAny _ _ (spliced [] >>= _) _ _ _
   refine wpAny_bind (wpNoE (Q:=OutL D fm T vs (calF D A fv fx Q)) run fun ws s₁ o=>wpAny_bind (wpAny_pure ?_))
   refine wpAny_holding ?_
   exact wpAny_bind (wpAny_pure (wpAny_bind (wpAny_pure (wpAny_pure (fin ws s₁ o)))))
  | cons e rest=>
   rw [show starEach (e::rest) env=_ from hs] at run ⊢
   exact evalArgs_plain (wpNoE run fin)
 exact callWith_of (P:=fun h=>∃ k,(k=Keeper.frame\/k=Keeper.machine\/k=Keeper.boundFrame)/\Looks (model D.prog D.w) h (keeperOf f) k) (by rw [hp]; rfl) (fun h x=>x) key
theorem EV.call {x:Str} {p pos:Pos} {es:List Expr} {Q:V->HL->Prop} (h:EV D fm A env (.Name x p) H vs (calP D fm A env es vs Q))
  (hs:Plain1 es env:=by first | exact True.intro | exact rfl) (hp:(backTo pos (starEach es env)).any (·.1)=false:=by rfl):EV D fm A env (.Call (.Name x p) es [] pos) H vs Q:=⟨fun he T s I=>
 PyProof.Rows.Call_Name rfl (wpNoE (h.run he T s I) fun f s₁ oo=>by obtain ⟨T₁,fv,H₁,st₁,I₁,hf,h₁⟩:=oo; exact wpNoE (callW (fx:=[]) he I₁ hf .nil h₁ hs hp) fun _ _ o=>o.sub st₁)⟩
structure GM (D:Wd) (A:Around) (name:Str) (x:V) (H:HL) (Q:V->List V->HL->Prop):Prop where
 run:∀ fm T s vs v pl,Inv D fm T s H vs->VRel T x v->wpAny (model D.prog D.w) A (getMethod v name pl) (OutM D fm T vs Q) NoE s
@[reducible] noncomputable def metP (D:Wd) (fm:Fm) (A:Around) (env:Env) (name:Str) (es:List Expr) (vs:List (Option V)) (Q:V->HL->Prop):V->HL->Prop:=fun x H=>GM D A name x H (metQ D fm A env es vs Q)
theorem EV.meth {o:Expr} {name:Str} {apos pos:Pos} {es:List Expr} {pl:Sem Bool} {Q:V->HL->Prop}
  (h:EV D fm A env o H vs (metP D fm A env name es vs Q))
  (hs:Plain1 es env:=by first | exact True.intro | exact rfl) (hp:(backTo pos (starEach es env)).any (·.1)=false:=by rfl)
  (he:eval (.Call (.Attribute o name apos) es [] pos) env=(do
   let ov <- eval o env
   standAt apos.atName
   let (f,first) <- holding [ov] (getMethod ov name pl)
   callWith pos f first (backTo pos (starEach es env)) (backToKw pos (keywordEach [] env))):=by rfl):EV D fm A env (.Call (.Attribute o name apos) es [] pos) H vs Q:=⟨fun hE T s I=>
 methodCall_KW (wpNoE (h.run hE T s I) fun ov s₁ oo=>by obtain ⟨T₁,x,H₁,st₁,I₁,hx,h₁⟩:=oo; exact wpNoE (h₁.run _ _ _ _ _ pl I₁ hx) fun r s₂ oo=>by obtain ⟨T₂,f,fx,H₂,st₂,I₂,hf,hfx,h₂⟩:=oo; exact wpNoE (callW hE I₂ hf hfx h₂ hs hp) fun _ _ o=>o.sub (st₁.trans st₂)) he⟩
theorem AttrRel.noRef {T:Led} {l:List (Str×V)} {es:List DictEntry} (r:AttrRel T l es):es.any (·.refKey)=false:=by
 induction r with
 | nil=>rfl
 | cons _ _ ih=>rw [List.any_cons,ih]; rfl
theorem AttrRel.get {T:Led} {name:Str}:∀ {l:List (Str×V)} {es:List DictEntry},AttrRel T l es->(match l.lookup name with | some x=>∃ v,getL name es=some (some v)/\VRel T x v | none=>getL name es=some none):=by
 intro l es h
 have nr:=h.noRef
 unfold getL
 rw [nr]
 clear nr
 induction h with
 | nil=>rfl
 | @cons n x v hs t l es r rs ih=>
  rw [List.lookup_cons,List.find?_cons]
  show match (match name==n with | true=>some x | false=>l.lookup name) with | some x=>_ | none=>_
  have e:(Value.str n t).isStr name=(name==n):=by
   show (n==name)=(name==n)
   rw [Bool.eq_iff_iff,beq_iff_eq,beq_iff_eq]; exact eq_comm
  rw [e]
  cases name==n with
  | true=>exact ⟨v,rfl,r⟩
  | false=>exact ih
noncomputable def aput (name:Str) (x:V):List (Str×V)->List (Str×V)
 | []=>[(name,x)]
 | (n,y)::r=>if name==n then (n,x)::r else (n,y)::aput name x r
theorem AttrRel.put {T:Led} {name:Str} {hs:Int} {t:Tok} {x:V} {v:Value} (hx:VRel T x v) {l:List (Str×V)} {es:List DictEntry} (r:AttrRel T l es):AttrRel T (aput name x l) (putL name hs (.str name t) v es):=by
 induction r with
 | nil=>exact .cons hx .nil
 | @cons n _ _ _ t' _ _ r rs ih=>
  unfold aput putL
  have e:(Value.str n t').isStr name=(name==n):=by
   show (n==name)=(name==n)
   rw [Bool.eq_iff_iff,beq_iff_eq,beq_iff_eq]; exact eq_comm
  show AttrRel T _ (if (Value.str n t').isStr name=true then _ else _)
  rw [e]
  cases name==n with
  | true=>exact .cons hx rs
  | false=>exact .cons r ih
theorem AttrRel.length {T:Led} {l:List (Str×V)} {es:List DictEntry} (r:AttrRel T l es):es.length=l.length:=by
 induction r with
 | nil=>rfl
 | cons _ _ ih=>exact congrArg Nat.succ ih
theorem Inv.instAt {a C:Addr} {l:List (Str×V)} (I:Inv D fm T s H vs) (m:(a,.inst C l)∈H):∃ dx es n,s.heap.get? a=some (instObj C dx)/\s.heap.get? dx=some (dictOf es n)/\AttrRel T l es/\InstAt s.heap a (instObj C dx) C (some (dictOf es n)):=by
 obtain ⟨b,hc,hb⟩:=I.read m
 cases hc with
 | inst hr=>exact ⟨_,_,_,(hb _ (.head _)).1,(hb _ (.tail _ (.head _))).1,hr,⟨(hb _ (.head _)).1,rfl,rfl,(hb _ (.tail _ (.head _))).1⟩⟩
structure ClsAttr (K:Frag) (C:Addr) (name:Str):Prop where
 get:plainGet K C name=true
 own:findIn K (.ref C) name=some none
 dict:hasDictIn K C=true
 set:findIn K (.ref C) "__setattr__"=some (some (.builtin "object.__setattr__"))
 over:plainOver K C=true
 take:takerIn K C name=some none
structure GA (D:Wd) (A:Around) (name:Str) (x:V) (H:HL) (Q:V->HL->Prop):Prop where
 run:∀ fm T s vs v,Inv D fm T s H vs->VRel T x v->∀ e,wpAny (model D.prog D.w) A (getAttr v name e) (Out D fm T vs Q) NoE s
@[reducible] noncomputable def attP (D:Wd) (A:Around) (name:Str) (Q:V->HL->Prop):V->HL->Prop:=fun x H=>GA D A name x H Q
theorem EV.attr {o:Expr} {name:Str} {pos:Pos} {Q:V->HL->Prop} (h:EV D fm A env o H vs (attP D A name Q))
  (he:eval (.Attribute o name pos) env=(do
   let x <- eval o env
   standAt pos.atName
   let r <- holding [x] (getAttr x name true)
   letTemporaryGo o x r
   pure r):=by with_unfolding_all rfl):EV D fm A env (.Attribute o name pos) H vs Q:=⟨fun hE T s I=>
 Attribute_any_ (wpNoE (h.run hE T s I) fun v s₁ oo=>by obtain ⟨T₁,x,H₁,st₁,I₁,hx,h₁⟩:=oo; exact wpNoE (h₁.run _ _ _ _ _ I₁ hx true) fun _ _ o=>o.sub st₁) he⟩
noncomputable def handV:V->Bool
 | .raw v=>handedIn v
 | _=>true
theorem handV_of {x:V} {v:Value} (h:handV x=true) (r:VRel T x v):handedIn v=true:=by
 cases r <;> first | rfl | exact h
theorem GA.own {a C:Addr} {l:List (Str×V)} {name:Str} {x:V} {Q:V->HL->Prop} (m:(a,.inst C l)∈H) (c:ClsAttr D.K C name) (hl:l.lookup name=some x) (hv:handV x=true) (hq:Q x H) :
  GA D A name (.ref a) H Q:=⟨fun fm T s vs v I hx e=>by
 obtain ⟨_,rfl⟩:=hx.inv
 obtain ⟨dx,es,n,h1,h2,h3,h4⟩:=I.instAt m
 have:=h3.get (name:=name)
 rw [hl] at this
 obtain ⟨v,g1,g2⟩:=this
 obtain ⟨mc,N,F,r⟩:=I.ex
 exact get_own F I.base.k h4 c.get c.dict c.own (by rfl) g1 (handV_of hv g2) ⟨T,x,H,.refl _,I.toks,g2,hq⟩⟩
structure SA (D:Wd) (A:Around) (name:Str) (x y:V) (H:HL) (Q:HL->Prop):Prop where
 run:∀ fm T s vs v w,Inv D fm T s H vs->VRel T x v->VRel T y w->wpAny (model D.prog D.w) A (setAttr v name w) (fun _=>OutS D fm T vs Q) NoE s
theorem Inv.openI {a C:Addr} {l:List (Str×V)} (e:Ext a (.inst C l) H R) (I:Inv D fm T s H vs):∃ dx es n mc rest,Fr fm.F fm.L s.heap mc/\News fm.F fm.L s.heap ((dx,dictOf es n)::rest)/\(∀ p∈rest,p.1≠dx) /\
  AttrRel T l es/\InstAt s.heap a (instObj C dx) C (some (dictOf es n))/\∀ h' tk es' n' l',Fr fm.F fm.L h' mc->News fm.F fm.L h' ((dx,dictOf es' n')::rest)->AttrRel T l' es'->
   Inv D fm T { s with heap:=h',toks:=tk } ((a,.inst C l')::R) vs:=by
 obtain ⟨⟨mc,N,F,lr,c,n,nd,lo⟩,B,g,os⟩:=I
 obtain ⟨b1,NR,c1,c2,c3⟩:=c.split e
 obtain ⟨dx,es,k,rfl,hr⟩:∃ dx es k,b1=[(a,instObj C dx),(dx,dictOf es k)]/\AttrRel T l es:=by cases c1 with | inst hr=>exact ⟨_,_,_,rfl,hr⟩
 ·have pp:(T++N).Perm ((dx,dictOf es k)::(a,instObj C dx)::(T++NR)):=by
   refine (List.Perm.append_left T c3).trans ?_
   refine List.perm_append_comm.trans ?_
   refine (List.Perm.swap _ _ _).trans ?_
   exact ((List.perm_append_comm).cons _).cons _
  have n':=News.perm pp n
  have nd':=(pp.map (·.1)).nodup_iff.mp nd
  rw [List.map_cons] at nd'
  have nd'':=List.nodup_cons.mp nd'
  have hi:=(n' _ (.tail _ (.head _))).1
  have hd:=(n' _ (.head _)).1
  refine ⟨dx,es,k,mc,_,F,n',fun p hp q=>nd''.1 (List.mem_map.mpr ⟨p,hp,q⟩),hr,⟨hi,rfl,rfl,hd⟩,fun h' tk es' m' l' F' N' hr'=>?_⟩
  refine ⟨⟨mc,[(a,instObj C dx),(dx,dictOf es' m')]++NR,F',lr,.cons (.inst hr') c2,?_,?_,fun p hp=>?_⟩,B,g,os⟩
  ·refine News.perm ?_ N'
   refine (List.Perm.swap _ _ _).trans ?_
   refine (((List.perm_append_comm).cons _).cons _).trans ?_
   exact List.perm_append_comm (l₁:=[(a,instObj C dx),(dx,dictOf es' m')]++NR) (l₂:=T)
  ·have:((T++([(a,instObj C dx),(dx,dictOf es' m')]++NR)).map (·.1)).Perm (dx::a::(T++NR).map (·.1)):=by
    rw [List.map_append]
    refine List.perm_append_comm.trans ?_
    refine (List.Perm.swap _ _ _).trans ?_
    rw [List.map_append]
    exact ((List.perm_append_comm).cons _).cons _
   exact this.nodup_iff.mpr nd'
  ·have hl:∀ q∈N,q.1≠sysModules:=lo
   rcases List.mem_append.mp hp with hp | hp
   ·rcases List.mem_cons.mp hp with rfl | hp
    ·exact hl (a,instObj C dx) (c3.mem_iff.mpr (by simp))
    ·rcases List.mem_cons.mp hp with rfl | hp
     ·exact hl (dx,dictOf es k) (c3.mem_iff.mpr (by simp))
     ·cases hp
   ·exact hl p (c3.mem_iff.mpr (List.mem_append_right _ hp))
theorem aput_length (name:Str) (y:V):∀ l:List (Str×V),(aput name y l).length<=l.length+1
 := by
 intro l
 induction l with
 | nil=>exact Nat.le_refl _
 | cons p r ih=>
  unfold aput
  by_cases h:(name==p.1)=true
  ·rw [if_pos h]; exact Nat.le_succ _
  ·rw [if_neg h]; exact Nat.succ_le_succ ih
theorem SA.own {a C:Addr} {l:List (Str×V)} {name:Str} {y:V} {Q:HL->Prop} (m:Ext a (.inst C l) H R) (c:ClsAttr D.K C name) (hz:l.length < 1000) (hq:Q ((a,.inst C (aput name y l))::R)) :
  SA D A name (.ref a) y H Q:=⟨fun fm T s vs v w I hx hy=>by
 obtain ⟨_,rfl⟩:=hx.inv
 obtain ⟨dx,es,n,mc,rest,F,N,hne,h3,hI,back⟩:=I.openI m
 have hg:=h3.get (name:=name)
 have hsome:(getL name es).isSome=true:=by
  cases hl:l.lookup name with
  | none=>rw [hl] at hg; rw [hg]; rfl
  | some z=>rw [hl] at hg; obtain ⟨u,e,_⟩:=hg; rw [e]; rfl
 have hput:=h3.put (name:=name) (hs:=PyData.keyHash D.w.params name) (t:=s.toks+1) hy
 refine W.set_dict F I.base.k N hI rfl c.set c.over c.take c.dict hsome rfl (.head hne) ?_ fun h' F' N'=>⟨T,_,.refl _,back _ _ _ _ _ F' N' hput,hq⟩
 rw [hput.length]
 have:=aput_length name y l
 exact Nat.le_trans this hz⟩
@[reducible] noncomputable def setQ (D:Wd) (A:Around) (name:Str) (vs:List (Option V)) (Q:Fl->HL->List (Option V)->Prop):V->V->HL->Prop:=fun y x H=>SA D A name x y H (stepQ vs Q)
theorem EX.setAttr {o:Expr} {name:Str} {p pos:Pos} {e:Expr} {Q:Fl->HL->List (Option V)->Prop} (h:EV D fm A env e H vs (thenE D fm A env o vs (setQ D A name vs Q)))
  (hs:swapsWith e (some (.Attribute o name p)) pos.line env=pure false:=by rfl):EX D fm A env (.Assign [.Attribute o name p] e pos) H vs Q:=⟨fun he T s I=>
 plainObj_wpAny_Assign_Attribute (wpNoE (h.run he T s I) fun v s₁ oo=>by obtain ⟨T₁,y,H₁,st₁,I₁,hy,h₁⟩:=oo; exact wpNoE (h₁.run he T₁ s₁ I₁) fun w s₂ oo=>by obtain ⟨T₂,x,H₂,st₂,I₂,hx,h₂⟩:=oo; exact wpNoE (h₂.run _ _ _ _ _ _ I₂ hx (hy.mono st₂)) fun _ s₃ oo=>by obtain ⟨T₃,H₃,st₃,I₃,hq⟩:=oo; exact ⟨T₃,_,H₃,vs,(st₁.trans st₂).trans st₃,I₃,.next,hq⟩) hs⟩
end
end Mine
end
section
namespace Mine
section
variable {D:Wd} {fm:Fm} {A:Around} {env:Env} {H R:HL} {vs:List (Option V)} {T:Led} {s:Shared}
theorem Rm.deeper {k:Nat} {A:Around} {env:Env} (h:Rm (k+1) A):Rm k (A.deeper env):=
 ⟨by have:=h.depth; simp only [Around.deeper]; exact lin this (by simp +arith),by have:=h.units; simp only [Around.deeper]; exact lin this (by simp +arith),h.handled,h.guards⟩
theorem Rm.le {k j:Nat} {A:Around} (h:Rm k A) (hj:j<=k):Rm j A:=⟨by have:=h.depth; exact lin (Nat.add_le_add this (Nat.mul_le_mul_left 5 hj)) (by simp +arith),by have:=h.units; exact lin (Nat.add_le_add this (Nat.mul_le_mul_left 60 hj)) (by simp +arith),h.handled,h.guards⟩
theorem locRel_binds {T:Led} {xs:List V}:∀ {ps:List Str} {ws:List Value} {mc:Str->Option Value},(∀ (i:Nat) (p:Str) (w:Value),ps[i]?=some p->ws[i]?=some w->mc p=some w)->ps.length=xs.length->VRels T xs ws->LocRel T mc ps (xs.map some):=by
 induction xs with
 | nil=>intro ps ws mc _ hl _; rw [List.length_eq_zero_iff.mp hl]; exact .nil
 | cons x xs ih=>
  intro ps ws mc hm hl h
  obtain ⟨v,us,rfl,r,rs⟩:=h.cons_inv
  cases ps with
  | nil=>cases hl
  | cons p ps=>exact .cons (fun y e=>⟨v,hm 0 p v rfl rfl,Option.some.inj e ▸ r⟩) (ih (fun i p' w h1 h2=>hm (i+1) p' w h1 h2) (Nat.succ.inj hl) rs)
theorem LocRel.append {T:Led} {mc:Str->Option Value} {ns:List Str} {vs:List (Option V)} {ns':List Str} {vs':List (Option V)} (r:LocRel T mc ns vs) (h:LocRel T mc ns' vs'):LocRel T mc (ns++ns') (vs++vs'):=by
 induction r with
 | nil=>exact h
 | cons r _ ih=>exact .cons r ih
theorem LocRel.nones {T:Led} {mc:Str->Option Value}:∀ ns:List Str,LocRel T mc ns (List.replicate ns.length none)
 | []=>.nil
 | _::r=>.cons (fun _ e=>by cases e) (LocRel.nones r)
theorem lookup_zip {ps:List Str} {ws:List Value} (nd:ps.Nodup):∀ (i:Nat) (p:Str) (w:Value),ps[i]?=some p->ws[i]?=some w->(ps.zip ws).reverse.lookup p=some w:=by
 intro i p w h1 h2
 have hz:(ps.zip ws)[i]?=some (p,w):=by rw [List.getElem?_zip_eq_some]; exact ⟨h1,h2⟩
 have aux:∀ l:List (Str×Value),(l.map (·.1)).Nodup->∀ i:Nat,l[i]?=some (p,w)->l.reverse.lookup p=some w:=by
  intro l
  induction l with
  | nil=>intro _ i e; cases e
  | cons q r ih=>
   intro nd i e
   rw [List.reverse_cons,List.lookup_append]
   rw [List.map_cons] at nd
   have nd':=List.nodup_cons.mp nd
   cases i with
   | zero=>
    simp at e
    subst e
    have:r.reverse.lookup p=none:=by
     rw [List.lookup_eq_none_iff]
     intro q hq
     have:q.1≠p:=fun e=>nd'.1 (List.mem_map.mpr ⟨q,List.mem_reverse.mp hq,e⟩)
     simpa [beq_eq_false_iff_ne] using fun e=>this e.symm
    rw [this]; simp
   | succ i=>
    rw [ih nd'.2 i (by simpa using e)]; rfl
 refine aux _ ?_ i hz
 have sub:∀ (ps:List Str) (ws:List Value),((ps.zip ws).map (·.1)).Sublist ps:=by
  intro ps
  induction ps with
  | nil=>intro ws; simp
  | cons p r ih=>
   intro ws
   cases ws with
   | nil=>simp
   | cons w ws=>rw [List.zip_cons_cons,List.map_cons]; exact (ih ws).cons_cons p
 exact nd.sublist (sub ps ws)
noncomputable def OutR (D:Wd) (fm:Fm) (T:Led) (vs:List (Option V)) (Q:V->HL->Prop) (r:Result) (s':Shared):Prop:=match r with
 | .ok (.ret v)=>Out D fm T vs Q v s'
 | _=>False
structure CC (D:Wd) (A:Around) (f:Addr) (xs:List V) (H:HL) (Q:V->HL->Prop):Prop where
 run:∀ fm T s vs ws,Inv D fm T s H vs->VRels T xs ws->codeAny (model D.prog D.w) A (.call (.ref f) ⟨ws,[]⟩) (OutR D fm T vs Q) s
theorem CL.ofCC {f:Addr} {xs:List V} {Q:V->HL->Prop} (h:CC D A f xs H Q):CL D A (.ref f) xs H Q:=⟨fun fm T s vs fv ws I hf hw=>by
 obtain ⟨_,rfl⟩:=hf.inv
 refine wpAny_call (codeAny_mono (h.run fm T s vs ws I hw) fun r s' hr=>?_)
 cases r with
 | error e=>exact hr.elim
 | ok r=>cases r <;> first | exact hr | exact hr.elim⟩
@[reducible] noncomputable def outQ (Q:V->HL->Prop):Fl->HL->List (Option V)->Prop:=fun fl H _=>match fl with
 | .ret x=>Q x H
 | .next=>Q .none H
 | _=>False
theorem CC.fn {k:Nat} {f:Addr} {name qual:Str} {params:Arguments} {body:List Stmt} {scope:Scope} {dV kV doc pm cdv ct oc:Value} {an od:Option Addr} {osl:Array (Option Value)} {ps os:List Str} {xs:List V} {Q:V->HL->Prop}
  (hK:D.K.lookup f=some ⟨oc,od,.func (fnOf name qual params body scope dV kV doc pm an cdv ct),osl⟩) (hcd:codeIn D.K cdv qual=true) (hroom:Rm (k+1) A)
  (hb:∀ ws:List Value,ws.length=xs.length->bindArgs (fnOf name qual params body scope dV kV doc pm an cdv ct) ⟨ws,[]⟩=pure (ps.zip ws)) (hl:ps.length=xs.length) (hloc:∀ x∈ps,scope.names.lookup x=some .local) (nd:(ps++os).Nodup)
  (h:∀ fm:Fm,fm.ns=ps++os->∀ A':Around,Rm k A'->XS D fm A' (envOf qual scope fm.L f cdv) body H (xs.map some++List.replicate os.length none) (outQ Q))
  (hcell:∀ x∈scope.names,x.2≠.cell) (hco:scope.isCoroutine=false:=by rfl) (hgen:scope.isGenerator=false:=by rfl) (hk:scope.kind=.function:=by rfl):CC D A f xs H Q:=⟨fun fm T s vs ws I hw=>by
 obtain ⟨F',hsz,inn,back,old,_⟩:=I.enter (ps++os) nd
 have hlen:=hw.length
 have ndp:ps.Nodup:=(List.nodup_append.mp nd).1
 refine (codeAny_call_def (fd:=fnOf name qual params body scope dV kV doc pm an cdv ct) (body:=body) (binds:=ps.zip ws) (by have:=hroom.depth; show A.depth < 1000; exact linL this (by simp +arith)) (I.k _ _ hK) rfl I.nolimit (codeRec_of I.k hcd) rfl
  (BindsTo.of_eq (hb ws hlen)) hcell (fun x hx=>hloc _ (List.of_mem_zip hx).1) (fun h₀ hns hk₀=>?_) hco hgen hk)
 have I':=inn s.heap.objs.size h₀ (s.toks+(ps.zip ws).length) _ (xs.map some++List.replicate os.length none) (Nat.le_refl _) hns hk₀
  ((locRel_binds (lookup_zip ndp) hl hw).append (LocRel.nones os))
 refine wpNoE ((h ⟨F',s.heap.objs.size,s.gens,s.os,ps++os,nd⟩ rfl _ hroom.deeper).run ⟨hk,rfl,rfl,rfl⟩ T _ I') fun fl s' oo=>?_
 obtain ⟨T',fl',H',vs',st,I'',hfl,hq⟩:=oo
 have I3:=back _ _ _ _ _ _ I.gens st I''
 cases hfl with
 | next=>exact ⟨T',.none,H',st,I3,.none,hq⟩
 | brk=>exact hq.elim
 | cont=>exact hq.elim
 | ret hr=>exact ⟨T',_,H',st,I3,hr,hq⟩⟩
theorem CL.fn {k:Nat} {f:Addr} {name qual:Str} {params:Arguments} {body:List Stmt} {scope:Scope} {dV kV doc pm cdv ct oc:Value} {an od:Option Addr} {osl:Array (Option Value)} {ps os:List Str} {xs:List V} {Q:V->HL->Prop}
  (hK:D.K.lookup f=some ⟨oc,od,.func (fnOf name qual params body scope dV kV doc pm an cdv ct),osl⟩) (hcd:codeIn D.K cdv qual=true) (hroom:Rm (k+1) A)
  (hb:∀ ws:List Value,ws.length=xs.length->bindArgs (fnOf name qual params body scope dV kV doc pm an cdv ct) ⟨ws,[]⟩=pure (ps.zip ws)) (hl:ps.length=xs.length) (hloc:∀ x∈ps,scope.names.lookup x=some .local) (nd:(ps++os).Nodup)
  (h:∀ fm:Fm,fm.ns=ps++os->∀ A':Around,Rm k A'->XS D fm A' (envOf qual scope fm.L f cdv) body H (xs.map some++List.replicate os.length none) (outQ Q))
  (hcell:∀ x∈scope.names,x.2≠.cell) (hco:scope.isCoroutine=false:=by rfl) (hgen:scope.isGenerator=false:=by rfl) (hk:scope.kind=.function:=by rfl):CL D A (.ref f) xs H Q:=.ofCC (CC.fn hK hcd hroom hb hl hloc nd h hcell hco hgen hk)
noncomputable def Single:AObj->Prop
 | .inst ..=>False
 | _=>True
theorem Conc.single {a:Addr} {o:AObj} {b:Led} (c:Conc D T a o b) (h:Single o):∃ ob,b=[(a,ob)]:=by
 cases c <;> first | exact ⟨_,rfl⟩ | exact h.elim
theorem Inv.set1 {a:Addr} {o o':AObj} {h':Heap} {tk:Tok} {ob:Obj} (e:Ext a o H R) (hs:Single o) (I:Inv D fm T s H vs) (sb:Heap.SameBut a s.heap h') (hg:h'.get? a=some ob) (hc:Conc D T a o' [(a,ob)]) :
  Inv D fm T { s with heap:=h',toks:=tk } ((a,o')::R) vs:=by
 obtain ⟨b,c,hb⟩:=I.read e.mem
 obtain ⟨ob0,rfl⟩:=c.single hs
 have h0:=(hb _ (.head _)).1
 refine I.change (b:=[(a,ob0)]) (b':=[(a,ob)]) e (fun b₀ c0 _=>by obtain ⟨_,rfl⟩:=c0.single hs; rfl) hc (fun p hp=>?_) (by simp) (fun z oz ez hz=>(sb.2 z fun q=>hz (by simp [q])).trans ez) fun p hp ep=>?_
 ·cases hp with
  | head=>exact ⟨hg,.inl (by simp)⟩
  | tail _ h=>cases h
 ·cases hp with
  | head=>rw [h0] at ep; cases ep
  | tail _ h=>cases h
theorem Inv.new1 {o':AObj} {ob:Obj} {tk:Tok} (I:Inv D fm T s H vs) (hf:ob.isFreed=false) (hc:Conc D T s.heap.objs.size o' [(s.heap.objs.size,ob)]) :
  Inv D fm T { s with heap:=s.heap.push ob,toks:=tk } ((s.heap.objs.size,o')::H) vs:=
 I.new hc (fun p hp=>by
  rcases List.mem_cons.mp hp with rfl | hp
  ·exact ⟨Heap.get?_push_size _ hf,Nat.le_refl _⟩
  ·cases hp) (by simp) fun _ _ e=>Heap.get?_push_of_some _ e
theorem Inv.drop1 {a:Addr} {o:AObj} {h':Heap} {tk:Tok} (e:Ext a o H R) (I:Inv D fm T s H vs) (k:Heap.ExtBut a s.heap h'):Inv D fm T { s with heap:=h',toks:=tk } R vs:=by
 obtain ⟨⟨mc,N,F,l,c,n,nd,lo⟩,B,g,os⟩:=I
 obtain ⟨b1,NR,c1,c2,c3⟩:=c.split e
 have ha:a∈b1.map (·.1):=by cases c1 <;> simp
 have pp:(T++N).Perm (b1++(T++NR)):=by
  refine (List.Perm.append_left T c3).trans ?_
  rw [<- List.append_assoc,<- List.append_assoc]
  exact List.Perm.append_right _ List.perm_append_comm
 have n':=News.perm pp n
 have nd':=(pp.map (·.1)).nodup_iff.mp nd
 rw [List.map_append] at nd'
 obtain ⟨_,nd2,nd3⟩:=List.nodup_append.mp nd'
 obtain ⟨p0,hp0,hp0e⟩:=List.mem_map.mp ha
 have own:=n' p0 (List.mem_append_left _ hp0)
 rw [hp0e] at own
 obtain ⟨oL,es,ep,hLo,r⟩:=F.ns
 refine ⟨⟨mc,NR,⟨⟨oL,es,ep,k _ _ (Ne.symm own.2.1) hLo,r⟩,fun x ob e=>k _ _ (fun q=>?_) (F.keep x ob e),F.above⟩,l,c2,fun p hp=>?_,nd2,fun p hp=>lo p (c3.mem_iff.mpr (List.mem_append_right _ hp))⟩,B,g,os⟩
 ·rw [q,own.2.2] at e; cases e
 ·have:=n' p (List.mem_append_right _ hp)
  exact ⟨k _ _ (fun q=>nd3 _ ha _ (List.mem_map_of_mem hp) q.symm) this.1,this.2⟩
theorem Inv.ioAt {a:Addr} {k:IObj} (I:Inv D fm T s H vs) (m:(a,.io k)∈H):∃ ob,s.heap.get? a=some ob/\k.ok ob:=by
 obtain ⟨b,hc,hb⟩:=I.read m
 cases hc with
 | io h=>exact ⟨_,(hb _ (.head _)).1,h⟩
inductive OutI (D:Wd) (fm:Fm) (T:Led) (vs:List (Option V)) (Q:Addr->HL->Prop) (v:Value) (s':Shared):Prop where
 | mk (T':Led) (a:Addr) (H':HL) (e:v=.ref a) (st:Sub T T') (I:Inv D fm T' s' H' vs) (q:Q a H')
noncomputable def OutN (D:Wd) (fm:Fm) (T:Led) (vs:List (Option V)) (Q:Option V->HL->Prop) (o:Option Value) (s':Shared):Prop:=match o with
 | none=>OutS D fm T vs (Q none) s'
 | some u=>Out D fm T vs (fun x=>Q (some x)) u s'
structure PI (D:Wd) (A:Around) (x:V) (H:HL) (Q:Addr->HL->Prop):Prop where
 run:∀ fm T s vs v,Inv D fm T s H vs->VRel T x v->wpAny (model D.prog D.w) A (pyIter v) (OutI D fm T vs Q) NoE s
structure NX (D:Wd) (A:Around) (it:Addr) (H:HL) (Q:Option V->HL->Prop):Prop where
 run:∀ fm T s vs,Inv D fm T s H vs->wpAny (model D.prog D.w) A (pyNext (.ref it)) (OutN D fm T vs Q) NoE s
theorem PI.list {l:Addr} {xs:List V} {Q:Addr->HL->Prop} (m:(l,.list xs)∈H) (hq:∀ a,Q a ((a,.io (.liter l 0))::H)):PI D A (.ref l) H Q:=⟨fun fm T s vs v I hx=>by
 obtain ⟨_,rfl⟩:=hx.inv
 obtain ⟨ws,n,h1,h2⟩:=I.listAt m
 exact wpAny_pyIter_list (items:=ws.toArray) ⟨_,h1,rfl,_,rfl⟩ ⟨T,_,_,rfl,.refl _,I.new1 (tk:=s.toks) rfl (.io (k:=.liter l 0) ⟨rfl,rfl⟩),hq _⟩⟩
theorem NX.list {l it:Addr} {i:Nat} {xs:List V} {Q:Option V->HL->Prop} (hh:A.handled=none) (e:Ext it (.io (.liter l i)) H R) (m:(l,.list xs)∈H)
  (h1:∀ x,xs[i]?=some x->Q (some x) ((it,.io (.liter l (i+1)))::R)) (h2:xs[i]?=none->Q none R):NX D A it H Q:=⟨fun fm T s vs I=>by
 obtain ⟨ws,n,g1,g2⟩:=I.listAt m
 obtain ⟨ob,g3,g4,g5⟩:=I.ioAt e.mem
 have hl:s.heap.IsList l ws.toArray:=⟨_,g1,rfl,_,rfl⟩
 have hit:s.heap.IsListIter it l i:=⟨_,g3,g4,g5⟩
 cases hx:ws[i]? with
 | some v=>
  obtain ⟨x,hx1,hx2⟩:=g2.get' hx
  refine wpAny_pyNext_list_item hit hl (by simpa using hx) fun h' hi' sb=>?_
  obtain ⟨o',q1,q2,q3⟩:=hi'
  exact ⟨T,x,_,.refl _,I.set1 (tk:=s.toks) e trivial sb q1 (.io (k:=.liter l (i+1)) ⟨q2,q3⟩),hx2,h1 x hx1⟩
 | none=>
  refine wpAny_pyNext_list_end hh hit hl (by simpa using hx) fun h' k=>⟨T,R,.refl _,I.drop1 (tk:=s.toks) e k,h2 ?_⟩
  rw [List.getElem?_eq_none_iff] at hx ⊢
  rw [<- g2.length]; exact hx⟩
theorem PI.range {r:Addr} {a b c:Int} {Q:Addr->HL->Prop} (m:Ext r (.io (.rng a b c)) H R) (hs:Builtin.Range.small a b c=true) (hq:∀ it,Q it ((it,.io (.riter a (Builtin.Range.rangeSize a b c) c))::R)):PI D A (.ref r) H Q:=⟨fun fm T s vs v I hx=>by
 obtain ⟨_,rfl⟩:=hx.inv
 obtain ⟨ob,h1,t,u,w,rfl⟩:=I.ioAt m.mem
 exact wpAny_pyIter_range h1 hs ⟨T,_,_,rfl,.refl _,(I.forget m).new1 (tk:=s.toks) rfl (.io (k:=.riter a (Builtin.Range.rangeSize a b c) c) rfl),hq _⟩⟩
theorem NX.range {it:Addr} {x left step:Int} {Q:Option V->HL->Prop} (hh:A.handled=none) (e:Ext it (.io (.riter x left step)) H R)
  (h1:0 < left->Q (some (.int x)) ((it,.io (.riter (x+step) (left - 1) step))::R)) (h2:left<=0->Q none R):NX D A it H Q:=⟨fun fm T s vs I=>by
 obtain ⟨ob,g3,g4⟩:=I.ioAt e.mem
 subst g4
 by_cases hl:0 < left
 ·exact wpAny_pyNext_range_item g3 hl fun h' q1 sb=>⟨T,_,_,.refl _,I.set1 e trivial sb q1 (.io (k:=.riter (x+step) (left - 1) step) rfl),.int _ _,h1 hl⟩
 ·exact wpAny_pyNext_range_end hh g3 (by exact (Int.le_of_not_gt hl)) fun h' k=>⟨T,R,.refl _,I.drop1 (tk:=s.toks) e k,h2 (by exact (Int.le_of_not_gt hl))⟩⟩
theorem PairsRel.len {α:Type} {T:Led} {l:List (α×V)} {l':List (α×Value)} (r:PairsRel T l l'):l.length=l'.length:=by
 induction r with
 | nil=>rfl
 | cons _ _ ih=>exact congrArg Nat.succ ih
theorem PairsRel.get {α:Type} {T:Led} {l:List (α×V)} {l':List (α×Value)} (r:PairsRel T l l'):∀ {i:Nat} {k:α} {x:V},l[i]?=some (k,x)->∃ v,l'[i]?=some (k,v)/\VRel T x v:=by
 induction r with
 | nil=>intro i k x e; cases e
 | @cons k' x' v' _ _ r _ ih=>
  intro i k x e
  cases i with
  | zero=>
   have e':=Option.some.inj e
   exact ⟨v',congrArg (fun p=>some (p,v')) (congrArg (·.1) e'),(congrArg (·.2) e':x'=x) ▸ r⟩
  | succ i=>exact ih e
theorem PairsRel.noneOf {α:Type} {T:Led} {l:List (α×V)} {l':List (α×Value)} (h:PairsRel T l l') {i:Nat} (e:l[i]?=none):l'[i]?=none:=by
 rw [List.getElem?_eq_none_iff] at e ⊢
 rw [<- h.len]; exact e
theorem Inv.dictSAt {a:Addr} {kvs:List (Str×V)} {ep:Nat} (I:Inv D fm T s H vs) (m:(a,.dictS kvs ep)∈H):∃ l,s.heap.DictAt (strKind D.prog D.w) a l ep/\PairsRel T kvs l/\(a==sysModules)=false:=by
 obtain ⟨b,hc,hb⟩:=I.read m
 cases hc with
 | dictS hd hp=>
  obtain ⟨es,d1,d2,d3,d4,d5⟩:=hd
  have h0:=hb _ (.head _)
  exact ⟨_,⟨_,es,h0.1,d1,d2,d3,d4,d5⟩,hp,by simpa using h0.2.2.2⟩
theorem Inv.dictIAt {a:Addr} {kvs:List (Int×V)} {ep:Nat} (I:Inv D fm T s H vs) (m:(a,.dictI kvs ep)∈H):∃ l,s.heap.DictAt (intKind D.prog D.w) a l ep/\PairsRel T kvs l/\(a==sysModules)=false:=by
 obtain ⟨b,hc,hb⟩:=I.read m
 cases hc with
 | dictI hd hp=>
  obtain ⟨es,d1,d2,d3,d4,d5⟩:=hd
  have h0:=hb _ (.head _)
  exact ⟨_,⟨_,es,h0.1,d1,d2,d3,d4,d5⟩,hp,by simpa using h0.2.2.2⟩
set_option tactic.hygienic true in
theorem strKey {k:Str} {key:Value} (hk:(strKind D.prog D.w).is k key=true):∃ t,key=.str k t:=by
 cases key <;> first | (exact absurd hk Bool.false_ne_true) | skip
 rename_i y t
 have:y=k:=by simpa [PySem.strKind,Value.isStrOf] using hk
 exact ⟨t,by rw [this]⟩
set_option tactic.hygienic true in
theorem intKey {k:Int} {key:Value} (hk:(intKind D.prog D.w).is k key=true):∃ t,key=.int k t:=by
 cases key <;> first | (exact absurd hk Bool.false_ne_true) | skip
 rename_i y t
 have:y=k:=by simpa [intKind,Value.isInt] using hk
 exact ⟨t,by rw [this]⟩
theorem PI.keys {d:Addr} {kvs:List (Str×V)} {ep:Nat} {Q:Addr->HL->Prop} (m:(d,.dictS kvs ep)∈H) (hq:∀ it,Q it ((it,.io (.kiter d 0 kvs.length ep))::H)):PI D A (.ref d) H Q:=⟨fun fm T s vs v I hx=>by
 obtain ⟨_,rfl⟩:=hx.inv
 obtain ⟨l,h1,hp,h2⟩:=I.dictSAt m
 exact wpAny_pyIter_dict h2 h1 ⟨T,_,_,rfl,.refl _,I.new1 (tk:=s.toks) rfl (.io (k:=.kiter d 0 kvs.length ep) ⟨rfl,by rw [hp.len]; rfl⟩),hq _⟩⟩
theorem NX.keys {d it:Addr} {i ep:Nat} {kvs:List (Str×V)} {Q:Option V->HL->Prop} (hh:A.handled=none) (e:Ext it (.io (.kiter d i kvs.length ep)) H R) (m:(d,.dictS kvs ep)∈H)
  (h1:∀ k x,kvs[i]?=some (k,x)->Q (some (.str k)) ((it,.io (.kiter d (i+1) kvs.length ep))::R)) (h2:kvs[i]?=none->Q none R):NX D A it H Q:=⟨fun fm T s vs I=>by
 obtain ⟨ob,g3,g4,g5⟩:=I.ioAt e.mem
 obtain ⟨l,hm,hp,_⟩:=I.dictSAt m
 have hit:s.heap.IsKeyIter it d i l.length ep:=⟨_,g3,g4,by rw [g5,hp.len]⟩
 cases hx:kvs[i]? with
 | some q=>
  obtain ⟨k,x⟩:=q
  obtain ⟨v,e1,e2⟩:=hp.get hx
  refine wpAny_pyNext_dict_item hit hm e1 fun key h' hk hi' sb=>?_
  obtain ⟨o',q1,q2,q3⟩:=hi'
  obtain ⟨t,rfl⟩:∃ t,key=.str k t:=strKey hk
  exact ⟨T,.str k,_,.refl _,I.set1 (tk:=s.toks) e trivial sb q1 (.io (k:=.kiter d (i+1) kvs.length ep) ⟨q2,by rw [q3,hp.len]⟩),.str _ _,h1 k x hx⟩
 | none=>exact wpAny_pyNext_dict_end hh hit hm (hp.noneOf hx) fun h' k=>⟨T,R,.refl _,I.drop1 (tk:=s.toks) e k,h2 hx⟩⟩
theorem PI.keysI {d:Addr} {kvs:List (Int×V)} {ep:Nat} {Q:Addr->HL->Prop} (m:(d,.dictI kvs ep)∈H) (hq:∀ it,Q it ((it,.io (.kiter d 0 kvs.length ep))::H)):PI D A (.ref d) H Q:=⟨fun fm T s vs v I hx=>by
 obtain ⟨_,rfl⟩:=hx.inv
 obtain ⟨l,h1,hp,h2⟩:=I.dictIAt m
 exact wpAny_pyIter_dict h2 h1 ⟨T,_,_,rfl,.refl _,I.new1 (tk:=s.toks) rfl (.io (k:=.kiter d 0 kvs.length ep) ⟨rfl,by rw [hp.len]; rfl⟩),hq _⟩⟩
theorem NX.keysI {d it:Addr} {i ep:Nat} {kvs:List (Int×V)} {Q:Option V->HL->Prop} (hh:A.handled=none) (e:Ext it (.io (.kiter d i kvs.length ep)) H R) (m:(d,.dictI kvs ep)∈H)
  (h1:∀ k x,kvs[i]?=some (k,x)->Q (some (.int k)) ((it,.io (.kiter d (i+1) kvs.length ep))::R)) (h2:kvs[i]?=none->Q none R):NX D A it H Q:=⟨fun fm T s vs I=>by
 obtain ⟨ob,g3,g4,g5⟩:=I.ioAt e.mem
 obtain ⟨l,hm,hp,_⟩:=I.dictIAt m
 have hit:s.heap.IsKeyIter it d i l.length ep:=⟨_,g3,g4,by rw [g5,hp.len]⟩
 cases hx:kvs[i]? with
 | some q=>
  obtain ⟨k,x⟩:=q
  obtain ⟨v,e1,e2⟩:=hp.get hx
  refine wpAny_pyNext_dict_item hit hm e1 fun key h' hk hi' sb=>?_
  obtain ⟨o',q1,q2,q3⟩:=hi'
  obtain ⟨t,rfl⟩:∃ t,key=.int k t:=intKey hk
  exact ⟨T,.int k,_,.refl _,I.set1 (tk:=s.toks) e trivial sb q1 (.io (k:=.kiter d (i+1) kvs.length ep) ⟨q2,by rw [q3,hp.len]⟩),.int _ _,h1 k x hx⟩
 | none=>exact wpAny_pyNext_dict_end hh hit hm (hp.noneOf hx) fun h' k=>⟨T,R,.refl _,I.drop1 (tk:=s.toks) e k,h2 hx⟩⟩
theorem PI.vals {v d:Addr} {kvs:List (Int×V)} {ep:Nat} {Q:Addr->HL->Prop} (mv:Ext v (.io (.vview d)) H R) (m:(d,.dictI kvs ep)∈H) (hq:∀ it,Q it ((it,.io (.viter d 0 kvs.length ep))::R)):PI D A (.ref v) H Q:=⟨fun fm T s vs u I hx=>by
 obtain ⟨_,rfl⟩:=hx.inv
 obtain ⟨l,h1,hp,h2⟩:=I.dictIAt m
 obtain ⟨ob,g3,g4,g5⟩:=I.ioAt mv.mem
 exact wpAny_pyIter_values (knd:=intKind D.prog D.w) ⟨_,g3,g4,g5⟩ h1 ⟨T,_,_,rfl,.refl _,(I.forget mv).new1 (tk:=s.toks) rfl (.io (k:=.viter d 0 kvs.length ep) ⟨rfl,by rw [hp.len]; rfl⟩),hq _⟩⟩
theorem NX.vals {d it:Addr} {i ep:Nat} {kvs:List (Int×V)} {Q:Option V->HL->Prop} (hh:A.handled=none) (e:Ext it (.io (.viter d i kvs.length ep)) H R) (m:(d,.dictI kvs ep)∈H)
  (h1:∀ k x,kvs[i]?=some (k,x)->Q (some x) ((it,.io (.viter d (i+1) kvs.length ep))::R)) (h2:kvs[i]?=none->Q none R):NX D A it H Q:=⟨fun fm T s vs I=>by
 obtain ⟨ob,g3,g4,g5⟩:=I.ioAt e.mem
 obtain ⟨l,hm,hp,_⟩:=I.dictIAt m
 have hit:s.heap.IsValIter it d i l.length ep:=⟨_,g3,g4,by rw [g5,hp.len]⟩
 cases hx:kvs[i]? with
 | some q=>
  obtain ⟨k,x⟩:=q
  obtain ⟨v,e1,e2⟩:=hp.get hx
  refine wpAny_pyNext_values_item hit hm e1 fun h' hi' sb=>?_
  obtain ⟨o',q1,q2,q3⟩:=hi'
  exact ⟨T,x,_,.refl _,I.set1 (tk:=s.toks) e trivial sb q1 (.io (k:=.viter d (i+1) kvs.length ep) ⟨q2,by rw [q3,hp.len]⟩),e2,h1 k x hx⟩
 | none=>exact wpAny_pyNext_values_end hh hit hm (hp.noneOf hx) fun h' k=>⟨T,R,.refl _,I.drop1 (tk:=s.toks) e k,h2 hx⟩⟩
end
end Mine
end
section
namespace Mine
section
variable {D:Wd} {fm:Fm} {A:Around} {env:Env} {H R:HL} {vs:List (Option V)} {T:Led} {s:Shared}
inductive OutA (D:Wd) (fm:Fm) (T:Led) (Q:HL->List (Option V)->Prop) (s':Shared):Prop where
 | mk (T':Led) (H':HL) (vs':List (Option V)) (st:Sub T T') (I:Inv D fm T' s' H' vs') (q:Q H' vs')
inductive AtN (D:Wd) (fm:Fm) (T:Led) (Iv:Nat->HL->List (Option V)->Prop) (n:Nat) (s':Shared):Prop where
 | mk (T':Led) (H':HL) (vs':List (Option V)) (st:Sub T T') (I:Inv D fm T' s' H' vs') (i:Iv n H' vs')
noncomputable def Imp3 (P N:Fl->HL->List (Option V)->Prop):Prop:=∀ {fl H vs},P fl H vs->N fl H vs
noncomputable def Imp2 (P N:HL->List (Option V)->Prop):Prop:=∀ {H vs},P H vs->N H vs
inductive Dn (Iv:Nat->HL->List (Option V)->Prop) (n:Nat) (H:HL) (vs:List (Option V)):Prop where
 | mk (m:Nat) (h:m < n) (i:Iv m H vs)
@[reducible] noncomputable def turnQ (Jn:HL->List (Option V)->Prop) (Q:Fl->HL->List (Option V)->Prop):Fl->HL->List (Option V)->Prop:=fun fl H vs=>match fl with
 | .next=>Jn H vs
 | .cont=>Jn H vs
 | .brk=>Q .next H vs
 | .ret v=>Q (.ret v) H vs
@[reducible] noncomputable def bodyQ (D:Wd) (fm:Fm) (A:Around) (env:Env) (body:List Stmt) (Q:Fl->HL->List (Option V)->Prop):HL->List (Option V)->Prop:=fun H vs=>XS D fm A env body H vs Q
structure AS (D:Wd) (fm:Fm) (A:Around) (env:Env) (target:Expr) (it:Addr) (x:V) (H:HL) (vs:List (Option V)) (Q:HL->List (Option V)->Prop):Prop where
 run:EnvOk fm env->∀ T s v,Inv D fm T s H vs->VRel T x v->wpAny (model D.prog D.w) A (letOwnedTupleGo target (.ref it) v) (fun _ s₁=>wpAny (model D.prog D.w) A (assign target env v)
  (fun _=>OutA D fm T Q) NoE s₁) NoE s
theorem AS.loc {x:Str} {p:Pos} {it:Addr} {y:V} {i:Nat} {Q:HL->List (Option V)->Prop} (hk:env.scope.names.lookup x=some .local) (hi:fm.ns[i]?=some x) (hq:Q H (vs.set i (some y))) :
  AS D fm A env (.Name x p) it y H vs Q:=⟨fun he T s v I hy=>wpAny_of_eq (a:=()) rfl (wpAny_assign_Name (storeL he hk hi I hy fun s' I'=>⟨T,_,_,.refl _,I',hq⟩))⟩
theorem AS.cell {x:Str} {p:Pos} {it:Addr} {y:V} {c:Addr} {o₀:Option V} {Q:HL->List (Option V)->Prop} (hk:env.scope.names.lookup x=some .cell) (hc:env.cells.lookup x=some c) (hm:Ext c (.cell o₀) H R)
  (hq:Q ((c,.cell (some y))::R) vs):AS D fm A env (.Name x p) it y H vs Q:=⟨fun he T s v I hy=>wpAny_of_eq (a:=()) rfl (wpAny_assign_Name (storeC he hk hc hm I hy fun s' I'=>⟨T,_,_,.refl _,I',hq⟩))⟩
theorem codeAny_for2 {prog:Program} {w:World} {A:Around} {E:Value->Shared->Prop} {s:Shared} {Rr:Result->Shared->Prop} {target:Expr} {it:Value} {body orelse:List Stmt} {env:Env} (I:Nat->Shared->Prop)
  (turn:∀ n s,I n s->wpAny (model prog w) A (pyNext it) (fun r s₁=>match r with
   | none=>wpAny (model prog w) A (execs orelse env) (fun f s₃=>Rr (.ok f) s₃) NoE s₁
   | some v=>wpAny (model prog w) A (letOwnedTupleGo target it v) (fun _ s₀=>wpAny (model prog w) A (assign target env v) (fun _ s₂=>wpAny (model prog w) A (execs body env) (fun f s₃=>match f with
     | .next | .cont=>∃ m,m < n/\I m s₃
     | .brk=>Rr (.ok .next) s₃
     | .ret v=>Rr (.ok (.ret v)) s₃) NoE s₂) NoE s₀) NoE s₁) NoE s)
  (n:Nat) (h:I n s):codeAny (model prog w) A (.forLoop target it body orelse env) Rr s:=by
 refine codeAny_loop' rfl I (fun n s hI=>?_) n h
 show wpAny _ _ ((forTurn target it body orelse env).onRaise (fun x=>do noteFrame x env; theTreesLotGoes x)) _ _ s
 refine wpAny_noted ?_
 simp only [forTurn]
 refine wpAny_bind (wpAny_standAt (wpAny_bind (wpAny_onRaise (wpAny_mono (turn n s hI) (fun r s₁ h₁=>?_) noE))))
 cases r with
 | none=>exact wpAny_pure (.inr ⟨rfl,codeAny_block (wpAny_mono h₁ (fun _ _ x=>x) noE)⟩)
 | some v=>
  refine wpAny_bind (wpAny_mono h₁ (fun _ s₀ h₀=>?_) noE)
  refine wpAny_bind (wpAny_mono h₀ (fun _ s₂ h₂=>wpAny_bind (wpAny_mono h₂ (fun f s₃ h₃=>?_) noE)) noE)
  cases f with
  | next=>exact wpAny_pure (.inl ⟨rfl,h₃⟩)
  | cont=>exact wpAny_pure (.inl ⟨rfl,h₃⟩)
  | brk=>exact wpAny_pure h₃
  | ret v=>exact wpAny_pure h₃
@[reducible] noncomputable def forN (D:Wd) (fm:Fm) (A:Around) (env:Env) (target:Expr) (body orelse:List Stmt) (it:Addr) (vs:List (Option V)) (N Q:Fl->HL->List (Option V)->Prop):Option V->HL->Prop:=fun o H=>match o with
 | none=>XS D fm A env orelse H vs Q
 | some x=>AS D fm A env target it x H vs (bodyQ D fm A env body N)
inductive ForI (D:Wd) (fm:Fm) (A:Around) (env:Env) (target:Expr) (body orelse:List Stmt) (vs:List (Option V)) (Q:Fl->HL->List (Option V)->Prop) (it:Addr) (H:HL):Prop where
 | mk (Iv:Nat->HL->List (Option V)->Prop) (i:∃ n,Iv n H vs) (t:∀ n H₃ vs₃ (N:Fl->HL->List (Option V)->Prop),Imp3 (turnQ (Dn Iv n) Q) N->Iv n H₃ vs₃->NX D A it H₃ (forN D fm A env target body orelse it vs₃ N Q))
@[reducible] noncomputable def itP (D:Wd) (A:Around) (K:Addr->HL->Prop):V->HL->Prop:=fun x H=>PI D A x H K
theorem EX.for_ {target iter:Expr} {body orelse:List Stmt} {pos:Pos} {Q:Fl->HL->List (Option V)->Prop}
  (h:EV D fm A env iter H vs (itP D A (ForI D fm A env target body orelse vs Q)))
  (hs:∀ x,foldedSetIterable iter env x=pure x:=by intro _; rfl):EX D fm A env (.For target iter body orelse pos) H vs Q:=⟨fun he T s I=>wpAny_For (wpNoE (h.run he T s I) fun v s₁ ⟨T₁,x,H₁,st₁,I₁,hx,h₁⟩=>wpNoE (h₁.run _ _ _ _ _ I₁ hx) fun w s₂ oo=>by
  obtain ⟨T₂,it,H₂,hw,st₂,I₂,Iv,⟨n₀,hI₀⟩,turn⟩:=oo
  subst hw
  refine codeAny_mono (codeAny_for2 (Rr:=fun r s'=>match r with | .ok f=>OutF D fm T Q f s' | .error _=>False)
   (AtN D fm T Iv) (E:=NoE) (fun n s₃ ⟨T₃,H₃,vs₃,st₃,I₃,hI₃⟩=>?_) n₀ ⟨T₂,H₂,vs,st₁.trans st₂,I₂,hI₀⟩) fun r s' hr=>by
    cases r with
    | ok f=>exact hr
    | error e=>exact hr.elim
  refine wpNoE ((turn n H₃ vs₃ (turnQ (Dn Iv n) Q) (fun {_ _ _} h=>h) hI₃).run _ _ _ _ I₃) fun o s₄ h₄=>?_
  cases o with
  | none=>
   obtain ⟨T₄,H₄,st₄,I₄,h₄⟩:=h₄
   exact wpNoE (h₄.run he _ _ I₄) fun _ _ o=>o.sub (st₃.trans st₄)
  | some v=>
   obtain ⟨T₄,x,H₄,st₄,I₄,hx,h₄⟩:=h₄
   refine wpNoE (h₄.run he _ _ _ I₄ hx) fun _ s₀ h₀=>wpNoE h₀ fun _ s₅ ⟨T₅,H₅,vs₅,st₅,I₅,h₅⟩=>wpNoE (h₅.run he _ _ I₅) fun f s₆ oo=>?_
   obtain ⟨T₆,fl,H₆,vs₆,st₆,I₆,hf,h₆⟩:=oo
   have st:=((st₃.trans st₄).trans st₅).trans st₆
   cases hf with
   | next=>obtain ⟨m,hm,h₆⟩:=h₆; exact ⟨m,hm,T₆,H₆,vs₆,st,I₆,h₆⟩
   | cont=>obtain ⟨m,hm,h₆⟩:=h₆; exact ⟨m,hm,T₆,H₆,vs₆,st,I₆,h₆⟩
   | brk=>exact ⟨T₆,_,H₆,vs₆,st,I₆,.next,h₆⟩
   | ret hr=>exact ⟨T₆,_,H₆,vs₆,st,I₆,.ret hr,h₆⟩) hs⟩
inductive WhQ (D:Wd) (fm:Fm) (A:Around) (env:Env) (body orelse:List Stmt) (vs:List (Option V)) (Jn:HL->List (Option V)->Prop) (Q:Fl->HL->List (Option V)->Prop) (b:Bool) (H:HL):Prop where
 | mk (t:b=true->XS D fm A env body H vs (turnQ Jn Q)) (f:b=false->XS D fm A env orelse H vs Q)
theorem EX.while_ {test:Expr} {body orelse:List Stmt} {pos:Pos} {Q:Fl->HL->List (Option V)->Prop} (Iv:Nat->HL->List (Option V)->Prop) (h:∃ n,Iv n H vs)
  (turn:∀ n H₁ vs₁,Iv n H₁ vs₁->EB D fm A env test H₁ vs₁ (WhQ D fm A env body orelse vs₁ (Dn Iv n) Q)):EX D fm A env (.While test body orelse pos) H vs Q:=⟨fun he T s I=>by
 obtain ⟨n₀,hI₀⟩:=h
 refine wpAny_While (codeAny_mono (codeAny_whileLoop (R:=fun r s'=>match r with | .ok f=>OutF D fm T Q f s' | .error _=>False)
   (AtN D fm T Iv) (fun n s₃ ⟨T₃,H₃,vs₃,st₃,I₃,hI₃⟩=>?_) n₀ ⟨T,H,vs,.refl _,I,hI₀⟩) fun r s' hr=>by
    cases r with
    | ok f=>exact hr
    | error e=>exact hr.elim)
 refine wpNoE ((turn n H₃ vs₃ hI₃).run he _ _ I₃) fun b s₄ oo=>?_
 obtain ⟨T₄,H₄,st₄,I₄,ht,hf⟩:=oo
 cases b with
 | false=>exact wpNoE ((hf rfl).run he _ _ I₄) fun _ _ o=>o.sub (st₃.trans st₄)
 | true=>
  refine wpNoE ((ht rfl).run he _ _ I₄) fun f s₆ oo=>?_
  obtain ⟨T₆,fl,H₆,vs₆,st₆,I₆,hf,h₆⟩:=oo
  have st:=(st₃.trans st₄).trans st₆
  cases hf with
  | next=>obtain ⟨m,hm,h₆⟩:=h₆; exact ⟨m,hm,T₆,H₆,vs₆,st,I₆,h₆⟩
  | cont=>obtain ⟨m,hm,h₆⟩:=h₆; exact ⟨m,hm,T₆,H₆,vs₆,st,I₆,h₆⟩
  | brk=>exact ⟨T₆,_,H₆,vs₆,st,I₆,.next,h₆⟩
  | ret hr=>exact ⟨T₆,_,H₆,vs₆,st,I₆,.ret hr,h₆⟩⟩
noncomputable def NotRef:V->Prop
 | .ref _=>False
 | .tup _=>False
 | .raw _=>False
 | _=>True
@[reducible] noncomputable def expQ (vs:List (Option V)) (Q:Fl->HL->List (Option V)->Prop):V->HL->Prop:=fun x H=>NotRef x/\Q .next H vs
theorem EX.expr {e:Expr} {pos:Pos} {Q:Fl->HL->List (Option V)->Prop} (h:EV D fm A env e H vs (expQ vs Q)) (hs:swapsWith e none pos.line env=pure false:=by rfl) :
  EX D fm A env (.Expr e pos) H vs Q:=⟨fun he T s I=>wpAny_Expr (wpNoE (h.run he T s I) fun v s₁ oo=>by
 obtain ⟨T₁,x,H₁,st₁,I₁,hx,hn,hq⟩:=oo
 have ok:OutF D fm T Q .next s₁:=⟨T₁,_,H₁,vs,st₁,I₁,.next,hq⟩
 cases hx <;> first | exact ok | exact hn.elim) (by unfold interactive; rw [he.kind]; rfl) hs⟩
structure IP (D:Wd) (A:Around) (op:Operator) (x y:V) (H:HL) (Q:V->HL->Prop):Prop where
 run:∀ fm T s vs v w,Inv D fm T s H vs->VRel T x v->VRel T y w->wpAny (model D.prog D.w) A (inplaceOp op v w) (Out D fm T vs Q) NoE s
theorem IP.add {a b:Int} {Q:V->HL->Prop} (hq:Q (.int (a+b)) H):IP D A .Add (.int a) (.int b) H Q:=⟨fun fm T s vs v w I hx hy=>by
 obtain ⟨_,rfl⟩:=hx.inv; obtain ⟨_,rfl⟩:=hy.inv; exact iadd_int ⟨T,_,_,.refl _,I.toks,.int _ _,hq⟩⟩
@[reducible] noncomputable def ipP (D:Wd) (A:Around) (op:Operator) (y:V) (K:V->HL->Prop):V->HL->Prop:=fun z H=>IP D A op y z H K
@[reducible] noncomputable def augR (D:Wd) (A:Around) (name:Str) (x:V) (vs:List (Option V)) (Q:Fl->HL->List (Option V)->Prop):V->HL->Prop:=fun r H=>SA D A name x r H (stepQ vs Q)
@[reducible] noncomputable def augQ (D:Wd) (A:Around) (op:Operator) (name:Str) (x:V) (vs:List (Option V)) (Q:Fl->HL->List (Option V)->Prop):V->V->HL->Prop:=fun y=>ipP D A op y (augR D A name x vs Q)
@[reducible] noncomputable def augP (D:Wd) (fm:Fm) (A:Around) (env:Env) (op:Operator) (name:Str) (e:Expr) (vs:List (Option V)) (Q:Fl->HL->List (Option V)->Prop):V->HL->Prop:=fun x H=>GA D A name x H (thenE D fm A env e vs (augQ D A op name x vs Q))
theorem EX.aug {x:Str} {p:Pos} {op:Operator} {e:Expr} {pos:Pos} {y:V} {i:Nat} {Q:Fl->HL->List (Option V)->Prop} (hk:env.scope.names.lookup x=some .local) (hi:fm.ns[i]?=some x) (hv:vs[i]?=some (some y))
  (h:EV D fm A env e H vs (ipP D A op y (asgQ vs i Q))):EX D fm A env (.AugAssign (.Name x p) op e pos) H vs Q:=⟨fun he T s I=>by
 obtain ⟨mc,w,h1,h2,h3⟩:=I.local hi hv
 exact wpAny_AugAssign_Name (wpAny_loadName_local he.kind hk (he.loc ▸ h1) h2 (wpNoE (h.run he T s I) fun u s₁ oo=>by obtain ⟨T₁,z,H₁,st₁,I₁,hz,h₁⟩:=oo; exact wpNoE (h₁.run _ _ _ _ _ _ I₁ (h3.mono st₁) hz) fun r s₂ oo=>by obtain ⟨T₂,rr,H₂,st₂,I₂,hr,hq⟩:=oo; exact storeL he hk hi I₂ hr fun s' I'=>⟨T₂,_,_,_,st₁.trans st₂,I',.next,hq⟩))⟩
theorem EX.augC {x:Str} {p:Pos} {op:Operator} {e:Expr} {pos:Pos} {y:V} {c:Addr} {Q:Fl->HL->List (Option V)->Prop} (hk:env.scope.names.lookup x=some .cell) (hc:env.cells.lookup x=some c) (hv:(c,.cell (some y))∈H)
  (h:EV D fm A env e H vs (ipP D A op y (AsgC vs c Q))):EX D fm A env (.AugAssign (.Name x p) op e pos) H vs Q:=⟨fun he T s I=>by
 obtain ⟨w,h1,h3⟩:=cell_of I hv
 exact wpAny_AugAssign_Name (wpAny_loadName_cell he.kind hk hc h1 (wpNoE (h.run he T s I) fun u s₁ oo=>by obtain ⟨T₁,z,H₁,st₁,I₁,hz,h₁⟩:=oo; exact wpNoE (h₁.run _ _ _ _ _ _ I₁ (h3.mono st₁) hz) fun r s₂ oo=>by obtain ⟨T₂,rr,H₂,st₂,I₂,hr,o₀,R,hm,hq⟩:=oo; exact storeC he hk hc hm I₂ hr fun s' I'=>⟨T₂,_,_,_,st₁.trans st₂,I',.next,hq⟩))⟩
theorem EX.augA {o:Expr} {name:Str} {tp pos:Pos} {op:Operator} {e:Expr} {Q:Fl->HL->List (Option V)->Prop}
  (h:EV D fm A env o H vs (augP D fm A env op name e vs Q)) :
  EX D fm A env (.AugAssign (.Attribute o name tp) op e pos) H vs Q:=⟨fun he T s I=>wpAny_AugAssign_AttributeAny (wpNoE (h.run he T s I) fun v s₁ oo=>by obtain ⟨T₁,x,H₁,st₁,I₁,hx,h₁⟩:=oo; exact wpNoE (h₁.run _ _ _ _ _ I₁ hx true) fun u s₂ oo=>by obtain ⟨T₂,y,H₂,st₂,I₂,hy,h₂⟩:=oo; exact wpNoE (h₂.run he _ _ I₂) fun w s₃ oo=>by obtain ⟨T₃,z,H₃,st₃,I₃,hz,h₃⟩:=oo; exact wpNoE (h₃.run _ _ _ _ _ _ I₃ (hy.mono st₃) hz) fun q s₄ oo=>by obtain ⟨T₄,r,H₄,st₄,I₄,hr,h₄⟩:=oo; exact wpNoE (h₄.run _ _ _ _ _ _ I₄ (hx.mono ((st₂.trans st₃).trans st₄)) hr) fun _ s₅ oo=>by obtain ⟨T₅,H₅,st₅,I₅,hq⟩:=oo; exact ⟨T₅,_,H₅,vs,(((st₁.trans st₂).trans st₃).trans st₄).trans st₅,I₅,.next,hq⟩)⟩
structure SI (D:Wd) (A:Around) (o i y:V) (H:HL) (Q:HL->Prop):Prop where
 run:∀ fm T s vs ov iv w,Inv D fm T s H vs->VRel T o ov->VRel T i iv->VRel T y w->wpAny (model D.prog D.w) A (setItem ov iv w) (fun _=>OutS D fm T vs Q) NoE s
@[reducible] noncomputable def setK (D:Wd) (A:Around) (y:V) (vs:List (Option V)) (Q:Fl->HL->List (Option V)->Prop):V->V->HL->Prop:=fun x k H=>SI D A x k y H (stepQ vs Q)
@[reducible] noncomputable def setI (D:Wd) (fm:Fm) (A:Around) (env:Env) (i:Expr) (vs:List (Option V)) (Q:Fl->HL->List (Option V)->Prop):V->V->HL->Prop:=fun y=>thenE D fm A env i vs (setK D A y vs Q)
theorem EX.setItem {o i:Expr} {p pos:Pos} {e:Expr} {Q:Fl->HL->List (Option V)->Prop} (h:EV D fm A env e H vs (thenE D fm A env o vs (setI D fm A env i vs Q)))
  (hs:swapsWith e (some (.Subscript o i p)) pos.line env=pure false:=by rfl):EX D fm A env (.Assign [.Subscript o i p] e pos) H vs Q:=⟨fun he T s I=>wpAny_Assign_Subscript (wpNoE (h.run he T s I) fun v s₁ oo=>by obtain ⟨T₁,y,H₁,st₁,I₁,hy,h₁⟩:=oo; exact wpNoE (h₁.run he T₁ s₁ I₁) fun w s₂ oo=>by obtain ⟨T₂,x,H₂,st₂,I₂,hx,h₂⟩:=oo; exact wpNoE (h₂.run he T₂ s₂ I₂) fun u s₃ oo=>by obtain ⟨T₃,k,H₃,st₃,I₃,hk,h₃⟩:=oo; exact wpNoE (h₃.run _ _ _ _ _ _ _ I₃ (hx.mono st₃) hk (hy.mono (st₂.trans st₃))) fun _ s₄ oo=>by obtain ⟨T₄,H₄,st₄,I₄,hq⟩:=oo; exact ⟨T₄,_,H₄,vs,((st₁.trans st₂).trans st₃).trans st₄,I₄,.next,hq⟩) hs⟩
noncomputable def dget {α:Type} [DecidableEq α] (k:α) (l:List (α×V)):Option V:=(l.find? fun kv=>kv.1=k).map (·.2)
noncomputable def dput {α:Type} [DecidableEq α] (k:α) (x:V) (l:List (α×V)):List (α×V):=if l.any (fun kv=>kv.1=k) then l.map (fun kv=>if kv.1=k then (kv.1,x) else kv) else l++[(k,x)]
theorem PairsRel.any {α:Type} [DecidableEq α] {k:α} {l:List (α×V)} {l':List (α×Value)} (r:PairsRel T l l'):l'.any (fun kv=>kv.1=k)=l.any (fun kv=>kv.1=k):=by
 induction r with
 | nil=>rfl
 | cons _ _ ih=>exact congrArg (or _) ih
theorem PairsRel.app {α:Type} {l:List (α×V)} {l':List (α×Value)} {m:List (α×V)} {m':List (α×Value)} (r:PairsRel T l l') (h:PairsRel T m m'):PairsRel T (l++m) (l'++m'):=by
 induction r with
 | nil=>exact h
 | cons r _ ih=>exact .cons r ih
theorem PairsRel.repl {α:Type} [DecidableEq α] {k:α} {x:V} {v:Value} (hx:VRel T x v) {l:List (α×V)} {l':List (α×Value)} (r:PairsRel T l l'):PairsRel T (l.map (fun kv=>if kv.1=k then (kv.1,x) else kv)) (l'.map (fun kv=>if kv.1=k then (kv.1,v) else kv)):=by
 induction r with
 | nil=>exact .nil
 | @cons k' _ _ _ _ r _ ih=>
  rw [List.map_cons,List.map_cons]
  by_cases h:k'=k
  ·rw [if_pos h,if_pos h]; exact .cons hx ih
  ·rw [if_neg h,if_neg h]; exact .cons r ih
theorem PairsRel.put {α:Type} [DecidableEq α] {k:α} {x:V} {v:Value} {l:List (α×V)} {l':List (α×Value)} (h:PairsRel T l l') (hx:VRel T x v):PairsRel T (dput k x l) (stored l' k v):=by
 unfold dput stored
 rw [h.any]
 split
 ·exact h.repl hx
 ·exact h.app (.cons hx .nil)
theorem PairsRel.at {α:Type} [DecidableEq α] {k:α} {l:List (α×V)} {l':List (α×Value)} (r:PairsRel T l l'):(match dget k l with | some x=>∃ v,valueAt l' k=some v/\VRel T x v | none=>valueAt l' k=none):=by
 induction r with
 | nil=>rfl
 | @cons k' x v l l' r _ ih=>
  unfold dget valueAt at ih ⊢
  by_cases h:k'=k
  ·rw [List.find?_cons_of_pos (by simpa using h),List.find?_cons_of_pos (by simpa using h)]; exact ⟨v,rfl,r⟩
  ·rw [List.find?_cons_of_neg (by simpa using h),List.find?_cons_of_neg (by simpa using h)]; exact ih
theorem Inv.dictISet {a:Addr} {kvs kvs':List (Int×V)} {l':List (Int×Value)} {ep:Nat} {h':Heap} {tk:Tok} (e:Ext a (.dictI kvs ep) H R) (I:Inv D fm T s H vs) (hd:h'.DictOf (intKind D.prog D.w) a l') (sb:Heap.SameBut a s.heap h') (hp:PairsRel T kvs' l') :
  ∃ ep',Inv D fm T { s with heap:=h',toks:=tk } ((a,.dictI kvs' ep')::R) vs:=by
 obtain ⟨ep',o,es,h1,h2,h3,h4,h5,h6⟩:=hd.dictAt
 exact ⟨ep',I.set1 e trivial sb h1 (.dictI ⟨es,h2,h3,h4,h5,h6⟩ hp)⟩
theorem Inv.dictSSet {a:Addr} {kvs kvs':List (Str×V)} {l':List (Str×Value)} {ep:Nat} {h':Heap} {tk:Tok} (e:Ext a (.dictS kvs ep) H R) (I:Inv D fm T s H vs) (hd:h'.DictOf (PySem.strKind D.prog D.w) a l') (sb:Heap.SameBut a s.heap h') (hp:PairsRel T kvs' l') :
  ∃ ep',Inv D fm T { s with heap:=h',toks:=tk } ((a,.dictS kvs' ep')::R) vs:=by
 obtain ⟨ep',o,es,h1,h2,h3,h4,h5,h6⟩:=hd.dictAt
 exact ⟨ep',I.set1 e trivial sb h1 (.dictS ⟨es,h2,h3,h4,h5,h6⟩ hp)⟩
theorem isInt_key (k:Int) (t:Tok):(intKind D.prog D.w).is k (.int k t)=true:=by simp [intKind,Value.isInt]
theorem isStr_key (k:Str) (t:Tok):(PySem.strKind D.prog D.w).is k (.str k t)=true:=by simp [PySem.strKind,Value.isStrOf]
theorem SI.dictI {a:Addr} {kvs:List (Int×V)} {ep:Nat} {k:Int} {y:V} {Q:HL->Prop} (e:Ext a (.dictI kvs ep) H R) (hz:kvs.length<=sizeLine) (hq:∀ ep',Q ((a,.dictI (dput k y kvs) ep')::R)):SI D A (.ref a) (.int k) y H Q:=⟨fun fm T s vs ov iv w I ho hi hy=>by
 obtain ⟨_,rfl⟩:=ho.inv; obtain ⟨_,rfl⟩:=hi.inv
 obtain ⟨l,h1,hp,h2⟩:=I.dictIAt e.mem
 refine wpAny_setItem_pairs (isInt_key _ _) h1.dictOf (fun h' hd sb=>?_) (by rw [<- hp.len]; exact hz)
 obtain ⟨ep',I'⟩:=I.dictISet (tk:=s.toks+1) e hd sb (hp.put hy)
 exact ⟨T,_,.refl _,I',hq ep'⟩⟩
theorem SI.dictS {a:Addr} {kvs:List (Str×V)} {ep:Nat} {k:Str} {y:V} {Q:HL->Prop} (e:Ext a (.dictS kvs ep) H R) (hz:kvs.length<=sizeLine) (hq:∀ ep',Q ((a,.dictS (dput k y kvs) ep')::R)):SI D A (.ref a) (.str k) y H Q:=⟨fun fm T s vs ov iv w I ho hi hy=>by
 obtain ⟨_,rfl⟩:=ho.inv; obtain ⟨_,rfl⟩:=hi.inv
 obtain ⟨l,h1,hp,h2⟩:=I.dictSAt e.mem
 refine wpAny_setItem_pairs (isStr_key _ _) h1.dictOf (fun h' hd sb=>?_) (by rw [<- hp.len]; exact hz)
 obtain ⟨ep',I'⟩:=I.dictSSet (tk:=s.toks+1) e hd sb (hp.put hy)
 exact ⟨T,_,.refl _,I',hq ep'⟩⟩
theorem cp_not {x:Value} {d:Value} {Q:Value->Shared->Prop} {M:Model} (h:wpAny M A (compareOp .In x d) (fun v s'=>∃ b,v=.bool b/\Q (.bool (!b)) s') NoE s):wpAny M A (compareOp .NotIn x d) Q NoE s:=by
 have h':wpAny M A (contains d x >>= fun b=>pure (Value.bool b)) (fun v s'=>∃ b,v=Value.bool b/\Q (Value.bool (!b)) s') NoE s:=h
 show wpAny M A (contains d x >>= fun b=>pure (Value.bool (!b))) Q NoE s
 intro Γ p hΓ
 have:=h' Γ p hΓ
 rw [Sem.wp_bind'] at this ⊢
 refine Sem.wp_mono M Γ _ (fun b p' s' h1=>?_) (fun _ _ _ x=>x) p s this
 obtain ⟨b',e,hq⟩:=h1
 cases e
 exact hq
theorem CP.inI {a:Addr} {kvs:List (Int×V)} {ep:Nat} {k:Int} {Q:V->HL->Prop} (m:(a,.dictI kvs ep)∈H) (hq:Q (.bool (dget k kvs).isSome) H):CP D A .In (.int k) (.ref a) H Q:=⟨fun fm T s vs v w I hx hy=>by
 obtain ⟨_,rfl⟩:=hx.inv; obtain ⟨_,rfl⟩:=hy.inv
 obtain ⟨l,h1,hp,h2⟩:=I.dictIAt m
 refine wpAny_in_of (isInt_key _ _) h2 h1.dictOf.mapOf ?_
 have:=hp.at (k:=k)
 cases hg:dget k kvs with
 | none=>rw [hg] at this hq; rw [this]; exact ⟨T,_,_,.refl _,I.toks,.bool _,hq⟩
 | some x=>rw [hg] at this hq; obtain ⟨v,e,_⟩:=this; rw [e]; exact ⟨T,_,_,.refl _,I.toks,.bool _,hq⟩⟩
theorem CP.inS {a:Addr} {kvs:List (Str×V)} {ep:Nat} {k:Str} {Q:V->HL->Prop} (m:(a,.dictS kvs ep)∈H) (hq:Q (.bool (dget k kvs).isSome) H):CP D A .In (.str k) (.ref a) H Q:=⟨fun fm T s vs v w I hx hy=>by
 obtain ⟨_,rfl⟩:=hx.inv; obtain ⟨_,rfl⟩:=hy.inv
 obtain ⟨l,h1,hp,h2⟩:=I.dictSAt m
 refine wpAny_in_of (isStr_key _ _) h2 h1.dictOf.mapOf ?_
 have:=hp.at (k:=k)
 cases hg:dget k kvs with
 | none=>rw [hg] at this hq; rw [this]; exact ⟨T,_,_,.refl _,I.toks,.bool _,hq⟩
 | some x=>rw [hg] at this hq; obtain ⟨v,e,_⟩:=this; rw [e]; exact ⟨T,_,_,.refl _,I.toks,.bool _,hq⟩⟩
inductive NotV (Q:V->HL->Prop) (z:V) (H:HL):Prop where
 | mk (b:Bool) (e:z=.bool b) (q:Q (.bool (!b)) H)
theorem CP.notIn {x y:V} {Q:V->HL->Prop} (h:CP D A .In x y H (NotV Q)):CP D A .NotIn x y H Q:=⟨fun fm T s vs v w I hx hy=>
 cp_not (wpNoE (h.run _ _ _ _ _ _ I hx hy) fun r s' oo=>by obtain ⟨T',z,H',st,I',hz,b,e,hq⟩:=oo; exact by subst e; obtain ⟨_,rfl⟩:=hz.inv; exact ⟨b,rfl,T',_,H',st,I',.bool _,hq⟩)⟩
structure GI (D:Wd) (A:Around) (o i:V) (H:HL) (Q:V->HL->Prop):Prop where
 run:∀ fm T s vs ov iv,Inv D fm T s H vs->VRel T o ov->VRel T i iv->(∃ T id,s.TypeIs ov T/\typeLookup (.type T) "__getitem__"=pure (some (.builtin id)))/\wpAny (model D.prog D.w) A (getItem ov iv) (Out D fm T vs Q) NoE s
@[reducible] noncomputable def subQ (D:Wd) (A:Around) (Q:V->HL->Prop):V->V->HL->Prop:=fun x k H=>GI D A x k H Q
theorem EV.sub {o i:Expr} {pos:Pos} {Q:V->HL->Prop} (h:EV D fm A env o H vs (thenE D fm A env i vs (subQ D A Q)))
  (hs:∀ ov iv,subscripted i false ov iv=operate [ov,iv] (getItem ov iv):=by intro _ _; with_unfolding_all rfl):EV D fm A env (.Subscript o i pos) H vs Q:=⟨fun he T s I=>
 Subscript_ (wpNoE (h.run he T s I) fun ov s₁ ⟨T₁,x,H₁,st₁,I₁,hx,h₁⟩=>wpNoE (h₁.run he _ _ I₁) fun iv s₂ oo=>by
  obtain ⟨T₂,k,H₂,st₂,I₂,hk,h₂⟩:=oo
  obtain ⟨⟨Ty,id,t1,t2⟩,hg⟩:=h₂.run _ _ _ _ _ _ I₂ (hx.mono st₂) hk
  exact tail_any t1 t2 (wpNoE hg fun _ _ o=>o.sub (st₁.trans st₂)) (hs ov iv))⟩
theorem GI.dictI {a:Addr} {kvs:List (Int×V)} {ep:Nat} {k:Int} {x:V} {Q:V->HL->Prop} (m:(a,.dictI kvs ep)∈H) (hg:dget k kvs=some x) (hq:Q x H):GI D A (.ref a) (.int k) H Q:=⟨fun fm T s vs ov iv I ho hi=>by
 obtain ⟨_,rfl⟩:=ho.inv; obtain ⟨_,rfl⟩:=hi.inv
 obtain ⟨l,h1,hp,h2⟩:=I.dictIAt m
 have:=hp.at (k:=k)
 rw [hg] at this
 obtain ⟨v,e,hr⟩:=this
 exact ⟨⟨"dict",_,h1.dictOf.typeIs,PySem.F.slot_dict_getitem.lookup⟩,wpAny_getItem_of (isInt_key _ _) h1.dictOf.mapOf e ⟨T,x,H,.refl _,I.toks,hr,hq⟩⟩⟩
theorem GI.dictS {a:Addr} {kvs:List (Str×V)} {ep:Nat} {k:Str} {x:V} {Q:V->HL->Prop} (m:(a,.dictS kvs ep)∈H) (hg:dget k kvs=some x) (hq:Q x H):GI D A (.ref a) (.str k) H Q:=⟨fun fm T s vs ov iv I ho hi=>by
 obtain ⟨_,rfl⟩:=ho.inv; obtain ⟨_,rfl⟩:=hi.inv
 obtain ⟨l,h1,hp,h2⟩:=I.dictSAt m
 have:=hp.at (k:=k)
 rw [hg] at this
 obtain ⟨v,e,hr⟩:=this
 exact ⟨⟨"dict",_,h1.dictOf.typeIs,PySem.F.slot_dict_getitem.lookup⟩,wpAny_getItem_of (isStr_key _ _) h1.dictOf.mapOf e ⟨T,x,H,.refl _,I.toks,hr,hq⟩⟩⟩
theorem GI.list {a:Addr} {xs:List V} {k:Int} {x:V} {Q:V->HL->Prop} (m:(a,.list xs)∈H) (h0:0<=k) (hf:k < 2 ^ 63) (hg:xs[k.toNat]?=some x) (hq:Q x H):GI D A (.ref a) (.int k) H Q:=⟨fun fm T s vs ov iv I ho hi=>by
 obtain ⟨_,rfl⟩:=ho.inv; obtain ⟨_,rfl⟩:=hi.inv
 obtain ⟨ws,n,h1,h2⟩:=I.listAt m
 obtain ⟨v,e,hr⟩:=h2.get hg
 have hl:s.heap.IsList a ws.toArray:=⟨_,h1,rfl,_,rfl⟩
 exact ⟨⟨"list",_,hl.typeIs,PySem.F.slot_list_getitem.lookup⟩,wpAny_getItem_list hl h0 hf (by simpa using e) ⟨T,x,H,.refl _,I,hr,hq⟩⟩⟩
end
end Mine
end
section
namespace Mine
section
variable {D:Wd} {fm:Fm} {A:Around} {env:Env} {H R:HL} {vs:List (Option V)} {T:Led} {s:Shared}
theorem listM (name:Str) (id:String) (slot:Slot "list" name id) (hty:typeOf (.builtin id)=pure (.type "method_descriptor")) {a:Addr} {xs:List V} {Q:V->List V->HL->Prop} (m:(a,.list xs)∈H)
  (hq:Q (.raw (.builtin id)) [.ref a] H):GM D A name (.ref a) H Q:=⟨fun fm T s vs v pl I hx=>by
 obtain ⟨_,rfl⟩:=hx.inv
 obtain ⟨ws,n,h1,h2⟩:=I.listAt m
 exact getMethod_builtin ⟨_,h1,rfl⟩ PySem.F.plainAttrs_list slot hty (fun b e=>by cases e; exact ⟨_,h1,rfl⟩) ⟨T,_,_,H,.refl _,I,.raw _,.cons (.ref a) .nil,hq⟩⟩
theorem GM.append {a:Addr} {xs:List V} {Q:V->List V->HL->Prop} (m:(a,.list xs)∈H) (hq:Q (.raw (.builtin "list.append")) [.ref a] H):GM D A "append" (.ref a) H Q:=listM _ _ PySem.F.slot_list_append PySem.F.type_list_append m hq
theorem GM.pop {a:Addr} {xs:List V} {Q:V->List V->HL->Prop} (m:(a,.list xs)∈H) (hq:Q (.raw (.builtin "list.pop")) [.ref a] H):GM D A "pop" (.ref a) H Q:=listM _ _ PySem.F.slot_list_pop PySem.F.type_list_pop m hq
theorem GM.insert {a:Addr} {xs:List V} {Q:V->List V->HL->Prop} (m:(a,.list xs)∈H) (hq:Q (.raw (.builtin "list.insert")) [.ref a] H):GM D A "insert" (.ref a) H Q:=listM _ _ PySem.F.slot_list_insert PySem.F.type_list_insert m hq
theorem GM.extend {a:Addr} {xs:List V} {Q:V->List V->HL->Prop} (m:(a,.list xs)∈H) (hq:Q (.raw (.builtin "list.extend")) [.ref a] H):GM D A "extend" (.ref a) H Q:=listM _ _ PySem.F.slot_list_extend PySem.F.type_list_extend m hq
theorem GM.reverse {a:Addr} {xs:List V} {Q:V->List V->HL->Prop} (m:(a,.list xs)∈H) (hq:Q (.raw (.builtin "list.reverse")) [.ref a] H):GM D A "reverse" (.ref a) H Q:=listM _ _ PySem.F.slot_list_reverse PySem.F.type_list_reverse m hq
theorem GM.index {a:Addr} {xs:List V} {Q:V->List V->HL->Prop} (m:(a,.list xs)∈H) (hq:Q (.raw (.builtin "list.index")) [.ref a] H):GM D A "index" (.ref a) H Q:=listM _ _ PySem.F.slot_list_index PySem.F.type_list_index m hq
theorem vrels1 {x:V} {ws:List Value} (h:VRels T [x] ws):∃ v,ws=[v]/\VRel T x v:=by
 cases h with | cons r rs=>cases rs; exact ⟨_,rfl,r⟩
theorem vrels2 {x y:V} {ws:List Value} (h:VRels T [x,y] ws):∃ v w,ws=[v,w]/\VRel T x v/\VRel T y w:=by
 cases h with | cons r rs=>obtain ⟨w,rfl,h2⟩:=vrels1 rs; exact ⟨_,_,rfl,r,h2⟩
theorem vrels3 {x y z:V} {ws:List Value} (h:VRels T [x,y,z] ws):∃ v w u,ws=[v,w,u]/\VRel T x v/\VRel T y w/\VRel T z u:=by
 cases h with | cons r rs=>obtain ⟨w,u,rfl,h2,h3⟩:=vrels2 rs; exact ⟨_,_,_,rfl,r,h2,h3⟩
theorem CL.append {a:Addr} {xs:List V} {y:V} {Q:V->HL->Prop} (e:Ext a (.list xs) H R) (hz:xs.length<=sizeLine) (hq:Q .none ((a,.list (xs++[y]))::R)):CL D A (.raw (.builtin "list.append")) [.ref a,y] H Q:=⟨fun fm T s vs fv ws I hf hw=>by
 obtain ⟨_,rfl⟩:=hf.inv
 obtain ⟨v,w,rfl,h1,h2⟩:=vrels2 hw
 obtain ⟨_,rfl⟩:=h1.inv
 obtain ⟨us,n,g1,g2⟩:=I.listAt e.mem
 exact call_meets PySem.F.slot_list_append ⟨_,g1,rfl⟩ PySem.F.entry_list_append (PySem.F.args_list_append_2 _ _) (PySem.list_append a us.toArray n w (by simpa [g2.length] using hz))
  ⟨g1,⟨T,.none,_,.refl _,I.listAs e g1 (by simpa using g2.append (.cons h2 .nil)),.none,hq⟩⟩⟩
theorem CL.pop {a:Addr} {xs:List V} {y:V} {Q:V->HL->Prop} (e:Ext a (.list (xs++[y])) H R) (hz:xs.length < sizeLine) (hq:Q y ((a,.list xs)::R)):CL D A (.raw (.builtin "list.pop")) [.ref a] H Q:=⟨fun fm T s vs fv ws I hf hw=>by
 obtain ⟨_,rfl⟩:=hf.inv
 obtain ⟨v,rfl,h1⟩:=vrels1 hw
 obtain ⟨_,rfl⟩:=h1.inv
 obtain ⟨us,n,g1,g2⟩:=I.listAt e.mem
 have hl:us.length=xs.length+1:=by rw [g2.length]; simp
 obtain ⟨u,hu,hr⟩:=g2.get (i:=xs.length) (x:=y) (by simp)
 have key:us.take xs.length=us.eraseIdx xs.length:=by
  rw [List.eraseIdx_eq_take_drop_succ,List.drop_of_length_le (by exact (Nat.le_of_eq hl)),List.append_nil]
 have e0:us.toArray.size - 1=xs.length:=by simp [hl]
 have hidx:us.toArray[us.toArray.size - 1]?=some u:=by rw [e0]; simpa using hu
 refine call_meets PySem.F.slot_list_pop ⟨_,g1,rfl⟩ PySem.F.entry_list_pop (PySem.F.args_list_pop_1 _) (PySem.MeetsSeq.list_pop_last a us.toArray n u hidx (by simp [hl]; exact hz))
  ⟨g1,⟨T,y,_,.refl _,I.listAs e g1 ?_,hr,hq⟩⟩
 have:=g2.take xs.length
 rw [List.take_left'] at this
 ·have e2:((us.toArray.eraseIdxIfInBounds (us.toArray.size - 1))).toList=us.take xs.length:=by
   rw [key]; simp [hl,Array.eraseIdxIfInBounds]
  rw [e2]; exact this
 ·rfl⟩
theorem CL.reverse {a:Addr} {xs:List V} {Q:V->HL->Prop} (e:Ext a (.list xs) H R) (hz:xs.length<=sizeLine) (hq:Q .none ((a,.list xs.reverse)::R)):CL D A (.raw (.builtin "list.reverse")) [.ref a] H Q:=⟨fun fm T s vs fv ws I hf hw=>by
 obtain ⟨_,rfl⟩:=hf.inv
 obtain ⟨v,rfl,h1⟩:=vrels1 hw
 obtain ⟨_,rfl⟩:=h1.inv
 obtain ⟨us,n,g1,g2⟩:=I.listAt e.mem
 exact call_meets PySem.F.slot_list_reverse ⟨_,g1,rfl⟩ PySem.F.entry_list_reverse (PySem.F.args_list_reverse_1 _) (PySem.AutoSeq1.list_reverse_list_0 a us.toArray n (by simpa [g2.length] using hz))
  ⟨g1,⟨T,.none,_,.refl _,I.listAs e g1 (by simpa using g2.reverse),.none,hq⟩⟩⟩
theorem CL.insert0 {a:Addr} {xs:List V} {y:V} {Q:V->HL->Prop} (e:Ext a (.list xs) H R) (hz:xs.length<=sizeLine) (hq:Q .none ((a,.list (y::xs))::R)):CL D A (.raw (.builtin "list.insert")) [.ref a,.int 0,y] H Q:=⟨fun fm T s vs fv ws I hf hw=>by
 obtain ⟨_,rfl⟩:=hf.inv
 obtain ⟨v,w,u,rfl,h1,h2,h3⟩:=vrels3 hw
 obtain ⟨_,rfl⟩:=h1.inv; obtain ⟨_,rfl⟩:=h2.inv
 obtain ⟨us,n,g1,g2⟩:=I.listAt e.mem
 exact call_meets PySem.F.slot_list_insert ⟨_,g1,rfl⟩ PySem.F.entry_list_insert (PySem.F.args_list_insert_3 _ _ _) (PySem.AutoSeq1.list_insert_list_int_val_1 a us.toArray n 0 _ u (by decide) (by simpa [g2.length] using hz))
  ⟨g1,⟨T,.none,_,.refl _,I.listAs e g1 (by simpa using VRels.cons h3 g2),.none,hq⟩⟩⟩
theorem tooLong {n m:Nat} (h:n+m<=sizeLine):Builtin.List.listTooLong (n+m)=false:=by
 unfold Builtin.List.listTooLong
 exact decide_eq_false (Nat.not_lt.mpr h)
theorem CL.extend {a b:Addr} {xs ys:List V} {Q:V->HL->Prop} (e:Ext a (.list xs) H R) (m:(b,.list ys)∈H) (hz:xs.length+ys.length<=sizeLine) (hq:Q .none ((a,.list (xs++ys))::R)):CL D A (.raw (.builtin "list.extend")) [.ref a,.ref b] H Q:=⟨fun fm T s vs fv ws I hf hw=>by
 obtain ⟨_,rfl⟩:=hf.inv
 obtain ⟨v,w,rfl,h1,h2⟩:=vrels2 hw
 obtain ⟨_,rfl⟩:=h1.inv; obtain ⟨_,rfl⟩:=h2.inv
 obtain ⟨us,n,g1,g2⟩:=I.listAt e.mem
 obtain ⟨us',n',g1',g2'⟩:=I.listAt m
 have hl:=g2.length
 have hl':=g2'.length
 exact call_meets PySem.F.slot_list_extend ⟨_,g1,rfl⟩ PySem.F.entry_list_extend (PySem.F.args_list_extend_2 _ _)
  (PySem.AutoSeq1.list_extend_list_list_0 a us.toArray n b us'.toArray n' (by rw [show us.toArray.size+us'.toArray.size=us.length+us'.length from rfl,tooLong (by exact lin (Nat.add_le_add (Nat.le_of_eq hl) (Nat.add_le_add (Nat.le_of_eq hl') hz)) (by simp +arith))]; simp) (by show us.length<=_; exact lin (Nat.add_le_add (Nat.le_of_eq hl) hz) (by simp +arith)) (by show us.length+us'.length<=_; exact lin (Nat.add_le_add (Nat.le_of_eq hl) (Nat.add_le_add (Nat.le_of_eq hl') hz)) (by simp +arith)))
  ⟨g1,g1',⟨T,.none,_,.refl _,I.listAs e g1 (by simpa using g2.append g2'),.none,hq⟩⟩⟩
theorem CL.len {a:Addr} {xs:List V} {Q:V->HL->Prop} (m:(a,.list xs)∈H) (hz:xs.length<=sizeLine) (hq:Q (.int xs.length) H):CL D A (.raw (.builtin "len")) [.ref a] H Q:=⟨fun fm T s vs fv ws I hf hw=>by
 obtain ⟨_,rfl⟩:=hf.inv
 obtain ⟨v,rfl,h1⟩:=vrels1 hw
 obtain ⟨_,rfl⟩:=h1.inv
 obtain ⟨us,n,g1,g2⟩:=I.listAt m
 have hl:=g2.length
 rw [sizeLine_eq] at hz
 refine call_len_list (items:=us.toArray) ⟨_,g1,rfl,_,rfl⟩ (by simp [hl]; lia) ⟨T,.int xs.length,H,.refl _,I.toks,?_,hq⟩
 have:(us.toArray.size:Int)=(xs.length:Int):=by simp [hl]
 rw [this]; exact .int _ _⟩
theorem CL.lenI {a:Addr} {kvs:List (Int×V)} {ep:Nat} {Q:V->HL->Prop} (m:(a,.dictI kvs ep)∈H) (hz:kvs.length<=sizeLine) (hq:Q (.int kvs.length) H):CL D A (.raw (.builtin "len")) [.ref a] H Q:=⟨fun fm T s vs fv ws I hf hw=>by
 obtain ⟨_,rfl⟩:=hf.inv
 obtain ⟨v,rfl,h1⟩:=vrels1 hw
 obtain ⟨_,rfl⟩:=h1.inv
 obtain ⟨l,h1,hp,h2⟩:=I.dictIAt m
 have hl:=hp.len
 rw [sizeLine_eq] at hz
 refine call_len_dict h2 h1.dictOf (by lia) ?_
 first
  | exact ⟨T,.int kvs.length,H,.refl _,I.toks,by rw [hl]; exact .int _ _,hq⟩
  | (intros; exact ⟨T,.int kvs.length,H,.refl _,I.toks,by rw [hl]; exact .int _ _,hq⟩)⟩
theorem CL.chr {i:Int} {Q:V->HL->Prop} (h0:0<=i) (h1:i<=1114111) (hq:Q (.str ⟨#[i.toNat]⟩) H):CL D A (.raw (.builtin "chr")) [.int i] H Q:=⟨fun fm T s vs fv ws I hf hw=>by
 obtain ⟨_,rfl⟩:=hf.inv
 obtain ⟨v,rfl,h⟩:=vrels1 hw
 obtain ⟨_,rfl⟩:=h.inv
 exact chr_of_range h0 h1 ⟨T,_,H,.refl _,I.toks,.str _ _,hq⟩⟩
theorem CL.ord {c:Nat} {Q:V->HL->Prop} (hq:Q (.int c) H):CL D A (.raw (.builtin "ord")) [.str ⟨#[c]⟩] H Q:=⟨fun fm T s vs fv ws I hf hw=>by
 obtain ⟨_,rfl⟩:=hf.inv
 obtain ⟨v,rfl,h⟩:=vrels1 hw
 obtain ⟨_,rfl⟩:=h.inv
 exact P.ord_of_char ⟨T,_,H,.refl _,I.toks,.int _ _,hq⟩⟩
theorem CL.strInt {i:Int} {Q:V->HL->Prop} (h0:0<=i) (h1:i < 2 ^ 62) (hq:Q (.str (Str.ofString (toString i))) H):CL D A (.raw (.type "str")) [.int i] H Q:=⟨fun fm T s vs fv ws I hf hw=>by
 obtain ⟨_,rfl⟩:=hf.inv
 obtain ⟨v,rfl,h⟩:=vrels1 hw
 obtain ⟨_,rfl⟩:=h.inv
 exact str_of_int_fit (N:=2 ^ 62) (by split <;> omega) (by decide) fun _=>⟨T,_,H,.refl _,I.toks,.str _ _,hq⟩⟩
theorem CL.range1 {n:Int} {Q:V->HL->Prop} (hq:∀ r,Q (.ref r) ((r,.io (.rng 0 n 1))::H)):CL D A (.raw (.type "range")) [.int n] H Q:=⟨fun fm T s vs fv ws I hf hw=>by
 obtain ⟨_,rfl⟩:=hf.inv
 obtain ⟨v,rfl,h⟩:=vrels1 hw
 obtain ⟨_,rfl⟩:=h.inv
 exact PySem.call_range_1 ⟨T,_,_,.refl _,I.new1 rfl (.io (k:=.rng 0 n 1) ⟨_,_,_,rfl⟩),.ref _,hq _⟩⟩
theorem seqSlot_iadd:seqSlot? (.type "list") (dunderI "add")=pure (some (.builtin "list.__iadd__")):=PySem.seqSlot_of PySem.F.slot_list_iadd.lookup (by decide +kernel)
theorem fills_iadd:fillsInplaceSlot (.type "list") "add" (Operator.Add==.Add)=pure false:=by
 unfold fillsInplaceSlot
 show (typeLookup (.type "list") (dunderI "add") >>= fun fi=>pure (fi.isSome && !isSeqSlot fi))=pure false
 rw [PySem.F.slot_list_iadd.lookup]
 show (pure ((some (Value.builtin "list.__iadd__")).isSome && !isSeqSlot (some (.builtin "list.__iadd__"))):Sem Bool)=pure false
 rw [show isSeqSlot (some (.builtin "list.__iadd__"))=true by decide +kernel]; rfl
theorem IP.extend {a b:Addr} {xs ys:List V} {Q:V->HL->Prop} (e:Ext a (.list xs) H R) (m:(b,.list ys)∈H) (hz:xs.length+ys.length<=sizeLine) (hq:Q (.ref a) ((a,.list (xs++ys))::R)):IP D A .Add (.ref a) (.ref b) H Q:=⟨fun fm T s vs v w I hx hy=>by
 obtain ⟨_,rfl⟩:=hx.inv; obtain ⟨_,rfl⟩:=hy.inv
 obtain ⟨us,n,g1,g2⟩:=I.listAt e.mem
 obtain ⟨us',n',g1',g2'⟩:=I.listAt m
 have hl:=g2.length
 have hl':=g2'.length
 have ha:s.TypeIs (.ref a) "list":=⟨_,g1,rfl⟩
 have hb:s.TypeIs (.ref b) "list":=⟨_,g1',rfl⟩
 unfold inplaceOp
 refine wpAny_holding ?_
 refine wpAny_bind (wpAny_typeOf ha (wpAny_bind (wpAny_of_eq fills_iadd ?_)))
 show wpAny _ A (if false=true then _ else _) _ _ s
 rw [if_neg Bool.false_ne_true]
 refine wpAny_bind (wpAny_binaryOp1_none (nm:="add") ha hb PySem.noFill_list_add ?_)
 refine wpAny_bind (wpAny_of_eq seqSlot_iadd ?_)
 refine wpAny_bind (wpAny_rule ?_)
 exact call_meets PySem.F.slot_list_iadd ha PySem.F.entry_list_iadd (PySem.F.args_list_iadd_2 _ _)
  (PySem.AutoSeq1.list___iadd___list_list_0 a us.toArray n b us'.toArray n' (by rw [show us.toArray.size+us'.toArray.size=us.length+us'.length from rfl,tooLong (by exact lin (Nat.add_le_add (Nat.le_of_eq hl) (Nat.add_le_add (Nat.le_of_eq hl') hz)) (by simp +arith))]; simp) (by show us.length<=_; exact lin (Nat.add_le_add (Nat.le_of_eq hl) hz) (by simp +arith)) (by show us.length+us'.length<=_; exact lin (Nat.add_le_add (Nat.le_of_eq hl) (Nat.add_le_add (Nat.le_of_eq hl') hz)) (by simp +arith)))
  ⟨g1,g1',⟨T,.ref a,_,.refl _,I.listAs e g1 (by simpa using g2.append g2'),.ref _,hq⟩⟩⟩
theorem catLists {a b:Addr} {xs ys:List V} {v w:Value} {Q:V->HL->Prop} (I:Inv D fm T s H vs) (hx:VRel T (.ref a) v) (hy:VRel T (.ref b) w) (m:(a,.list xs)∈H) (m':(b,.list ys)∈H) (hz:xs.length+ys.length<=sizeLine) (hq:∀ r,Q (.ref r) ((r,.list (xs++ys))::H)) :
  wpAny (model D.prog D.w) A (binaryOp .Add v w) (Out D fm T vs Q) NoE s:=by
 obtain ⟨_,rfl⟩:=hx.inv; obtain ⟨_,rfl⟩:=hy.inv
 obtain ⟨us,n,g1,g2⟩:=I.listAt m
 obtain ⟨us',n',g1',g2'⟩:=I.listAt m'
 refine P.add_list g1 g1' ⟨T,_,_,.refl _,?_,.ref _,hq _⟩ (by show us.length+us'.length<=_; rw [g2.length,g2'.length]; exact hz)
 have:=I.pushList (g2.append g2')
 simpa using this
inductive CatQ (Q:V->HL->Prop) (x y:V) (H:HL):Prop where
 | mk (a b:Addr) (xs ys:List V) (ex:x=.ref a) (ey:y=.ref b) (ma:(a,.list xs)∈H) (mb:(b,.list ys)∈H) (hz:xs.length+ys.length<=sizeLine) (q:∀ r,Q (.ref r) ((r,.list (xs++ys))::H))
theorem EV.cat {l r:Expr} {pos:Pos} {Q:V->HL->Prop} (h:EV D fm A env l H vs (thenE D fm A env r vs (CatQ Q))) :
  EV D fm A env (.BinOp l .Add r pos) H vs Q:=⟨fun he T s I=>wpAny_BinOp (wpNoE (h.run he T s I) fun v s₁ ⟨T₁,x,H₁,st₁,I₁,hx,h₁⟩=>wpNoE (h₁.run he T₁ s₁ I₁) fun w s₂ oo=>by
  obtain ⟨T₂,y,H₂,st₂,I₂,hy,a,b,xs,ys,e1,e2,m1,m2,hz,hq⟩:=oo
  subst e1; subst e2
  exact wpNoE (catLists I₂ (hx.mono st₂) hy m1 m2 hz hq) fun _ _ o=>o.sub (st₁.trans st₂))⟩
noncomputable def clipTo (i:Int) (n:Nat):Nat:=min (if i < 0 then i+n else i).toNat n
theorem clip_int (z:Int) (n:Nat):max 0 (min z (n:Int))=((min z.toNat n:Nat):Int):=by
 rcases Int.le_total 0 z with h | h
 ·obtain ⟨m,rfl⟩:=Int.eq_ofNat_of_zero_le h
  rw [Int.toNat_natCast]
  rcases Nat.le_total m n with c | c
  ·rw [Int.min_eq_left (Int.ofNat_le.mpr c),Nat.min_eq_left c]
   exact Int.max_eq_right (Int.natCast_nonneg m)
  ·rw [Int.min_eq_right (Int.ofNat_le.mpr c),Nat.min_eq_right c]
   exact Int.max_eq_right (Int.natCast_nonneg n)
 ·rw [Int.toNat_of_nonpos h,Nat.zero_min,Int.max_eq_left (Int.le_trans (Int.min_le_left _ _) h)]
  rfl
theorem bounds_clip (i:Int) (n:Nat):sliceBounds none (some i) none n=sliceBounds none (some (clipTo i n:Int)) none n:=by
 show ((0:Int),max 0 (min (if i < 0 then i+(n:Int) else i) (n:Int)),(1:Int))=((0:Int),max 0 (min (if (clipTo i n:Int) < 0 then (clipTo i n:Int)+(n:Int) else (clipTo i n:Int)) (n:Int)),(1:Int))
 have hc:clipTo i n<=n:=Nat.min_le_right _ n
 rw [if_neg (Int.not_lt.mpr (Int.natCast_nonneg (clipTo i n))),clip_int,clip_int,Int.toNat_natCast,Nat.min_eq_left hc]
 rfl
theorem slicePick_clip (items:Array Value) (i:Int):slicePick items none (some i) none=(items.toList.take (clipTo i items.size)).toArray:=by
 have hc:clipTo i items.size<=items.size:=Nat.min_le_right _ _
 rw [<- slicePick_upto items _ hc]
 unfold slicePick
 rw [bounds_clip]
inductive SliQ (Q:V->HL->Prop) (x k:V) (H:HL):Prop where
 | mk (a:Addr) (xs:List V) (i:Int) (ex:x=.ref a) (ek:k=.int i) (ma:(a,.list xs)∈H) (hz:xs.length<=sizeLine) (q:∀ r,Q (.ref r) ((r,.list (xs.take (clipTo i xs.length)))::H))
theorem EV.sliceTo {o u:Expr} {p pos:Pos} {Q:V->HL->Prop} (h:EV D fm A env o H vs (thenE D fm A env u vs (SliQ Q)))
  (ht:∀ v r,letTemporaryGo o v r=pure ():=by intro _ _; rfl):EV D fm A env (.Subscript o (.Slice none (some u) none p) pos) H vs Q:=⟨fun he T s I=>wpAny_Subscript_list_slice (wpNoE (h.run he T s I) fun ov s₁ oo=>by
  obtain ⟨T₁,x,H₁,st₁,I₁,hx,h₁⟩:=oo
  rw [evalPart_none]
  refine wpAny_pure ?_
  rw [evalPart_some]
  refine wpNoE (h₁.run he _ _ I₁) fun uv s₂ ⟨T₂,k,H₂,st₂,I₂,hk,a,xs,i,e1,e2,m,hz,hq⟩=>?_
  subst e1; subst e2; obtain ⟨_,rfl⟩:=hx.inv; obtain ⟨_,rfl⟩:=hk.inv
  obtain ⟨ws,n,g1,g2⟩:=I₂.listAt m
  refine ⟨a,ws.toArray,none,some i,rfl,⟨_,g1,rfl,_,rfl⟩,by show ws.length<=_; rw [g2.length]; exact hz,.none,.int _ _,T₂,.ref _,_,st₁.trans st₂,?_,.ref _,hq _⟩
  have key:∀ so:Obj,Inv D fm T₂ { s₂ with heap:=(s₂.heap.push so).push (lObj (ws.take (clipTo i xs.length)) 0) } ((s₂.heap.objs.size+1,.list (xs.take (clipTo i xs.length)))::H₂) vs:=fun so=>by
   have:=(I₂.grow (h':=s₂.heap.push so) (tk:=s₂.toks) fun b ob e=>Heap.get?_push_of_some _ e).pushList (g2.take (clipTo i xs.length))
   rw [show ({ s₂ with heap:=s₂.heap.push so }:Shared).heap.objs.size=s₂.heap.objs.size+1 from Heap.size_push _ _] at this
   exact this
  rw [slicePick_clip,show ws.toArray.size=xs.length from g2.length]
  exact key _) ht⟩
end
end Mine
end
section
namespace Mine
section
variable {D:Wd} {fm:Fm} {A:Around} {env:Env} {H R:HL} {vs:List (Option V)} {T:Led} {s:Shared}
noncomputable def veq (x y:V):Bool:=@decide (x=y) (Classical.propDecidable _)
noncomputable def veqs (xs ys:List V):Bool:=@decide (xs=ys) (Classical.propDecidable _)
theorem veq_iff {x y:V}:veq x y=true ↔ x=y:=@decide_eq_true_iff _ (Classical.propDecidable _)
theorem veqs_iff {x y:List V}:veqs x y=true ↔ x=y:=@decide_eq_true_iff _ (Classical.propDecidable _)
theorem veqs_refl (x:List V):veqs x x=true:=veqs_iff.mpr rfl
theorem veq_of {x y:V} {b:Bool} (h:x=y ↔ b=true):veq x y=b:=Bool.eq_iff_iff.mpr (veq_iff.trans h)
theorem veq_int (a b:Int):veq (.int a) (.int b)=(a==b):=veq_of ⟨fun h=>beq_iff_eq.mpr (by injection h),fun h=>congrArg _ (eq_of_beq h)⟩
theorem veq_str (a b:Str):veq (.str a) (.str b)=(a==b):=veq_of ⟨fun h=>beq_iff_eq.mpr (by injection h),fun h=>congrArg _ (eq_of_beq h)⟩
theorem veq_tup (a b:List V):veq (.tup a) (.tup b)=veqs a b:=veq_of ⟨fun h=>veqs_iff.mpr (by injection h),fun h=>congrArg _ (veqs_iff.mp h)⟩
inductive Same:Nat->V->V->Prop where
 | int {n:Nat} (a b:Int):Same n (.int a) (.int b)
 | str {n:Nat} (a b:Str):Same n (.str a) (.str b)
 | tup {n:Nat} {xs ys:List V}:(∀ (i:Nat) (x y:V),xs[i]?=some x->ys[i]?=some y->Same n x y)->Same (n+1) (.tup xs) (.tup ys)
theorem getD_ext {xs:List V}:∀ {ys:List V},xs.length=ys.length->(∀ j,j < xs.length->xs.getD j .none=ys.getD j .none)->xs=ys:=by
 induction xs with
 | nil=>intro ys h _; exact (List.length_eq_zero_iff.mp h.symm).symm
 | cons x xs ih=>
  intro ys h1 h2
  cases ys with
  | nil=>cases h1
  | cons y ys=>
   have e:x=y:=h2 0 (Nat.zero_lt_succ _)
   rw [e,ih (Nat.succ.inj h1) fun j hj=>h2 (j+1) (Nat.succ_lt_succ hj)]
theorem veqs_range (xs ys:List V):veqs xs ys=((List.range (min xs.length ys.length)).all (fun j=>veq (xs.getD j .none) (ys.getD j .none)) && xs.length==ys.length):=by
 rw [Bool.eq_iff_iff,veqs_iff,Bool.and_eq_true,List.all_eq_true,beq_iff_eq]
 refine ⟨fun h=>h ▸ ⟨fun j _=>veq_iff.mpr rfl,rfl⟩,fun h=>getD_ext h.2 fun j hj=>veq_iff.mp (h.1 j (List.mem_range.mpr ?_))⟩
 rw [<- h.2,Nat.min_self]
 exact hj
theorem tup_at (I:Inv D fm T s H vs) {xs:List V} {v:Value} (h:VRel T (.tup xs) v):∃ a ws,v=.ref a/\s.heap.IsTuple a ws.toArray/\VRels T xs ws:=by
 cases h with
 | tup hm hc hd hr=>exact ⟨_,_,rfl,⟨_,I.tupAt hm,hc,_,hd⟩,hr⟩
theorem tup_one {h:Heap} {a:Addr} {ws us:List Value} (t1:h.IsTuple a ws.toArray) (t2:h.IsTuple a us.toArray):ws=us:=by
 obtain ⟨o,o1,_,n1,o2⟩:=t1
 obtain ⟨o',p1,_,n2,p2⟩:=t2
 rw [o1] at p1; cases p1
 rw [o2] at p2
 exact congrArg Array.toList (Data.seq.inj p2).1
theorem veq_same (I:Inv D fm T s H vs) {n:Nat} {x y:V} (h:Same n x y):∀ {v:Value},VRel T x v->VRel T y v->x=y:=by
 induction h with
 | int a b=>intro v hx hy; obtain ⟨_,rfl⟩:=hx.inv; obtain ⟨_,e⟩:=hy.inv; rw [(Value.int.inj e).1]
 | str a b=>intro v hx hy; obtain ⟨_,rfl⟩:=hx.inv; obtain ⟨_,e⟩:=hy.inv; rw [(Value.str.inj e).1]
 | @tup _ xs ys hh ih=>
  intro v hx hy
  obtain ⟨a,ws,rfl,t1,r1⟩:=tup_at I hx
  obtain ⟨b,us,e,t2,r2⟩:=tup_at I hy
  cases e
  cases tup_one t1 t2
  have hl:xs.length=ys.length:=r1.length.symm.trans r2.length
  refine congrArg V.tup (List.ext_getElem hl fun j h1 h2=>?_)
  have g1:=List.getElem?_eq_getElem h1
  have g2:=List.getElem?_eq_getElem h2
  obtain ⟨v1,e1,q1⟩:=r1.get g1
  obtain ⟨v2,e2,q2⟩:=r2.get g2
  rw [e1] at e2; cases e2
  exact ih j _ _ g1 g2 q1 q2
theorem getD_of {xs:List V} {j:Nat} {x:V} (h:xs[j]?=some x):xs.getD j .none=x:=by rw [List.getD_eq_getElem?_getD,h]; rfl
theorem VRels.getW {xs:List V} {ws:List Value} (h:VRels T xs ws) {j:Nat} (hj:j < ws.length):∃ x,xs[j]?=some x/\VRel T x ws[j]:=h.get' (List.getElem?_eq_getElem hj)
theorem eqAt_of (I:Inv D fm T s H vs) {n:Nat} {x y:V} (h:Same n x y):∀ {v w:Value} (A:Around),A.units+n < cLine->VRel T x v->VRel T y w->SeqAt.EqAt A s v w (veq x y):=by
 induction h with
 | int a b=>intro v w A _ hx hy; obtain ⟨_,rfl⟩:=hx.inv; obtain ⟨_,rfl⟩:=hy.inv; rw [veq_int]; exact PySem.SeqAt.EqAt.int_int _ _ _ _
 | str a b=>intro v w A _ hx hy; obtain ⟨_,rfl⟩:=hx.inv; obtain ⟨_,rfl⟩:=hy.inv; rw [veq_str]; exact PySem.SeqAt.EqAt.str_str _ _ _ _
 | @tup n xs ys hh ih=>
  intro v w A hu hx hy
  obtain ⟨a,ws,rfl,t1,r1⟩:=tup_at I hx
  obtain ⟨b,us,rfl,t2,r2⟩:=tup_at I hy
  by_cases hab:a=b
  ·subst hab
   cases tup_one t1 t2
   rw [veq_same I (.tup hh) hx hy,veq_iff.mpr rfl]; exact SeqAt.EqAt.same _
  ·refine SeqAt.EqAt.of_refs hab ?_
   rw [veq_tup,veqs_range,<- r1.length,<- r2.length]
   refine SeqAt.RcAt.tuples (A:=A) (e:=fun j=>veq (xs.getD j .none) (ys.getD j .none)) t1 t2 (by exact linL hu (by simp +arith)) fun j h1 h2=>?_
   obtain ⟨x,g1,q1⟩:=r1.getW h1
   obtain ⟨y,g2,q2⟩:=r2.getW h2
   show SeqAt.EqAt _ _ _ _ (veq (xs.getD j .none) (ys.getD j .none))
   rw [getD_of g1,getD_of g2]
   exact ih j x y g1 g2 A.in1 (by rw [Around.in1_units]; exact linL hu (by simp +arith)) q1 q2
theorem eqs_at (I:Inv D fm T s H vs) {n:Nat} {xs ys:List V} {ws us:List Value} (hu:A.units+n+1 < cLine) (r1:VRels T xs ws) (r2:VRels T ys us) (hs:∀ (i:Nat) (x y:V),xs[i]?=some x->ys[i]?=some y->Same n x y) :
  ∀ j (h1:j < ws.toArray.size) (h2:j < us.toArray.size),SeqAt.EqAt A.in1 s ws.toArray[j] us.toArray[j] (veq (xs.getD j .none) (ys.getD j .none)):=fun j h1 h2=>by
 obtain ⟨x,g1,q1⟩:=r1.getW h1
 obtain ⟨y,g2,q2⟩:=r2.getW h2
 rw [getD_of g1,getD_of g2]
 exact eqAt_of I (hs j x y g1 g2) A.in1 (by rw [Around.in1_units]; exact linL hu (by simp +arith)) q1 q2
theorem CP.neTup {n:Nat} {xs ys:List V} {Q:V->HL->Prop} (hu:A.units+n+1 < cLine) (hs:∀ (i:Nat) (x y:V),xs[i]?=some x->ys[i]?=some y->Same n x y) (hq:Q (.bool (!veqs xs ys)) H):CP D A .NotEq (.tup xs) (.tup ys) H Q:=⟨fun fm T s vs v w I hx hy=>by
 obtain ⟨a,ws,rfl,t1,r1⟩:=tup_at I hx
 obtain ⟨b,us,rfl,t2,r2⟩:=tup_at I hy
 refine cmp_ofNotEq (SeqAt.RcNeAt.tuples t1 t2 (by exact linL hu (by simp +arith)) (eqs_at I hu r1 r2 hs) _ _ _ _ ?_)
 rw [veqs_range] at hq
 have e1:ws.toArray.size=xs.length:=r1.length
 have e2:us.toArray.size=ys.length:=r2.length
 rw [e1,e2]
 exact ⟨T,_,H,.refl _,I,.bool _,hq⟩⟩
theorem CP.neList {n:Nat} {a b:Addr} {xs ys:List V} {Q:V->HL->Prop} (m1:(a,.list xs)∈H) (m2:(b,.list ys)∈H) (hu:A.units+n+1 < cLine) (hs:xs.length=ys.length->∀ (i:Nat) (x y:V),xs[i]?=some x->ys[i]?=some y->Same n x y)
  (hq:Q (.bool (!veqs xs ys)) H):CP D A .NotEq (.ref a) (.ref b) H Q:=⟨fun fm T s vs v w I hx hy=>by
 obtain ⟨_,rfl⟩:=hx.inv; obtain ⟨_,rfl⟩:=hy.inv
 obtain ⟨ws,k,g1,r1⟩:=I.listAt m1
 obtain ⟨us,k',g2,r2⟩:=I.listAt m2
 have t1:s.heap.IsList a ws.toArray:=⟨_,g1,rfl,_,rfl⟩
 have t2:s.heap.IsList b us.toArray:=⟨_,g2,rfl,_,rfl⟩
 have e1:ws.toArray.size=xs.length:=r1.length
 have e2:us.toArray.size=ys.length:=r2.length
 rw [veqs_range] at hq
 by_cases hl:xs.length=ys.length
 ·refine cmp_ofNotEq (SeqAt.RcNeAt.lists t1 t2 (by rw [e1,e2,hl]) (by exact linL hu (by simp +arith)) (eqs_at I hu r1 r2 (hs hl)) _ _ _ _ ?_)
  rw [hl,Nat.min_self,beq_self_eq_true,Bool.and_true] at hq
  rw [e1,hl]
  exact ⟨T,_,H,.refl _,I,.bool _,hq⟩
 ·refine cmp_ofNotEq (SeqAt.RcNeAt.lists_lengths t1 t2 (by rw [e1,e2]; exact bne_iff_ne.mpr hl) (by exact linL hu (by simp +arith)) _ _ _ _ ?_)
  rw [beq_eq_false_iff_ne.mpr hl,Bool.and_false] at hq
  exact ⟨T,_,H,.refl _,I,.bool _,hq⟩⟩
theorem CP.neNil {a b:Addr} {xs:List V} {Q:V->HL->Prop} (m1:(a,.list xs)∈H) (m2:(b,.list [])∈H) (hu:A.units+2 < cLine) (hq:∀ c,(c=true->xs≠[])->Q (.bool c) H):CP D A .NotEq (.ref a) (.ref b) H Q:=
 CP.neList (n:=1) m1 m2 hu (fun _ _ _ _ _ h2=>nomatch h2) (hq _ fun h e=>absurd h (by rw [veqs_iff.mpr e]; decide))
theorem CP.eqList {n:Nat} {a b:Addr} {xs ys:List V} {Q:V->HL->Prop} (m1:(a,.list xs)∈H) (m2:(b,.list ys)∈H) (hu:A.units+n+1 < cLine) (hs:xs.length=ys.length->∀ (i:Nat) (x y:V),xs[i]?=some x->ys[i]?=some y->Same n x y)
  (hq:Q (.bool (veqs xs ys)) H):CP D A .Eq (.ref a) (.ref b) H Q:=⟨fun fm T s vs v w I hx hy=>by
 obtain ⟨_,rfl⟩:=hx.inv; obtain ⟨_,rfl⟩:=hy.inv
 obtain ⟨ws,k,g1,r1⟩:=I.listAt m1
 obtain ⟨us,k',g2,r2⟩:=I.listAt m2
 have t1:s.heap.IsList a ws.toArray:=⟨_,g1,rfl,_,rfl⟩
 have t2:s.heap.IsList b us.toArray:=⟨_,g2,rfl,_,rfl⟩
 have e1:ws.toArray.size=xs.length:=r1.length
 have e2:us.toArray.size=ys.length:=r2.length
 rw [veqs_range] at hq
 by_cases hl:xs.length=ys.length
 ·refine cmp_ofEq (SeqAt.RcAt.lists t1 t2 (by rw [e1,e2,hl]) (by exact linL hu (by simp +arith)) (eqs_at I hu r1 r2 (hs hl)) _ _ _ _ ?_)
  rw [hl,Nat.min_self,beq_self_eq_true,Bool.and_true] at hq
  rw [e1,hl]
  exact ⟨T,_,H,.refl _,I,.bool _,hq⟩
 ·refine cmp_ofEq (SeqAt.RcAt.lists_lengths t1 t2 (by rw [e1,e2]; exact bne_iff_ne.mpr hl) (by exact linL hu (by simp +arith)) _ _ _ _ ?_)
  rw [beq_eq_false_iff_ne.mpr hl,Bool.and_false] at hq
  exact ⟨T,_,H,.refl _,I,.bool _,hq⟩⟩
theorem CP.eqNil {a b:Addr} {Q:V->HL->Prop} (m1:(a,.list [])∈H) (m2:(b,.list [])∈H) (hu:A.units+2 < cLine) (hq:Q (.bool true) H):CP D A .Eq (.ref a) (.ref b) H Q:=
 CP.eqList (n:=1) m1 m2 hu (fun _ _ _ _ _ h2=>nomatch h2) (by rw [veqs_refl]; exact hq)
noncomputable def strIs (b:Str):Value->Bool
 | .str a _=>a==b
 | _=>false
theorem any_strs {b:Str} {ys:List Str}:∀ {ws:List Value},VRels T (ys.map V.str) ws->ws.any (strIs b)=ys.any (·==b):=by
 induction ys with
 | nil=>intro ws h; rw [h.nil_inv]; rfl
 | cons y ys ih=>intro ws h; obtain ⟨v,us,rfl,r,rs⟩:=h.cons_inv; obtain ⟨t,rfl⟩:=r.inv; exact congrArg (or _) (ih rs)
theorem strs_eqAt {b:Str} {t:Tok} {ys:List Str}:∀ {ws:List Value},VRels T (ys.map V.str) ws->∀ y∈ws,SeqAt.EqAt A s y (.str b t) (strIs b y):=by
 induction ys with
 | nil=>intro ws h y hy; rw [h.nil_inv] at hy; cases hy
 | cons z ys ih=>
  intro ws h y hy
  obtain ⟨v,us,rfl,r,rs⟩:=h.cons_inv
  rcases List.mem_cons.mp hy with rfl | hy
  ·obtain ⟨t,rfl⟩:=r.inv; exact PySem.SeqAt.EqAt.str_str _ _ _ _
  ·exact ih rs y hy
theorem CP.inTup {b:Str} {ys:List Str} {Q:V->HL->Prop} (hq:Q (.bool (ys.any (·==b))) H):CP D A .In (.str b) (.tup (ys.map V.str)) H Q:=⟨fun fm T s vs v w I hx hy=>by
 obtain ⟨_,rfl⟩:=hx.inv
 obtain ⟨a,ws,rfl,t1,r1⟩:=tup_at I hy
 refine SeqAt.in_tupleAt (strIs b) t1 (fun y h=>strs_eqAt r1 y (by simpa using h)) ?_
 rw [show ws.toArray.any (strIs b)=ws.any (strIs b) by simp,any_strs r1]
 exact ⟨T,_,H,.refl _,I,.bool _,hq⟩⟩
theorem CP.inList {l:Addr} {b:Str} {ys:List Str} {Q:V->HL->Prop} (m:(l,.list (ys.map V.str))∈H) (hq:Q (.bool (ys.any (·==b))) H):CP D A .In (.str b) (.ref l) H Q:=⟨fun fm T s vs v w I hx hy=>by
 obtain ⟨_,rfl⟩:=hx.inv; obtain ⟨_,rfl⟩:=hy.inv
 obtain ⟨ws,k,g1,r1⟩:=I.listAt m
 refine SeqAt.in_listAt (strIs b) ⟨_,g1,rfl,_,rfl⟩ (fun y h=>strs_eqAt r1 y (by simpa using h)) ?_
 rw [show ws.toArray.any (strIs b)=ws.any (strIs b) by simp,any_strs r1]
 exact ⟨T,_,H,.refl _,I,.bool _,hq⟩⟩
end
end Mine
end
section
namespace Mine
section
variable {D:Wd} {fm:Fm} {A:Around} {env:Env} {H R:HL} {vs:List (Option V)} {T:Led} {s:Shared}
theorem Ext.sub {a:Addr} {o:AObj} {H R:HL} (e:Ext a o H R) (q:Addr×AObj) (h:q∈R):q∈H:=e.perm.mem_iff.mpr (.tail _ h)
theorem sub_dn {n i:Nat} (h:i < n):n - (i+1) < n - i:=Nat.sub_lt_sub_left h (Nat.lt_succ_self i)
inductive JnQ (it:Addr) (k:IObj) (J:HL->List (Option V)->Prop) (H:HL) (vs:List (Option V)):Prop where
 | mk (R:HL) (e:Ext it (.io k) H R) (j:J R vs)
inductive ForL (D:Wd) (fm:Fm) (A:Around) (env:Env) (target:Expr) (body orelse:List Stmt) (vs:List (Option V)) (Q:Fl->HL->List (Option V)->Prop) (v:V) (H:HL):Prop where
 | mk (a:Addr) (xs:List V) (e:v=.ref a) (J:Nat->HL->List (Option V)->Prop) (j0:J 0 H vs) (jm:∀ i H vs,J i H vs->(a,.list xs)∈H)
  (turn:∀ it i x H₃ vs₃ (N:Fl->HL->List (Option V)->Prop),Imp3 (turnQ (JnQ it (.liter a (i+1)) (J (i+1))) Q) N->xs[i]?=some x->J i H₃ vs₃->AS D fm A env target it x ((it,.io (.liter a (i+1)))::H₃) vs₃ (bodyQ D fm A env body N))
  (fin:∀ H₃ vs₃,J xs.length H₃ vs₃->XS D fm A env orelse H₃ vs₃ Q)
theorem EX.forL {target iter:Expr} {body orelse:List Stmt} {pos:Pos} {Q:Fl->HL->List (Option V)->Prop} (hh:A.handled=none)
  (h:EV D fm A env iter H vs (ForL D fm A env target body orelse vs Q))
  (hs:∀ x,foldedSetIterable iter env x=pure x:=by intro _; rfl):EX D fm A env (.For target iter body orelse pos) H vs Q:=by
 refine EX.for_ (h.mono fun v H₁ oo=>?_) hs
 obtain ⟨a,xs,e,J,j0,jm,turn,fin⟩:=oo
 subst e
 refine PI.list (jm _ _ _ j0) fun it=>⟨fun n H vs=>∃ i R,n=xs.length - i/\i<=xs.length/\Ext it (.io (.liter a i)) H R/\J i R vs,⟨_,0,H₁,rfl,Nat.zero_le _,.head,j0⟩,fun n H₃ vs₃ N hN oo=>?_⟩
 obtain ⟨i,R,hn,hi,e,j⟩:=oo
 subst hn
 refine NX.list hh e (e.sub _ (jm _ _ _ j)) (fun x hx=>?_) (fun hx=>?_)
 ·have hlt:i < xs.length:=(List.getElem?_eq_some_iff.mp hx).1
  exact turn it i x R vs₃ N (fun {fl H₆ vs₆} hq=>hN (by
   cases fl with
   | next=>obtain ⟨R',e',j'⟩:=hq; exact ⟨_,sub_dn hlt,i+1,R',rfl,hlt,e',j'⟩
   | cont=>obtain ⟨R',e',j'⟩:=hq; exact ⟨_,sub_dn hlt,i+1,R',rfl,hlt,e',j'⟩
   | brk=>exact hq
   | ret v=>exact hq)) hx j
 ·have hle:xs.length<=i:=List.getElem?_eq_none_iff.mp hx
  have:=Nat.le_antisymm hi hle
  subst this
  exact fin _ _ j
theorem rs1 {n:Int} (h:0<=n):Builtin.Range.rangeSize 0 n 1=n:=by
 rw [PySem.rangeSize_one]
 by_cases c:0 < n
 ·rw [if_pos c,Int.sub_zero]
 ·rw [if_neg c]; exact Int.le_antisymm h (Int.not_lt.mp c)
theorem small_of {n:Int} (h0:0<=n) (h1:n < 2 ^ 40):Builtin.Range.small 0 n 1=true:=by
 have e:=rs1 h0
 unfold Builtin.Range.small
 rw [e]
 simp only [Bool.and_eq_true,Bool.or_eq_true]
 unfold Builtin.Range.rangeFitsLong
 refine ⟨⟨⟨⟨?_,?_⟩,?_⟩,?_⟩,.inr ?_⟩ <;> (try simp) <;> omega
inductive ForR (D:Wd) (fm:Fm) (A:Around) (env:Env) (target:Expr) (body orelse:List Stmt) (vs:List (Option V)) (Q:Fl->HL->List (Option V)->Prop) (v:V) (H:HL):Prop where
 | mk (r:Addr) (n:Int) (R:HL) (e:v=.ref r) (er:Ext r (.io (.rng 0 n 1)) H R) (h0:0<=n) (h1:n < 2 ^ 40) (J:Nat->HL->List (Option V)->Prop) (j0:J 0 R vs)
  (turn:∀ it (i:Nat) H₃ vs₃ (N:Fl->HL->List (Option V)->Prop),Imp3 (turnQ (JnQ it (.riter (i+1) (n - (i+1)) 1) (J (i+1))) Q) N->(i:Int) < n->J i H₃ vs₃->AS D fm A env target it (.int i) ((it,.io (.riter (i+1) (n - (i+1)) 1))::H₃) vs₃ (bodyQ D fm A env body N))
  (fin:∀ H₃ vs₃,J n.toNat H₃ vs₃->XS D fm A env orelse H₃ vs₃ Q)
theorem EX.forR {target iter:Expr} {body orelse:List Stmt} {pos:Pos} {Q:Fl->HL->List (Option V)->Prop} (hh:A.handled=none)
  (h:EV D fm A env iter H vs (ForR D fm A env target body orelse vs Q))
  (hs:∀ x,foldedSetIterable iter env x=pure x:=by intro _; rfl):EX D fm A env (.For target iter body orelse pos) H vs Q:=by
 refine EX.for_ (h.mono fun v H₁ oo=>?_) hs
 obtain ⟨r,n,R,e,er,h0,h1,J,j0,turn,fin⟩:=oo
 subst e
 have en:=rs1 h0
 refine PI.range er (small_of h0 h1) fun it=>⟨fun m H vs=>∃ (i:Nat) (R:HL),m=n.toNat - i/\(i:Int)<=n/\Ext it (.io (.riter i (n - i) 1)) H R/\J i R vs,⟨_,0,R,rfl,by simpa using h0,?_,j0⟩,fun m H₃ vs₃ N hN ⟨i,R,hm,hi,e,j⟩=>?_⟩
 ·rw [en]; simpa using Ext.head
 subst hm
 refine NX.range hh e (fun hl=>?_) (fun hl=>?_)
 ·have hlt:(i:Int) < n:=by exact linZL hl (by simp +arith only)
  have e1:(i:Int)+1=((i+1:Nat):Int):=by simp +arith
  have e2:n - (i:Int) - 1=n - ((i:Int)+1):=by simp +arith
  rw [e2]
  exact turn it i R vs₃ N (fun {fl H₆ vs₆} hq=>hN (by
   cases fl with
   | next=>obtain ⟨R',e',j'⟩:=hq; exact ⟨_,sub_dn (Int.lt_toNat.mpr hlt),i+1,R',rfl,Int.add_one_le_of_lt hlt,e',j'⟩
   | cont=>obtain ⟨R',e',j'⟩:=hq; exact ⟨_,sub_dn (Int.lt_toNat.mpr hlt),i+1,R',rfl,Int.add_one_le_of_lt hlt,e',j'⟩
   | brk=>exact hq
   | ret v=>exact hq)) hlt j
 ·have:i=n.toNat:=Int.ofNat.inj ((Int.le_antisymm hi (Int.le_of_sub_nonpos hl)).trans (Int.toNat_of_nonneg h0).symm)
  subst this
  exact fin _ _ j
theorem CL.max2 {a b:Int} {Q:V->HL->Prop} (hh:A.handled=none) (hq:Q (.int (if b > a then b else a)) H):CL D A (.raw (.builtin "max")) [.int a,.int b] H Q:=⟨fun fm T s vs fv ws I hf hw=>by
 obtain ⟨_,rfl⟩:=hf.inv
 obtain ⟨v,w,rfl,h1,h2⟩:=vrels2 hw
 obtain ⟨_,rfl⟩:=h1.inv; obtain ⟨_,rfl⟩:=h2.inv
 obtain ⟨mc,N,F,l,c,nw,nd,lo⟩:=I.ex
 refine max_two_N hh F nw fun h' tk F' N'=>⟨T,_,H,.refl _,⟨⟨mc,N,F',l,c,N',nd,lo⟩,I.base,I.gens,I.os⟩,?_,hq⟩
 split <;> exact .int _ _⟩
theorem GM.inst {a C f:Addr} {l:List (Str×V)} {name:Str} {Q:V->List V->HL->Prop} (m:(a,.inst C l)∈H) (hg:plainGet D.K C name=true) (hf:findIn D.K (.ref C) name=some (some (.ref f))) (ht:isFn D.K (.ref f)=true)
  (hl:l.lookup name=none) (hq:Q (.ref f) [.ref a] H):GM D A name (.ref a) H Q:=⟨fun fm T s vs v pl I hx=>by
 obtain ⟨_,rfl⟩:=hx.inv
 obtain ⟨dx,es,n,h1,h2,h3,h4⟩:=I.instAt m
 have:=h3.get (name:=name)
 rw [hl] at this
 obtain ⟨mc,N,F,r⟩:=I.ex
 exact method_inst F I.base.k h4 hg hf ht this ⟨T,_,_,H,.refl _,I,.ref f,.cons (.ref a) .nil,hq⟩⟩
theorem GM.attr {a C:Addr} {l:List (Str×V)} {name:Str} {x:V} {Q:V->List V->HL->Prop} (m:(a,.inst C l)∈H) (c:ClsAttr D.K C name) (hook:findIn D.K (.ref C) "__getattribute__"=some (some (.builtin "object.__getattribute__")))
  (hk:findIn D.K (.ref C) "__getattr__"=some none) (hl:l.lookup name=some x) (hv:handV x=true) (hq:Q x [] H):GM D A name (.ref a) H Q:=⟨fun fm T s vs v pl I hx=>by
 obtain ⟨_,rfl⟩:=hx.inv
 obtain ⟨dx,es,n,h1,h2,h3,h4⟩:=I.instAt m
 exact method_usual I.k h4 hook hk c.own rfl (wpNoE ((GA.own (A:=A) (Q:=fun y H'=>Q y [] H') m c hl hv hq).run fm T s vs (.ref a) I (.ref a) false) fun y s' oo=>by obtain ⟨T',z,H',st,I',hz,hq⟩:=oo; exact ⟨T',z,[],H',st,I',hz,.nil,hq⟩)⟩
structure ClsMake (K:Frag) (C fI:Addr):Prop where
 makes:makesIn K C=true
 init:findIn K (.ref C) "__init__"=some (some (.ref fI))
 fn:typeIn K (.ref fI)=some (.type "function")
theorem Rm.make {k:Nat} {C:Addr} {ws:List Value} (h:Rm (k+1) A):Rm k (A.under (.builtin "type.__call__" ⟨.ref C::ws,[]⟩)):=by
 generalize ha:(⟨.ref C::ws,[]⟩:Args)=args
 have e1:(A.under (.builtin "type.__call__" args)).depth=A.depth+(Code.builtin "type.__call__" args).weight:=rfl
 have e2:(A.under (.builtin "type.__call__" args)).units=A.units+(Code.builtin "type.__call__" args).cUnits:=rfl
 have e3:(A.under (.builtin "type.__call__" args)).guards=pushGuards (Code.builtin "type.__call__" args).guards A.guards:=rfl
 have w1:(Code.builtin "type.__call__" args).weight<=5:=by subst ha; rw [show (Code.builtin "type.__call__" ⟨.ref C::ws,[]⟩).weight=(Code.builtin "type.__call__" ⟨[.ref 0],[]⟩).weight from rfl]; decide
 have w2:(Code.builtin "type.__call__" args).cUnits<=60:=by rw [show (Code.builtin "type.__call__" args).cUnits=(Code.builtin "type.__call__" ⟨[],[]⟩).cUnits from rfl]; decide
 refine ⟨?_,?_,h.handled,?_⟩
 ·have:=h.depth; exact lin (Nat.add_le_add (Nat.le_of_eq e1) (Nat.add_le_add this w1)) (by simp +arith only)
 ·have:=h.units; exact lin (Nat.add_le_add (Nat.le_of_eq e2) (Nat.add_le_add this w2)) (by simp +arith only)
 ·rw [e3,h.guards]; rfl
@[reducible] noncomputable def makQ (Q:V->HL->Prop) (x:Addr):V->HL->Prop:=fun r H=>r=.none/\Q (.ref x) H
theorem CL.make {k:Nat} {C fI:Addr} {xs:List V} {Q:V->HL->Prop} (c:ClsMake D.K C fI) (hroom:Rm (k+1) A) (h:∀ (x:Addr) (A':Around),Rm k A'->CC D A' fI (.ref x::xs) ((x,.inst C [])::H) (makQ Q x)) :
  CL D A (.ref C) xs H Q:=⟨fun fm T s vs fv ws I hf hw=>by
 obtain ⟨_,rfl⟩:=hf.inv
 obtain ⟨hp,g,d,tk,os⟩:=s
 refine wpAny_call (make_core (makes_of I.k c.makes) (looks_findIn I.k c.init) (fun self=>bind_fn I.k self c.fn) (.inl rfl) ?_)
 have hx:((hp.push emptyDict).push (instObj C hp.objs.size)).get? (hp.objs.size+1)=some (instObj C hp.objs.size):=by
  have:=Heap.get?_push_size (hp.push emptyDict) (o:=instObj C hp.objs.size) rfl
  rwa [Heap.size_push] at this
 have hd:((hp.push emptyDict).push (instObj C hp.objs.size)).get? hp.objs.size=some emptyDict:=Heap.get?_push_of_some _ (Heap.get?_push_size _ rfl)
 have I':Inv D fm T ⟨(hp.push emptyDict).push (instObj C hp.objs.size),g,d,tk,os⟩ ((hp.objs.size+1,.inst C [])::H) vs:=
  I.new (h':=(hp.push emptyDict).push (instObj C hp.objs.size)) (tk:=tk) (b':=[(hp.objs.size+1,instObj C hp.objs.size),(hp.objs.size,dictOf [] 0)]) (.inst .nil) (fun p hp'=>by
   rcases List.mem_cons.mp hp' with rfl | hp'
   ·exact ⟨hx,Nat.le_succ _⟩
   ·rcases List.mem_cons.mp hp' with rfl | hp'
    ·exact ⟨hd,Nat.le_refl _⟩
    ·cases hp') (by simp) fun _ _ e=>Heap.get?_push_of_some _ (Heap.get?_push_of_some _ e)
 have run:=(h (hp.objs.size+1) _ (hroom.make (C:=C) (ws:=ws))).run fm T _ vs (.ref (hp.objs.size+1)::ws) I' (.cons (.ref _) hw)
 refine codeAny_mono run fun r s' hr=>?_
 ·cases r with
  | error e=>exact hr.elim
  | ok r=>
   cases r <;> try exact hr.elim
   obtain ⟨T',x,H',st,I2,hv,rfl,hq⟩:=hr
   obtain ⟨_,rfl⟩:=hv.inv
   exact ⟨rfl,T',.ref (hp.objs.size+1),H',st,I2,.ref _,hq⟩⟩
end
end Mine
end
section
namespace Mine
section
variable {D:Wd} {fm:Fm} {A:Around} {env:Env} {H R:HL} {vs:List (Option V)} {T:Led} {s:Shared}
theorem Inv.enterC (I:Inv D fm T s H vs) (ns':List Str) (nd':ns'.Nodup):∃ F',
  (∀ (L':Addr) (h':Heap) (tk:Tok) (mc:Str->Option Value) (vs':List (Option V)),s.heap.objs.size<=L'->h'.Ns L' mc->(∀ b o,s.heap.get? b=some o->h'.get? b=some o)->LocRel T mc ns' vs'->
   Inv D ⟨F',L',s.gens,s.os,ns',nd'⟩ T { s with heap:=h',toks:=tk } H vs') /\
  (∀ L' T' s' H' vs',s.heap.objs.size<=L'->Sub T T'->Inv D ⟨F',L',s.gens,s.os,ns',nd'⟩ T' s' H' vs'->∃ oL,(∃ m,s'.heap.Ns L' m)/\Inv D fm T' s' ((L',.raw oL)::H') vs):=by
 have low:=I.low
 obtain ⟨⟨mc,N,F,l,c,n,nd,lo⟩,B,g,os⟩:=I
 have nm:∀ b o,fm.F.get? b=some o->b ∉ (T++N).map (·.1):=fun b o e q=>by
  obtain ⟨p,hp,rfl⟩:=List.mem_map.mp q
  rw [(n p hp).2.2] at e; cases e
 have st:∀ b o,fm.F.get? b=some o->(hideAll s.heap ((T++N).map (·.1))).get? b=some o:=fun b o e=>hideAll_get _ (F.keep b o e) (nm b o e)
 have nL:fm.L ∉ (T++N).map (·.1):=fun q=>by
  obtain ⟨p,hp,e⟩:=List.mem_map.mp q
  exact (n p hp).2.1 e
 obtain ⟨oL,es,ep,hLo,r⟩:=F.ns
 have hLg:=hideAll_get _ hLo nL
 have hLs:fm.L < s.heap.objs.size:=Heap.lt_size hLo
 refine ⟨hideAll s.heap ((T++N).map (·.1)),fun L' h' tk mc' vs' hL hns k l'=>?_,fun L' T' s' H' vs' hL hT I'=>?_⟩
 ·refine ⟨⟨mc',N,⟨hns,fun b o e=>k b o (of_hideAll _ e),Nat.le_trans (Nat.le_of_eq (hideAll_size _ _)) hL⟩,l',c,fun p hp=>⟨k _ _ (n p hp).1,?_,hideAll_none _ (List.mem_map_of_mem hp)⟩,nd,lo⟩,B.keeps st,GOk.refl _,rfl⟩
  exact Nat.ne_of_lt (Nat.lt_of_lt_of_le (Heap.lt_size (n p hp).1) hL)
 ·obtain ⟨⟨mc',N',F',l',c',n',nd',lo'⟩,B',g',os'⟩:=I'
  obtain ⟨oL',es',ep',hLo',hd',r'⟩:=id F'.ns
  have hfr:oL'.isFreed=false:=by
   obtain ⟨c0,d0,dt0,sl0⟩:=oL'
   cases hd'
   rfl
  refine ⟨oL',⟨_,F'.ns⟩,⟨mc,(L',oL')::N',⟨⟨oL,es,ep,F'.keep _ _ hLg,r⟩,fun b o e=>F'.keep b o (st b o e),F.above⟩,l.mono hT,?_,fun p hp=>?_,?_,fun p hp=>?_⟩,B,?_,os'.trans os⟩
  ·exact .cons (.raw hfr) c'
  ·have hp':p=(L',oL')\/p∈T'++N':=by
    rcases List.mem_append.mp hp with h | h
    ·exact .inr (List.mem_append_left _ h)
    ·rcases List.mem_cons.mp h with h | h
     ·exact .inl h
     ·exact .inr (List.mem_append_right _ h)
   rcases hp' with rfl | hp'
   ·refine ⟨hLo',Nat.ne_of_gt (Nat.lt_of_lt_of_le hLs hL),?_⟩
    cases q:fm.F.get? L' with
    | none=>rfl
    | some o=>exact absurd (Heap.lt_size (F.keep _ _ q)) (Nat.not_lt.mpr hL)
   ·refine ⟨(n' p hp').1,fun q=>?_,?_⟩
    ·have:=(n' p hp').2.2; rw [q,hLg] at this; cases this
    ·cases q:fm.F.get? p.1 with
     | none=>rfl
     | some o=>have:=(n' p hp').2.2; rw [st _ _ q] at this; cases this
  ·have pp:(T'++(L',oL')::N').Perm ((L',oL')::(T'++N')):=List.perm_middle
   refine ((pp.map _).nodup_iff).mpr (List.nodup_cons.mpr ⟨fun q=>?_,nd'⟩)
   obtain ⟨p,hp,e⟩:=List.mem_map.mp q
   exact (n' p hp).2.1 e
  ·rcases List.mem_cons.mp hp with rfl | hp
   ·exact fun q=>Nat.lt_irrefl _ (Nat.lt_of_lt_of_le low (q ▸ hL))
   ·exact lo' p hp
  ·refine ⟨fun i x e=>g'.1 i x (g.1 i x e),fun i x hi e=>?_⟩
   by_cases hi':s.gens.size<=i
   ·exact g'.2 i x hi' e
   ·have hlt:i < s.gens.size:=Nat.not_le.mp hi'
    have e2:s.gens[i]?=some s.gens[i]:=Array.getElem?_eq_getElem hlt
    have e3:=g'.1 i _ e2
    rw [e] at e3
    cases e3
    exact g.2 i _ hi e2
noncomputable def CoPost (D:Wd) (fm:Fm) (T:Led) (Q:HL->List (Option V)->Prop) (r:Result) (s':Shared):Prop:=match r with
 | .ok .next=>OutA D fm T Q s'
 | _=>False
structure CS (D:Wd) (fm:Fm) (A:Around) (env:Env) (e:Expr) (d:Nat) (it acc:Addr) (H:HL) (vs:List (Option V)) (Q:HL->List (Option V)->Prop):Prop where
 run:EnvOk fm env->∀ T s,Inv D fm T s H vs->codeAny (model D.prog D.w) A (.compStart e d (.ref it) (.ref acc) env) (CoPost D fm T Q) s
structure IFS (D:Wd) (fm:Fm) (A:Around) (env:Env) (es:List Expr) (H:HL) (vs:List (Option V)) (Q:Bool->HL->Prop):Prop where
 run:EnvOk fm env->∀ T s,Inv D fm T s H vs->wpAny (model D.prog D.w) A (forIn es true fun c r=>if r=true then do let ok <- isTrue c env (eval c env); pure (ForInStep.yield ok) else pure (ForInStep.yield r)) (OutB D fm T vs Q) NoE s
theorem IFS.nil {Q:Bool->HL->Prop} (h:Q true H):IFS D fm A env [] H vs Q:=⟨fun _ T s I=>wpAny_pure ⟨T,H,.refl _,I,h⟩⟩
theorem IFS.one {c:Expr} {Q:Bool->HL->Prop} (h:EB D fm A env c H vs Q):IFS D fm A env [c] H vs Q:=⟨fun he T s I=>by
 refine wpAny_bind (wpAny_bind (wpNoE (h.run he T s I) fun b s₁ hb=>?_))
 exact wpAny_pure (wpAny_pure hb)⟩
theorem wpAny_turn {prog:Program} {w:World} {A:Around} {E:Value->Shared->Prop} {s:Shared} {elt:Expr} {gens:List Comprehension} {scope:Scope} {pos:Pos} {d:Nat} {it acc:Value} {env:Env} {g:Comprehension} {Q:Fin->Shared->Prop}
  (hg:gens[d]?=some g) (ha:g.is_async=0)
  (h:wpAny (model prog w) A (pyNext it) (fun r s₁=>match r with
   | none=>Q (.done .next) s₁
   | some v=>wpAny (model prog w) A (letOwnedTupleGo g.target it v) (fun _ s₂=>wpAny (model prog w) A (assign g.target env v) (fun _ s₃=>wpAny (model prog w) A (forIn g.ifs true fun c r=>if r=true then do let ok <- isTrue c env (eval c env); pure (ForInStep.yield ok) else pure (ForInStep.yield r)) (fun ok s₄=>
      if ok=true then
       (match gens[d+1]? with
        | none=>wpAny (model prog w) A (eval elt env) (fun x s₅=>wpAny (model prog w) A (call (.builtin "list.append") [acc,x]) (fun _ s₆=>Q (.again (.compLoop (.ListComp elt gens scope pos) d it acc env)) s₆) E s₅) E s₄
        | some g'=>g'.is_async=0/\(∀ x,foldedSetIterable g'.iter env x=pure x)/\wpAny (model prog w) A (eval g'.iter env) (fun x s₅=>wpAny (model prog w) A (pyIter x) (fun it' s₆=>codeAny (model prog w) A (.compStart (.ListComp elt gens scope pos) (d+1) it' acc env) (fun r s₇=>match r with
           | .ok _=>Q (.again (.compLoop (.ListComp elt gens scope pos) d it acc env)) s₇
           | .error _=>False) s₆) E s₅) E s₄)
      else Q (.again (.compLoop (.ListComp elt gens scope pos) d it acc env)) s₄) E s₃) E s₂) E s₁) E s) :
  wpAny (model prog w) A (compTurn (.ListComp elt gens scope pos) d it acc env) Q E s:=by
 obtain ⟨target,iter,ifs,_⟩:=g
 cases ha
 delta compTurn
 dsimp only
 rw [hg]
 refine wpAny_bind (wpAny_standAt (wpAny_bind (wpAny_mono h (fun r s₁ h₁=>?_) fun _ _ e=>e)))
 cases r with
 | none=>exact wpAny_pure h₁
 | some v=>
  refine wpAny_bind (wpAny_mono h₁ (fun _ s₂ h₂=>wpAny_bind (wpAny_mono h₂ (fun _ s₃ h₃=>wpAny_bind (wpAny_mono h₃ (fun ok s₄ h₄=>?_) fun _ _ e=>e)) fun _ _ e=>e)) fun _ _ e=>e)
  cases ok with
  | false=>exact wpAny_pure h₄
  | true=>
   replace h₄:=h₄
   cases hn:gens[d+1]? with
   | none=>
    rw [if_pos rfl,hn] at h₄
    exact wpAny_bind (wpAny_bind (wpAny_mono h₄ (fun x s₅ h₅=>wpAny_bind (wpAny_mono h₅ (fun _ s₆ h₆=>wpAny_pure (wpAny_pure h₆)) fun _ _ e=>e)) fun _ _ e=>e))
   | some g'=>
    rw [if_pos rfl,hn] at h₄
    obtain ⟨a',hs,h₄⟩:=h₄
    obtain ⟨target',iter',ifs',_⟩:=g'
    cases a'
    refine wpAny_bind (wpAny_mono h₄ (fun x s₅ h₅=>wpAny_bind (wpAny_standAt (wpAny_bind (wpAny_of_eq (hs x) (wpAny_bind (wpAny_holding (wpAny_mono h₅ (fun it' s₆ h₆=>?_) fun _ _ e=>e))))))) fun _ _ e=>e)
    refine wpAny_bind (wpAny_runOwn (codeAny_mono h₆ fun r s₇ h₇=>?_))
    cases r with
    | ok f=>exact wpAny_pure h₇
    | error e=>exact h₇.elim
theorem codeAny_start {prog:Program} {w:World} {A:Around} {s:Shared} {Rr:Result->Shared->Prop} {e:Expr} {d:Nat} {it acc:Value} {env:Env} {g:Comprehension} (hc:(∃ a b c p,e=.ListComp a b c p)\/∃ a b c d p,e=.DictComp a b c d p)
  (hg:(clausesOf e)[d]?=some g) (ha:g.is_async=0)
  (h0:codeAny (model prog w) A (.compLoop e d it acc env) Rr s)
  (h:wpAny (model prog w) A (pyIter it) (fun it' s'=>codeAny (model prog w) A (.compLoop e d it' acc env) Rr s') NoE s) :
  codeAny (model prog w) A (.compStart e d it acc env) Rr s:=by
 refine codeAny_of_tree ?_
 have key:wpAny (model prog w) A (compStart e d it acc env) (fun fin s'=>match fin with
   | .done f=>Rr (.ok f) s'
   | .again c'=>c'.quiet=true/\codeAny (model prog w) A c' Rr s') NoE s:=by
  have hq:∀ it',(Code.compLoop e d it' acc env).quiet=true:=by
   rcases hc with ⟨a,b,c,p,rfl⟩ | ⟨a,b,c,d',p,rfl⟩ <;> intro _ <;> rfl
  obtain ⟨target,iter,ifs,_⟩:=g
  cases ha
  delta compStart
  rw [hg]
  refine (wpAny_bind (wpAny_askSetting ?_):wpAny _ _ (_ >>= _) _ _ _)
  refine wpAny_ite_split (fun _=>wpAny_pure ⟨hq _,h0⟩) fun _=>?_
  exact wpAny_bind (wpAny_rule (wpAny_bind (wpAny_standAt (wpAny_bind (wpAny_mono h (fun it' s' h'=>wpAny_pure ⟨hq _,h'⟩) fun _ _ x=>x)))))
 rcases hc with ⟨a,b,c,p,rfl⟩ | ⟨a,b,c,d',p,rfl⟩
 ·cases d with
  | zero=>exact wpAny_notedAt (wpAny_mono key (fun fin s' hf=>by cases fin <;> exact hf) noE)
  | succ d=>exact wpAny_notedAt (wpAny_mono key (fun fin s' hf=>by cases fin <;> exact hf) noE)
 ·cases d with
  | zero=>exact wpAny_notedAt (wpAny_mono key (fun fin s' hf=>by cases fin <;> exact hf) noE)
  | succ d=>exact wpAny_notedAt (wpAny_mono key (fun fin s' hf=>by cases fin <;> exact hf) noE)
@[reducible] noncomputable def selfQ (it:Addr) (H:HL):Addr->HL->Prop:=fun a H'=>a=it/\H'=H
@[reducible] noncomputable def ifsQ (K:HL->List (Option V)->Prop) (J:HL->List (Option V)->Prop) (vs:List (Option V)):Bool->HL->Prop:=fun b H=>if b=true then K H vs else J H vs
@[reducible] noncomputable def ifsP (D:Wd) (fm:Fm) (A:Around) (env:Env) (ifs:List Expr) (K:(HL->List (Option V)->Prop)->HL->List (Option V)->Prop) (J:HL->List (Option V)->Prop):HL->List (Option V)->Prop:=fun H vs=>IFS D fm A env ifs H vs (ifsQ (K J) J vs)
@[reducible] noncomputable def comN (D:Wd) (fm:Fm) (A:Around) (env:Env) (target:Expr) (ifs:List Expr) (it:Addr) (K:(HL->List (Option V)->Prop)->HL->List (Option V)->Prop) (J:HL->List (Option V)->Prop) (vs:List (Option V)) (Q:HL->List (Option V)->Prop):Option V->HL->Prop:=fun o H=>match o with
 | none=>Q H vs
 | some x=>AS D fm A env target it x H vs (ifsP D fm A env ifs K J)
inductive ComI (D:Wd) (fm:Fm) (A:Around) (env:Env) (target:Expr) (ifs:List Expr) (it:Addr) (K:(HL->List (Option V)->Prop)->HL->List (Option V)->Prop) (vs:List (Option V)) (Q:HL->List (Option V)->Prop) (H:HL):Prop where
 | mk (self:PI D A (.ref it) H (selfQ it H)) (Iv:Nat->HL->List (Option V)->Prop) (i:∃ n,Iv n H vs) (turn:∀ n H₃ vs₃ (N:HL->List (Option V)->Prop),Imp2 (Dn Iv n) N->Iv n H₃ vs₃->NX D A it H₃ (comN D fm A env target ifs it K N vs₃ Q))
inductive AppQ (acc:Addr) (vs:List (Option V)) (J:HL->List (Option V)->Prop) (y:V) (H:HL):Prop where
 | mk (ys:List V) (R:HL) (e:Ext acc (.list ys) H R) (hz:ys.length<=sizeLine) (q:J ((acc,.list (ys++[y]))::R) vs)
@[reducible] noncomputable def csK (D:Wd) (fm:Fm) (A:Around) (env:Env) (e:Expr) (d:Nat) (acc:Addr) (vs:List (Option V)) (J:HL->List (Option V)->Prop):Addr->HL->Prop:=fun it H=>CS D fm A env e d it acc H vs J
@[reducible] noncomputable def elmK (D:Wd) (fm:Fm) (A:Around) (env:Env) (elt:Expr) (gens:List Comprehension) (scope:Scope) (pos:Pos) (d:Nat) (acc:Addr) (J:HL->List (Option V)->Prop):HL->List (Option V)->Prop:=fun H vs=>match gens[d+1]? with
 | none=>EV D fm A env elt H vs (AppQ acc vs J)
 | some g'=>g'.is_async=0/\(∀ x,foldedSetIterable g'.iter env x=pure x)/\EV D fm A env g'.iter H vs (itP D A (csK D fm A env (.ListComp elt gens scope pos) (d+1) acc vs J))
theorem CS.list {elt:Expr} {gens:List Comprehension} {scope:Scope} {pos:Pos} {d:Nat} {it acc:Addr} {g:Comprehension} {Q:HL->List (Option V)->Prop} (hg:gens[d]?=some g) (ha:g.is_async=0)
  (h:ComI D fm A env g.target g.ifs it (elmK D fm A env elt gens scope pos d acc) vs Q H):CS D fm A env (.ListComp elt gens scope pos) d it acc H vs Q:=⟨fun he T s I=>by
 obtain ⟨hself,Iv,⟨n₀,hI₀⟩,turn⟩:=h
 have loop:∀ T₁ s₁,Sub T T₁->Inv D fm T₁ s₁ H vs->codeAny (model D.prog D.w) A (.compLoop (.ListComp elt gens scope pos) d (.ref it) (.ref acc) env) (CoPost D fm T Q) s₁:=fun T₁ s₁ st₁ I₁=>by
  refine codeAny_loop rfl (AtN D fm T Iv) (fun n s₃ oo=>?_) n₀ ⟨T₁,H,vs,st₁,I₁,hI₀⟩
  obtain ⟨T₃,H₃,vs₃,st₃,I₃,hI₃⟩:=oo
  show wpAny _ _ ((compTurn (.ListComp elt gens scope pos) d (.ref it) (.ref acc) env).onRaise (fun x=>do noteFrame x env; theTreesLotGoes x)) _ _ _
  refine wpAny_noted (wpAny_turn hg ha (wpNoE ((turn n H₃ vs₃ (Dn Iv n) (fun {_ _} h=>h) hI₃).run _ _ _ _ I₃) fun o s₄ h₄=>?_))
  cases o with
  | none=>
   obtain ⟨T₄,H₄,st₄,I₄,hq⟩:=h₄
   exact ⟨T₄,H₄,_,st₃.trans st₄,I₄,hq⟩
  | some u=>
   obtain ⟨T₄,x,H₄,st₄,I₄,hx,hq⟩:=h₄
   refine wpNoE (hq.run he T₄ s₄ u I₄ hx) fun _ s₅ h₅=>wpNoE h₅ fun _ s₆ oo=>?_
   obtain ⟨T₆,H₆,vs₆,st₆,I₆,h₆⟩:=oo
   refine wpNoE (h₆.run he _ _ I₆) fun ok s₇ oo=>?_
   obtain ⟨T₇,H₇,st₇,I₇,h₇⟩:=oo
   have stt:=(st₃.trans st₄).trans (st₆.trans st₇)
   cases ok with
   | false=>obtain ⟨m,h1,h2⟩:=h₇; exact ⟨rfl,m,h1,T₇,H₇,vs₆,stt,I₇,h2⟩
   | true=>
    simp only [if_true]
    replace h₇:elmK D fm A env elt gens scope pos d acc (Dn Iv n) H₇ vs₆:=h₇
    unfold elmK at h₇
    cases hn:gens[d+1]? with
    | none=>
     rw [hn] at h₇
     refine wpNoE (h₇.run he _ _ I₇) fun y s₈ oo=>?_
     obtain ⟨T₈,yy,H₈,st₈,I₈,hy,ys,R,hR,hz,hq⟩:=oo
     refine wpNoE ((CL.append (y:=yy) hR hz (Q:=fun r H'=>Dn Iv n H' vs₆) hq).run fm T₈ s₈ vs₆ _ [.ref acc,y] I₈ (.raw _) (.cons (.ref _) (.cons hy .nil))) fun r s₉ oo=>?_
     obtain ⟨T₉,r',H₉,st₉,I₉,hr,m,hm,hi⟩:=oo
     exact ⟨trivial,m,hm,T₉,H₉,vs₆,stt.trans (st₈.trans st₉),I₉,hi⟩
    | some g'=>
     rw [hn] at h₇
     obtain ⟨a',hs,h₇⟩:=h₇
     refine ⟨a',hs,wpNoE (h₇.run he _ _ I₇) fun x' s₈ ⟨T₈,xx,H₈,st₈,I₈,hx',h₈⟩=>wpNoE (h₈.run _ _ _ _ _ I₈ hx') fun w s₉ oo=>?_⟩
     obtain ⟨T₉,it',H₉,hw,st₉,I₉,h₉⟩:=oo
     subst hw
     refine codeAny_mono (h₉.run he _ _ I₉) fun r s' hr=>?_
     cases r with
     | error e=>exact hr.elim
     | ok f=>
      cases f <;> try exact hr.elim
      obtain ⟨T',H',vs',st',I',m,hm,hi⟩:=hr
      exact ⟨trivial,m,hm,T',H',vs',stt.trans ((st₈.trans st₉).trans st'),I',hi⟩
 refine codeAny_start (.inl ⟨_,_,_,_,rfl⟩) hg ha (loop T s (.refl _) I) (wpNoE (hself.run fm T s vs _ I (.ref it)) fun v s' oo=>?_)
 obtain ⟨T',a,H',hv,st,I',e1,e2⟩:=oo
 rw [e1] at hv
 rw [e2] at I'
 subst hv
 exact loop T' s' st I'⟩
@[reducible] noncomputable def dropV (Q:HL->Prop):HL->List (Option V)->Prop:=fun H _=>Q H
@[reducible] noncomputable def lcK (D:Wd) (A:Around) (env:Env) (os:List Str) (scope:Scope) (cl:List (Str×Addr)) (e:Expr) (o:AObj) (Q:Addr->HL->Prop):Addr->HL->Prop:=fun it H=>
 ∀ (acc:Addr) (fm':Fm),fm'.ns=os->∀ env',env'=compEnvC scope cl fm'.L env->CS D fm' A env' e 0 it acc ((acc,o)::H) (List.replicate os.length none) (dropV (Q acc))
@[reducible] noncomputable def refQ (Q:V->HL->Prop):Addr->HL->Prop:=fun a H=>Q (.ref a) H
theorem comp_frame {e:Expr} {scope:Scope} {pos:Pos} {g:Comprehension} {gs:List Comprehension} {newAcc:Sem Value} {use:Option (Value->Sem Unit)} {cl:List (Str×Addr)} {Qv:Value->Shared->Prop} (os:List Str) (nd:os.Nodup)
  (he:EnvOk fm env) (hcl:clausesOf e=g::gs) (hs:∀ x,foldedSetIterable g.iter env x=pure x) (hclos:closureFor scope env=pure cl) (hkind:scope.kind=.function)
  (hnames:∀ x∈scope.names,x.2=.local->scope.names.lookup x.1=some .local) (hcell:∀ x∈scope.names,x.2≠.cell) {Q:Addr->HL->Prop}
  {o:AObj} (hnew:∀ T s H vs,Inv D fm T s H vs->wpAny (model D.prog D.w) A newAcc (fun v s'=>∃ acc,v=.ref acc/\Inv D fm T s' ((acc,o)::H) vs) NoE s)
  (h:EV D fm A env g.iter H vs (itP D A (lcK D A env os scope cl e o Q)))
  (I:Inv D fm T s H vs)
  (hq:∀ T' s' H' acc C oC,Sub T T'->(∃ m,s'.heap.Ns C m)->Inv D fm T' s' ((C,.raw oC)::H') vs->Q acc H'->compPost (model D.prog D.w) A NoE use Qv (.ref acc) C (.ok .next) s') :
  wpAny (model D.prog D.w) A (comprehension e scope env pos newAcc false (eval g.iter env) use) Qv NoE s:=by
 refine wpAny_comprehension_free hcl hs hclos hkind hnames (wpNoE (h.run he T s I) fun v s₁ ⟨T₁,x,H₁,st₁,I₁,hx,h₁⟩=>wpNoE (h₁.run _ _ _ _ _ I₁ hx) fun w s₂ oo=>?_)
 obtain ⟨T₂,it,H₂,hw,st₂,I₂,h₂⟩:=oo
 subst hw
 refine wpNoE (hnew T₂ s₂ _ vs I₂) fun u s₃ oo=>?_
 obtain ⟨acc,hu,I₃⟩:=oo
 subst hu
 obtain ⟨F',inn,back⟩:=I₃.enterC os nd
 refine wpAny_newFunctionEnv hcell (by intro x hx; cases hx) (fun h₀ hns hsb=>?_) hkind
 have I₄:=inn s₃.heap.objs.size h₀ (s₃.toks+0) _ (List.replicate os.length none) (Nat.le_refl _) hns (fun b o e=>hsb.extBut b o (Nat.ne_of_lt (Heap.lt_size e)) (Heap.get?_push_of_some _ e)) (LocRel.nones os)
 refine codeAny_mono ((h₂ acc ⟨F',s₃.heap.objs.size,s₃.gens,s₃.os,os,nd⟩ rfl _ rfl).run ⟨hkind,rfl,he.glob,he.blt⟩ T₂ _ I₄) fun r s' hr=>?_
 cases r with
 | error e=>exact hr.elim
 | ok f=>
  cases f <;> try exact hr.elim
  obtain ⟨T',H',vs',st',I',hQ⟩:=hr
  obtain ⟨oC,hm,IC⟩:=back _ _ _ _ _ (Nat.le_refl _) st' I'
  exact hq T' s' H' acc _ oC ((st₁.trans st₂).trans st') hm IC hQ
end
end Mine
end
section
namespace Mine
section
variable {D:Wd} {fm:Fm} {A:Around} {env:Env} {H R:HL} {vs:List (Option V)} {T:Led} {s:Shared}
theorem PI.self {it:Addr} {k:IObj} (m:(it,.io k)∈H) (hk:match k with | .rng ..=>False | .vview _=>False | _=>True):PI D A (.ref it) H (selfQ it H):=⟨fun fm T s vs v I hx=>by
 obtain ⟨_,rfl⟩:=hx.inv
 obtain ⟨ob,g3,g⟩:=I.ioAt m
 have post:OutI D fm T vs (selfQ it H) (.ref it) s:=⟨T,it,H,rfl,.refl _,I,rfl,rfl⟩
 cases k with
 | liter l i=>exact wpAny_pyIter_listiter ⟨_,g3,g⟩ post
 | riter x left step=>
  subst g
  exact wpAny_pyIter_rangeiter g3 post
 | kiter d i n ep=>exact wpAny_pyIter_keyiter ⟨_,g3,g⟩ post
 | viter d i n ep=>exact wpAny_pyIter_valiter ⟨_,g3,g⟩ post
 | siter x i=>
  obtain ⟨g4,t,g5⟩:=g
  cases ha:x.cps.all (· < 128)
  ·exact wpAny_pyIter_striter_wide (x:=x) (t:=t) (i:=i) ⟨_,g3,by simpa [strIterType,ha] using g4,g5⟩ post
  ·exact wpAny_pyIter_striter_ascii (x:=x) (t:=t) (i:=i) ⟨_,g3,by simpa [strIterType,ha] using g4,g5⟩ post
 | rng a b c=>exact hk.elim
 | vview d=>exact hk.elim⟩
theorem PI.str {x:Str} {Q:Addr->HL->Prop} (hq:∀ a,Q a ((a,.io (.siter x 0))::H)):PI D A (.str x) H Q:=⟨fun fm T s vs v I hx=>by
 obtain ⟨_,rfl⟩:=hx.inv
 exact wpAny_pyIter_strU ⟨T,_,_,rfl,.refl _,I.new1 (tk:=s.toks) rfl (.io (k:=.siter x 0) ⟨rfl,_,rfl⟩),hq _⟩⟩
theorem NX.str {it:Addr} {i:Nat} {x:Str} {Q:Option V->HL->Prop} (hh:A.handled=none) (e:Ext it (.io (.siter x i)) H R)
  (h1:∀ c,x.cps[i]?=some c->Q (some (.str ⟨#[c]⟩)) ((it,.io (.siter x (i+1)))::R)) (h2:x.cps[i]?=none->Q none R):NX D A it H Q:=⟨fun fm T s vs I=>by
 obtain ⟨ob,g3,g4,t,g5⟩:=I.ioAt e.mem
 have fin:∀ h',Heap.ExtBut it s.heap h'->x.cps[i]?=none->OutS D fm T vs (Q none) { s with heap:=h' }:=fun h' k hn=>⟨T,R,.refl _,I.drop1 (tk:=s.toks) e k,h2 hn⟩
 have step:∀ h' c,x.cps[i]?=some c->Heap.SameBut it s.heap h'->(∃ o',h'.get? it=some o'/\o'.cls=.type (strIterType x)/\o'.data=.fields #[.str x t,.int ((i+1:Nat):Int) 0])->
   Out D fm T vs (fun y=>Q (some y)) (.str ⟨#[c]⟩ s.toks) { s with heap:=h',toks:=s.toks+1 }:=fun h' c hc sb oo=>by obtain ⟨o',q1,q2,q3⟩:=oo; exact ⟨T,.str ⟨#[c]⟩,_,.refl _,I.set1 (tk:=s.toks+1) e trivial sb q1 (.io (k:=.siter x (i+1)) ⟨q2,t,q3⟩),.str _ _,h1 c hc⟩
 cases ha:x.cps.all (· < 128)
 ·have hs:strIterType x="str_iterator":=by simp [strIterType,ha]
  rw [hs] at g4 step
  have hit:s.heap.IsStrIter it "str_iterator" x t i:=⟨_,g3,g4,g5⟩
  cases hc:x.cps[i]? with
  | some c=>exact wpAny_pyNext_wide_item hit hc fun h' hi sb=>step h' c hc sb hi
  | none=>exact wpAny_pyNext_wide_end hh hit hc fun h' k=>fin h' k hc
 ·have hs:strIterType x="str_ascii_iterator":=by simp [strIterType,ha]
  rw [hs] at g4 step
  have hit:s.heap.IsStrIter it "str_ascii_iterator" x t i:=⟨_,g3,g4,g5⟩
  cases hc:x.cps[i]? with
  | some c=>exact wpAny_pyNext_ascii_item hit hc fun h' hi sb=>step h' c hc sb hi
  | none=>exact wpAny_pyNext_ascii_end hh hit hc fun h' k=>fin h' k hc⟩
theorem newListOk (T:Led) (s:Shared) (vs:List (Option V)) (I:Inv D fm T s H vs):wpAny (model D.prog D.w) A (newList []) (fun v s'=>∃ acc,v=.ref acc/\Inv D fm T s' ((acc,.list [])::H) vs) NoE s:=
 wpAny_newObj_type ⟨_,rfl,I.new1 (tk:=s.toks) rfl (.list .nil)⟩
theorem EV.listComp {elt target iter:Expr} {ifs:List Expr} {rest:List Comprehension} {scope:Scope} {pos:Pos} {cl:List (Str×Addr)} {Q:V->HL->Prop} (os:List Str) (nd:os.Nodup) (hclos:closureFor scope env=pure cl)
  (h:EV D fm A env iter H vs (itP D A (lcK D A env os scope cl (.ListComp elt (⟨target,iter,ifs,0⟩::rest) scope pos) (.list []) (refQ Q))))
  (hnames:∀ x∈scope.names,x.2=.local->scope.names.lookup x.1=some .local) (hcell:∀ x∈scope.names,x.2≠.cell)
  (hkind:scope.kind=.function:=by rfl) (hs:∀ x,foldedSetIterable iter env x=pure x:=by intro _; rfl) :
  EV D fm A env (.ListComp elt (⟨target,iter,ifs,0⟩::rest) scope pos) H vs Q:=⟨fun he T s I=>by
 rw [eval_ListComp]
 refine comp_frame (g:=⟨target,iter,ifs,0⟩) (use:=none) (Q:=refQ Q) os nd he rfl hs hclos hkind hnames hcell (o:=.list []) (fun T s H vs I=>newListOk T s vs I) h I ?_
 rintro T' s' H' acc C oC st ⟨m,hm⟩ I' hq
 refine ⟨m,hm,fun h' hs'=>⟨T',.ref acc,H',st,?_,.ref _,hq⟩⟩
 exact I'.drop1 (tk:=s'.toks) .head hs'.extBut⟩
theorem swaps_c {elt:Expr} {gens:List Comprehension} {scope sc:Scope} {pos p:Pos} {x:Str} {line:Nat} {env:Env} (he:env.scope=sc)
  (h:((if sc.kind.isAnnotationScope then .function else sc.kind)==.function && sc.names.lookup x==some .local && p.line==pos.line && !(scope.names.any fun (n,k)=>n==x && (k==.local || k==.cell)))=true) :
  swapsWith (.ListComp elt gens scope pos) (some (.Name x p)) line env=pure true:=by subst he; exact congrArg pure h
theorem EX.assignComp {elt target iter:Expr} {ifs:List Expr} {rest:List Comprehension} {scope:Scope} {x:Str} {p pos spos:Pos} {cl:List (Str×Addr)} {i:Nat} {Q:Fl->HL->List (Option V)->Prop} (os:List Str) (nd:os.Nodup)
  (hk:env.scope.names.lookup x=some .local) (hi:fm.ns[i]?=some x) (hclos:closureFor scope env=pure cl)
  (hsw:swapsWith (.ListComp elt (⟨target,iter,ifs,0⟩::rest) scope pos) (some (.Name x p)) spos.line env=pure true)
  (h:EV D fm A env iter H vs (itP D A (lcK D A env os scope cl (.ListComp elt (⟨target,iter,ifs,0⟩::rest) scope pos) (.list []) (refQ (asgQ vs i Q)))))
  (hnames:∀ x∈scope.names,x.2=.local->scope.names.lookup x.1=some .local) (hcell:∀ x∈scope.names,x.2≠.cell)
  (hkind:scope.kind=.function:=by rfl) (hs:∀ x,foldedSetIterable iter env x=pure x:=by intro _; rfl) :
  EX D fm A env (.Assign [.Name x p] (.ListComp elt (⟨target,iter,ifs,0⟩::rest) scope pos) spos) H vs Q:=⟨fun he T s I=>by
 rw [exec_Assign_Name_used _ _ _ _ hsw]
 refine wpAny_bind (wpAny_standAt (wpAny_bind ?_))
 show wpAny _ A (do let _ <- comprehension (.ListComp elt (⟨target,iter,ifs,0⟩::rest) scope pos) scope env _ (newList []) false (eval iter env) (some (PySem.assign (.Name x p) env))) _ _ s
 refine wpAny_bind (wpNoE (comp_frame (g:=⟨target,iter,ifs,0⟩) (use:=some (PySem.assign (.Name x p) env)) (Qv:=fun _ s'=>OutF D fm T Q .next s') (Q:=refQ (asgQ vs i Q)) os nd he rfl hs hclos hkind hnames hcell (o:=.list []) (fun T s H vs I=>newListOk T s vs I) h I ?_)
  fun _ s' hq=>wpAny_pure (wpAny_pure hq))
 rintro T' s' H' acc C oC st ⟨m,hm⟩ I' hq
 show wpAny _ A (PySem.assign (.Name x p) env (.ref acc)) _ _ _
 refine wpAny_assign_Name (storeL he hk hi I' (.ref acc) fun s'' I''=>?_)
 have gC:∀ {T:Led} {s:Shared} {vs:List (Option V)},Inv D fm T s ((C,.raw oC)::H') vs->s.heap.get? C=some oC:=fun I=>by
  obtain ⟨b,hc,hb⟩:=I.read (.head _)
  cases hc
  exact (hb _ (.head _)).1
 obtain ⟨o₁,es,ep,e1,e2⟩:=hm
 rw [gC I'] at e1
 cases e1
 exact ⟨m,⟨oC,es,ep,gC I'',e2⟩,fun h' hs'=>⟨T',.next,H',_,st,I''.drop1 (tk:=s''.toks) .head hs'.extBut,.next,hq⟩⟩⟩
end
end Mine
end
section
namespace Mine
section
variable {D:Wd} {fm:Fm} {A:Around} {env:Env} {H R:HL} {vs:List (Option V)} {T:Led} {s:Shared} {a:Addr} {o:AObj}
theorem Ext.at0:Ext a o ((a,o)::H) H:=.head
theorem Ext.at1 {p:Addr×AObj}:Ext a o (p::(a,o)::H) (p::H):=.tail .head
theorem Ext.at2 {p q:Addr×AObj}:Ext a o (p::q::(a,o)::H) (p::q::H):=.tail .at1
theorem Ext.at3 {p q r:Addr×AObj}:Ext a o (p::q::r::(a,o)::H) (p::q::r::H):=.tail .at2
theorem Ext.at4 {p q r t:Addr×AObj}:Ext a o (p::q::r::t::(a,o)::H) (p::q::r::t::H):=.tail .at3
theorem Ext.at5 {p q r t u:Addr×AObj}:Ext a o (p::q::r::t::u::(a,o)::H) (p::q::r::t::u::H):=.tail .at4
theorem Ext.at6 {p q r t u v:Addr×AObj}:Ext a o (p::q::r::t::u::v::(a,o)::H) (p::q::r::t::u::v::H):=.tail .at5
theorem Ext.at7 {p q r t u v w:Addr×AObj}:Ext a o (p::q::r::t::u::v::w::(a,o)::H) (p::q::r::t::u::v::w::H):=.tail .at6
theorem Ext.at8 {p q r t u v w x:Addr×AObj}:Ext a o (p::q::r::t::u::v::w::x::(a,o)::H) (p::q::r::t::u::v::w::x::H):=.tail .at7
theorem Ext.at9 {p q r t u v w x y:Addr×AObj}:Ext a o (p::q::r::t::u::v::w::x::y::(a,o)::H) (p::q::r::t::u::v::w::x::y::H):=.tail .at8
theorem Ext.at10 {p q r t u v w x y z:Addr×AObj}:Ext a o (p::q::r::t::u::v::w::x::y::z::(a,o)::H) (p::q::r::t::u::v::w::x::y::z::H):=.tail .at9
theorem Ext.at11 {p q r t u v w x y z b:Addr×AObj}:Ext a o (p::q::r::t::u::v::w::x::y::z::b::(a,o)::H) (p::q::r::t::u::v::w::x::y::z::b::H):=.tail .at10
theorem Ext.at12 {p q r t u v w x y z b c:Addr×AObj}:Ext a o (p::q::r::t::u::v::w::x::y::z::b::c::(a,o)::H) (p::q::r::t::u::v::w::x::y::z::b::c::H):=.tail .at11
theorem m_0 {α:Type} {e:α} {l:List α}:e∈e::l:=.head _
theorem m_1 {α:Type} {e p:α} {l:List α}:e∈p::e::l:=.tail _ m_0
theorem m_2 {α:Type} {e p q:α} {l:List α}:e∈p::q::e::l:=.tail _ m_1
theorem m_3 {α:Type} {e p q r:α} {l:List α}:e∈p::q::r::e::l:=.tail _ m_2
theorem m_4 {α:Type} {e p q r t:α} {l:List α}:e∈p::q::r::t::e::l:=.tail _ m_3
theorem m_5 {α:Type} {e p q r t u:α} {l:List α}:e∈p::q::r::t::u::e::l:=.tail _ m_4
theorem m_6 {α:Type} {e p q r t u v:α} {l:List α}:e∈p::q::r::t::u::v::e::l:=.tail _ m_5
theorem m_7 {α:Type} {e p q r t u v w:α} {l:List α}:e∈p::q::r::t::u::v::w::e::l:=.tail _ m_6
theorem m_8 {α:Type} {e p q r t u v w x:α} {l:List α}:e∈p::q::r::t::u::v::w::x::e::l:=.tail _ m_7
theorem m_9 {α:Type} {e p q r t u v w x y:α} {l:List α}:e∈p::q::r::t::u::v::w::x::y::e::l:=.tail _ m_8
theorem m_10 {α:Type} {e p q r t u v w x y z:α} {l:List α}:e∈p::q::r::t::u::v::w::x::y::z::e::l:=.tail _ m_9
theorem m_11 {α:Type} {e p q r t u v w x y z b:α} {l:List α}:e∈p::q::r::t::u::v::w::x::y::z::b::e::l:=.tail _ m_10
theorem m_12 {α:Type} {e p q r t u v w x y z b c:α} {l:List α}:e∈p::q::r::t::u::v::w::x::y::z::b::c::e::l:=.tail _ m_11
theorem t_2 {α:Type} {e p q:α} {l:List α} (h:e∈l):e∈p::q::l:=.tail _ (.tail _ h)
theorem t_3 {α:Type} {e p q r:α} {l:List α} (h:e∈l):e∈p::q::r::l:=.tail _ (t_2 h)
theorem t_4 {α:Type} {e p q r t:α} {l:List α} (h:e∈l):e∈p::q::r::t::l:=.tail _ (t_3 h)
theorem t_5 {α:Type} {e p q r t u:α} {l:List α} (h:e∈l):e∈p::q::r::t::u::l:=.tail _ (t_4 h)
theorem t_6 {α:Type} {e p q r t u v:α} {l:List α} (h:e∈l):e∈p::q::r::t::u::v::l:=.tail _ (t_5 h)
theorem t_7 {α:Type} {e p q r t u v w:α} {l:List α} (h:e∈l):e∈p::q::r::t::u::v::w::l:=.tail _ (t_6 h)
theorem t_8 {α:Type} {e p q r t u v w x:α} {l:List α} (h:e∈l):e∈p::q::r::t::u::v::w::x::l:=.tail _ (t_7 h)
theorem t_9 {α:Type} {e p q r t u v w x y:α} {l:List α} (h:e∈l):e∈p::q::r::t::u::v::w::x::y::l:=.tail _ (t_8 h)
theorem t_10 {α:Type} {e p q r t u v w x y z:α} {l:List α} (h:e∈l):e∈p::q::r::t::u::v::w::x::y::z::l:=.tail _ (t_9 h)
theorem t_11 {α:Type} {e p q r t u v w x y z b:α} {l:List α} (h:e∈l):e∈p::q::r::t::u::v::w::x::y::z::b::l:=.tail _ (t_10 h)
theorem t_12 {α:Type} {e p q r t u v w x y z b c:α} {l:List α} (h:e∈l):e∈p::q::r::t::u::v::w::x::y::z::b::c::l:=.tail _ (t_11 h)
theorem Ext.toPerm:∀ {H R:HL},Ext a o H R->H.Perm ((a,o)::R):=Ext.perm
theorem Ext.pc {L:HL} (e:Ext a o H R) (p:R.Perm L):H.Perm ((a,o)::L):=e.toPerm.trans (.cons _ p)
noncomputable def pickL {α:Type}:List Nat->List α->List α
 | [],l=>l
 | i::is,l=>l[i]?.elim l fun x=>x::pickL is (l.eraseIdx i)
theorem perm_at {α:Type} {x:α} {l:List α}:∀ {i:Nat},l[i]?=some x->l.Perm (x::l.eraseIdx i):=by
 induction l with
 | nil=>intro i h; cases h
 | cons y l ih=>
  intro i h
  cases i with
  | zero=>cases h; exact .refl _
  | succ i=>exact (List.Perm.cons y (ih h)).trans (.swap _ _ _)
theorem pick {α:Type} (is:List Nat) (l:List α):l.Perm (pickL is l):=by
 induction is generalizing l with
 | nil=>exact .refl _
 | cons i is ih=>
  show l.Perm (l[i]?.elim l fun x=>x::pickL is (l.eraseIdx i))
  cases h:l[i]? with
  | none=>exact .refl _
  | some x=>exact (perm_at h).trans (.cons _ (ih _))
theorem EX.perm {e:Stmt} {H':HL} {Q:Fl->HL->List (Option V)->Prop} (p:H.Perm H') (h:EX D fm A env e H' vs Q):EX D fm A env e H vs Q:=⟨fun he T s I=>h.run he T s (I.perm p)⟩
theorem EB.perm {e:Expr} {H':HL} {Q:Bool->HL->Prop} (p:H.Perm H') (h:EB D fm A env e H' vs Q):EB D fm A env e H vs Q:=⟨fun he T s I=>h.run he T s (I.perm p)⟩
end
end Mine
end
section
namespace Mine
section
variable {D:Wd} {fm:Fm} {A:Around} {env:Env} {H R:HL} {vs:List (Option V)} {T:Led} {s:Shared}
theorem GI.last {a:Addr} {xs:List V} {x:V} {Q:V->HL->Prop} (m:(a,.list (xs++[x]))∈H) (hz:xs.length < 2 ^ 24) (hq:Q x H):GI D A (.ref a) (.int (-1)) H Q:=⟨fun fm T s vs ov iv I ho hi=>by
 obtain ⟨_,rfl⟩:=ho.inv; obtain ⟨_,rfl⟩:=hi.inv
 obtain ⟨ws,n,h1,h2⟩:=I.listAt m
 obtain ⟨v,e,hr⟩:=h2.get (i:=xs.length) (x:=x) (by simp)
 have hlen:ws.length=xs.length+1:=by rw [h2.length]; simp
 have hl:s.heap.IsList a ws.toArray:=⟨_,h1,rfl,_,rfl⟩
 refine ⟨⟨"list",_,hl.typeIs,PySem.F.slot_list_getitem.lookup⟩,wpAny_getItem_list_neg hl (by decide) ?_ (by decide) (x:=v) ?_ ⟨T,x,H,.refl _,I,hr,hq⟩⟩
 ·simp only [List.size_toArray,hlen]; simp +arith
 ·have:(-1+((ws.toArray.size:Nat):Int)).toNat=xs.length:=by simp only [List.size_toArray,hlen]; simp +arith
  rw [this]; simpa using e⟩
end
end Mine
namespace Mine
inductive Drop:HL->HL->Prop where
 | refl (H:HL):Drop H H
 | perm {H H' R:HL}:H.Perm H'->Drop H' R->Drop H R
 | cons {a:Addr} {o:AObj} {H H' R:HL}:Ext a o H H'->Drop H' R->Drop H R
section
variable {D:Wd} {fm:Fm} {A:Around} {env:Env} {H R:HL} {vs:List (Option V)} {T:Led} {s:Shared}
theorem Drop.inv (d:Drop H R) (I:Inv D fm T s H vs):Inv D fm T s R vs:=by
 induction d with
 | refl=>exact I
 | perm p _ ih=>exact ih (I.perm p)
 | cons e _ ih=>exact ih (I.forget e)
inductive DropV {α:Type} (Q:α->HL->Prop) (x:α) (H:HL):Prop where
 | mk (R:HL) (d:Drop H R) (q:Q x R)
theorem CL.drop {f:V} {xs:List V} {Q:V->HL->Prop} (h:CL D A f xs H (DropV Q)):CL D A f xs H Q:=⟨fun fm T s vs fv ws I hf hw=>wpNoE (h.run fm T s vs fv ws I hf hw) fun _ _ oo=>by obtain ⟨T',x,H',st,I',hx,R,d,hq⟩:=oo; exact ⟨T',x,R,st,d.inv I',hx,hq⟩⟩
theorem EV.drop {e:Expr} {Q:V->HL->Prop} (h:EV D fm A env e H vs (DropV Q)):EV D fm A env e H vs Q:=⟨fun he T s I=>wpNoE (h.run he T s I) fun _ _ oo=>by obtain ⟨T',x,H',st,I',hx,R,d,hq⟩:=oo; exact ⟨T',x,R,st,d.inv I',hx,hq⟩⟩
theorem XS.drop {st:List Stmt} {Q:Fl->HL->List (Option V)->Prop} (d:Drop H R) (h:XS D fm A env st R vs Q):XS D fm A env st H vs Q:=⟨fun he T s I=>h.run he T s (d.inv I)⟩
end
end Mine
end
section
namespace Mine
section
variable {D:Wd} {fm:Fm} {A:Around} {env:Env} {H R:HL} {vs:List (Option V)} {T:Led} {s:Shared}
theorem Concs.append {X H:HL} {NX N:Led} (c:Concs D T X NX) (c':Concs D T H N):Concs D T (X++H) (NX++N):=by
 induction c with
 | nil=>exact c'
 | cons c _ ih=>rw [List.append_assoc]; exact .cons c ih
theorem Inv.enterX (I:Inv D fm T s H vs) (ns':List Str) (nd':ns'.Nodup):∃ F',
  (∀ (L':Addr) (h':Heap) (tk:Tok) (mc:Str->Option Value) (vs':List (Option V)) (X:HL) (NX:Led),s.heap.objs.size<=L'->h'.Ns L' mc->(∀ b o,s.heap.get? b=some o->h'.get? b=some o)->LocRel T mc ns' vs'->
   Concs D T X NX->(∀ p∈NX,h'.get? p.1=some p.2/\L' < p.1)->(NX.map (·.1)).Nodup->Inv D ⟨F',L',s.gens,s.os,ns',nd'⟩ T { s with heap:=h',toks:=tk } (X++H) vs') /\
  (∀ L' T' s' H' vs' gs',GOk fm.gs gs'->Sub T T'->Inv D ⟨F',L',gs',s.os,ns',nd'⟩ T' s' H' vs'->Inv D fm T' s' H' vs):=by
 have low:=I.low
 obtain ⟨⟨mc,N,F,l,c,n,nd,lo⟩,B,g,os⟩:=I
 have nm:∀ b o,fm.F.get? b=some o->b ∉ (T++N).map (·.1):=fun b o e q=>by
  obtain ⟨p,hp,rfl⟩:=List.mem_map.mp q
  rw [(n p hp).2.2] at e; cases e
 have st:∀ b o,fm.F.get? b=some o->(hideAll s.heap ((T++N).map (·.1))).get? b=some o:=fun b o e=>hideAll_get _ (F.keep b o e) (nm b o e)
 have nL:fm.L ∉ (T++N).map (·.1):=fun q=>by
  obtain ⟨p,hp,e⟩:=List.mem_map.mp q
  exact (n p hp).2.1 e
 obtain ⟨oL,es,ep,hLo,r⟩:=F.ns
 have hLg:=hideAll_get _ hLo nL
 refine ⟨hideAll s.heap ((T++N).map (·.1)),fun L' h' tk mc' vs' X NX hL hns k l' cX gX ndX=>?_,fun L' T' s' H' vs' gs' hg hT I'=>?_⟩
 ·have big:∀ p∈NX,s.heap.objs.size<=p.1:=fun p hp=>Nat.le_of_lt (Nat.lt_of_le_of_lt hL (gX p hp).2)
  have small:∀ p∈T++N,p.1 < s.heap.objs.size:=fun p hp=>Heap.lt_size (n p hp).1
  have pp:(T++(NX++N)).Perm (NX++(T++N)):=by
   rw [<- List.append_assoc,<- List.append_assoc]
   exact List.Perm.append_right _ List.perm_append_comm
  refine ⟨⟨mc',NX++N,⟨hns,fun b o e=>k b o (of_hideAll _ e),Nat.le_trans (Nat.le_of_eq (hideAll_size _ _)) hL⟩,l',cX.append c,fun p hp=>?_,?_,fun p hp=>?_⟩,B.keeps st,GOk.refl _,rfl⟩
  ·rcases List.mem_append.mp (pp.mem_iff.mp hp) with hp | hp
   ·refine ⟨(gX p hp).1,Nat.ne_of_gt (gX p hp).2,?_⟩
    cases q:(hideAll s.heap ((T++N).map (·.1))).get? p.1 with
    | none=>rfl
    | some o=>exact absurd (Heap.lt_size (of_hideAll _ q)) (Nat.not_lt.mpr (big p hp))
   ·exact ⟨k _ _ (n p hp).1,Nat.ne_of_lt (Nat.lt_of_lt_of_le (small p hp) hL),hideAll_none _ (List.mem_map_of_mem hp)⟩
  ·refine ((pp.map _).nodup_iff).mpr ?_
   rw [List.map_append]
   refine List.nodup_append.mpr ⟨ndX,nd,fun x hx y hy e=>?_⟩
   obtain ⟨p,hp,rfl⟩:=List.mem_map.mp hx
   obtain ⟨q,hq,rfl⟩:=List.mem_map.mp hy
   have h1:=big p hp
   have h2:=small q hq
   rw [e] at h1
   exact absurd h1 (Nat.not_le.mpr h2)
  ·rcases List.mem_append.mp hp with hp | hp
   ·have:=big p hp
    intro e
    rw [e] at this
    exact absurd low (Nat.not_lt.mpr this)
   ·exact lo p hp
 ·obtain ⟨⟨mc',N',F',l',c',n',nd',lo'⟩,B',g',os'⟩:=I'
  refine ⟨⟨mc,N',⟨⟨oL,es,ep,F'.keep _ _ hLg,r⟩,fun b o e=>F'.keep b o (st b o e),F.above⟩,l.mono hT,c',fun p hp=>⟨(n' p hp).1,fun q=>?_,?_⟩,nd',lo'⟩,B,?_,os'.trans os⟩
  ·have:=(n' p hp).2.2; rw [q,hLg] at this; cases this
  ·cases q:fm.F.get? p.1 with
   | none=>rfl
   | some o=>have:=(n' p hp).2.2; rw [st _ _ q] at this; cases this
  ·refine ⟨fun i x e=>g'.1 i x (hg.1 i x e),fun i x hi e=>?_⟩
   by_cases hi':gs'.size<=i
   ·exact g'.2 i x hi' e
   ·have hlt:i < gs'.size:=Nat.not_le.mp hi'
    have e2:gs'[i]?=some gs'[i]:=Array.getElem?_eq_getElem hlt
    have e3:=g'.1 i _ e2
    rw [e] at e3
    cases e3
    exact hg.2 i _ hi e2
theorem CC.fnC {k:Nat} {f:Addr} {name qual:Str} {params:Arguments} {body:List Stmt} {scope:Scope} {dV kV doc pm cdv ct oc:Value} {an od:Option Addr} {osl:Array (Option Value)} {p y:Str} {os:List Str} {x:V} {Q:V->HL->Prop}
  (hK:D.K.lookup f=some ⟨oc,od,.func (fnOf name qual params body scope dV kV doc pm an cdv ct),osl⟩) (hcd:codeIn D.K cdv qual=true) (hroom:Rm (k+1) A)
  (hb:∀ w:Value,bindArgs (fnOf name qual params body scope dV kV doc pm an cdv ct) ⟨[w],[]⟩=pure [(p,w)]) (hp:scope.names.lookup p=some .local) (nd:(p::os).Nodup) (hcs:∀ n,cellsFrom n scope.names []=[(y,n)])
  (h:∀ (fm:Fm) (env:Env) (c:Addr),fm.ns=p::os->env.scope=scope->env.cells=[(y,c)]->∀ A':Around,Rm k A'->XS D fm A' env body ((c,.cell none)::H) (some x::List.replicate os.length none) (outQ Q))
  (hco:scope.isCoroutine=false:=by rfl) (hgen:scope.isGenerator=false:=by rfl) (hk:scope.kind=.function:=by rfl):CC D A f [x] H Q:=⟨fun fm T s vs ws I hw=>by
 obtain ⟨v,rfl,hv⟩:=vrels1 hw
 obtain ⟨F',inn,back⟩:=I.enterX (p::os) nd
 refine codeAny_call_cells (fd:=fnOf name qual params body scope dV kV doc pm an cdv ct) (body:=body) (binds:=[(p,v)]) (by have:=hroom.depth; show A.depth < 1000; exact linL this (by simp +arith)) (I.k _ _ hK) rfl I.nolimit (codeRec_of I.k hcd) rfl
  (hb v) rfl (fun q hq=>by cases List.mem_singleton.mp hq; exact .inl hp) (fun s₁ ic=>?_) hco hgen hk
 have hcells:(callEnvC (fnOf name qual params body scope dV kV doc pm an cdv ct) s.heap.objs.size f).cells=[(y,s.heap.objs.size+1)]:=hcs _
 rw [hcells] at ic
 obtain ⟨h₁,tk,rfl⟩:=ic.toInCall.same
 obtain ⟨oc',hg,hd⟩:=ic.cell y (s.heap.objs.size+1) (by simp)
 have hkp:(callEnvC (fnOf name qual params body scope dV kV doc pm an cdv ct) s.heap.objs.size f).kindOf p=some .local:=hp
 have I':=inn s.heap.objs.size h₁ tk _ (some x::List.replicate os.length none) [(s.heap.objs.size+1,.cell none)] [(s.heap.objs.size+1,oc')] (Nat.le_refl _) ic.toInCall.ns ic.toInCall.keep
  (.cons (fun z e=>by cases e; exact ⟨v,by simp [bindL,hkp],hv⟩) (LocRel.nones os)) (.cons (b:=[(s.heap.objs.size+1,oc')]) (.cell0 (by rw [hd]; simp [bindC,hkp])) .nil)
  (fun q hq=>by cases List.mem_singleton.mp hq; exact ⟨hg,Nat.lt_succ_self _⟩) (by simp)
 refine wpNoE ((h ⟨F',s.heap.objs.size,s.gens,s.os,p::os,nd⟩ _ _ rfl rfl hcells _ hroom.deeper).run ⟨hk,rfl,rfl,rfl⟩ T _ I') fun fl s' oo=>?_
 obtain ⟨T',fl',H',vs',st,I'',hfl,hq⟩:=oo
 have I3:=back _ _ _ _ _ _ I.gens st I''
 cases hfl with
 | next=>exact ⟨T',.none,H',st,I3,.none,hq⟩
 | brk=>exact hq.elim
 | cont=>exact hq.elim
 | ret hr=>exact ⟨T',_,H',st,I3,hr,hq⟩⟩
theorem CC.fnP {k:Nat} {f:Addr} {name qual:Str} {params:Arguments} {body:List Stmt} {scope:Scope} {dV kV doc pm cdv ct oc:Value} {an od:Option Addr} {osl:Array (Option Value)} {y:Str} {os:List Str} {x:V} {Q:V->HL->Prop}
  (hK:D.K.lookup f=some ⟨oc,od,.func (fnOf name qual params body scope dV kV doc pm an cdv ct),osl⟩) (hcd:codeIn D.K cdv qual=true) (hroom:Rm (k+1) A)
  (hb:∀ w:Value,bindArgs (fnOf name qual params body scope dV kV doc pm an cdv ct) ⟨[w],[]⟩=pure [(y,w)]) (hp:scope.names.lookup y=some .cell) (nd:os.Nodup) (hcs:∀ n,cellsFrom n scope.names []=[(y,n)])
  (h:∀ (fm:Fm) (env:Env) (c:Addr),fm.ns=os->env.scope=scope->env.cells=[(y,c)]->∀ A':Around,Rm k A'->XS D fm A' env body ((c,.cell (some x))::H) (List.replicate os.length none) (outQ Q))
  (hco:scope.isCoroutine=false:=by rfl) (hgen:scope.isGenerator=false:=by rfl) (hk:scope.kind=.function:=by rfl):CC D A f [x] H Q:=⟨fun fm T s vs ws I hw=>by
 obtain ⟨v,rfl,hv⟩:=vrels1 hw
 obtain ⟨F',inn,back⟩:=I.enterX os nd
 refine codeAny_call_cells (fd:=fnOf name qual params body scope dV kV doc pm an cdv ct) (body:=body) (binds:=[(y,v)]) (by have:=hroom.depth; show A.depth < 1000; exact linL this (by simp +arith)) (I.k _ _ hK) rfl I.nolimit (codeRec_of I.k hcd) rfl
  (hb v) rfl (fun q hq=>by cases List.mem_singleton.mp hq; exact .inr ⟨hp,by show ((cellsFrom _ scope.names []).lookup y).isSome=true; rw [hcs]; simp⟩) (fun s₁ ic=>?_) hco hgen hk
 have hcells:(callEnvC (fnOf name qual params body scope dV kV doc pm an cdv ct) s.heap.objs.size f).cells=[(y,s.heap.objs.size+1)]:=hcs _
 rw [hcells] at ic
 obtain ⟨h₁,tk,rfl⟩:=ic.toInCall.same
 obtain ⟨oc',hg,hd⟩:=ic.cell y (s.heap.objs.size+1) (by simp)
 have hkp:(callEnvC (fnOf name qual params body scope dV kV doc pm an cdv ct) s.heap.objs.size f).kindOf y=some .cell:=hp
 have I':=inn s.heap.objs.size h₁ tk _ (List.replicate os.length none) [(s.heap.objs.size+1,.cell (some x))] [(s.heap.objs.size+1,oc')] (Nat.le_refl _) ic.toInCall.ns ic.toInCall.keep
  (LocRel.nones os) (.cons (b:=[(s.heap.objs.size+1,oc')]) (.cell (v:=v) (by rw [hd]; simp [bindC,hkp]) hv) .nil)
  (fun q hq=>by cases List.mem_singleton.mp hq; exact ⟨hg,Nat.lt_succ_self _⟩) (by simp)
 refine wpNoE ((h ⟨F',s.heap.objs.size,s.gens,s.os,os,nd⟩ _ _ rfl rfl hcells _ hroom.deeper).run ⟨hk,rfl,rfl,rfl⟩ T _ I') fun fl s' oo=>?_
 obtain ⟨T',fl',H',vs',st,I'',hfl,hq⟩:=oo
 have I3:=back _ _ _ _ _ _ I.gens st I''
 cases hfl with
 | next=>exact ⟨T',.none,H',st,I3,.none,hq⟩
 | brk=>exact hq.elim
 | cont=>exact hq.elim
 | ret hr=>exact ⟨T',_,H',st,I3,hr,hq⟩⟩
theorem NX.perm {it:Addr} {H':HL} {Q:Option V->HL->Prop} (p:H.Perm H') (h:NX D A it H' Q):NX D A it H Q:=⟨fun fm T s vs I=>h.run fm T s vs (I.perm p)⟩
inductive DropS (Q:HL->List (Option V)->Prop) (H:HL) (vs:List (Option V)):Prop where
 | mk (R:HL) (d:Drop H R) (q:Q R vs)
theorem CS.drop {e:Expr} {d:Nat} {it acc:Addr} {Q:HL->List (Option V)->Prop} (h:CS D fm A env e d it acc H vs (DropS Q)):CS D fm A env e d it acc H vs Q:=⟨fun he T s I=>codeAny_mono (h.run he T s I) fun r s' hr=>by
 cases r with
 | error e=>exact hr.elim
 | ok f=>
  cases f <;> try exact hr.elim
  obtain ⟨T',H',vs',st,I',R,d,hq⟩:=hr
  exact ⟨T',R,vs',st,d.inv I',hq⟩⟩
end
end Mine
end
section
namespace Mine
section
variable {D:Wd} {fm:Fm} {A:Around} {env:Env} {H R:HL} {vs:List (Option V)} {T:Led} {s:Shared}
theorem CL.listCopy {a:Addr} {xs:List V} {Q:V->HL->Prop} (m:(a,.list xs)∈H) (hz:xs.length<=sizeLine) (hq:∀ l,Q (.ref l) ((l,.list xs)::H)):CL D A (.raw (.type "list")) [.ref a] H Q:=⟨fun fm T s vs fv ws I hf hw=>by
 obtain ⟨_,rfl⟩:=hf.inv
 obtain ⟨v,rfl,h1⟩:=vrels1 hw
 obtain ⟨_,rfl⟩:=h1.inv
 obtain ⟨us,n,g1,g2⟩:=I.listAt m
 refine call_list_seq a (.inl rfl) g1 rfl rfl (fun h' c' hk hD=>?_) (by simpa [g2.length] using hz)
 exact ⟨T,.ref s.heap.objs.size,_,.refl _,I.new (b':=[(s.heap.objs.size,lObj us c')]) (tk:=s.toks) (.list g2) (fun p hp=>by cases List.mem_singleton.mp hp; exact ⟨hD,Nat.le_refl _⟩) (by simp) hk,.ref _,hq _⟩⟩
theorem AS.perm {t:Expr} {it:Addr} {x:V} {H':HL} {Q:HL->List (Option V)->Prop} (p:H.Perm H') (h:AS D fm A env t it x H' vs Q):AS D fm A env t it x H vs Q:=⟨fun he T s v I=>h.run he T s v (I.perm p)⟩
end
end Mine
namespace Mine
section
variable {D:Wd} {fm:Fm} {A:Around} {env:Env} {H R:HL} {vs:List (Option V)} {T:Led} {s:Shared}
theorem CL.range3 {a b c:Int} {Q:V->HL->Prop} (hc:c≠0) (hp:Builtin.divisionGoesByPylong (b - a) c=false) (hq:∀ r,Q (.ref r) ((r,.io (.rng a b c))::H)):CL D A (.raw (.type "range")) [.int a,.int b,.int c] H Q:=⟨fun fm T s vs fv ws I hf hw=>by
 obtain ⟨_,rfl⟩:=hf.inv
 cases hw with | cons h1 hw=>cases hw with | cons h2 hw=>cases hw with | cons h3 hw=>
 cases hw
 obtain ⟨_,rfl⟩:=h1.inv; obtain ⟨_,rfl⟩:=h2.inv; obtain ⟨_,rfl⟩:=h3.inv
 exact PySem.call_range_3 hc (hp:=.inl hp) ⟨T,_,_,.refl _,I.new1 (tk:=s.toks) rfl (.io (k:=.rng a b c) ⟨_,_,_,rfl⟩),.ref _,hq _⟩⟩
inductive ForS (D:Wd) (fm:Fm) (A:Around) (env:Env) (target:Expr) (body orelse:List Stmt) (vs:List (Option V)) (Q:Fl->HL->List (Option V)->Prop) (v:V) (H:HL):Prop where
 | mk (r:Addr) (a b c:Int) (R:HL) (e:v=.ref r) (er:Ext r (.io (.rng a b c)) H R) (hsm:Builtin.Range.small a b c=true) (n:Nat) (hn:Builtin.Range.rangeSize a b c=n) (J:Nat->HL->List (Option V)->Prop) (j0:J 0 R vs)
  (turn:∀ it (i:Nat) H₃ vs₃ (N:Fl->HL->List (Option V)->Prop),Imp3 (turnQ (JnQ it (.riter (a+(i+1:Nat) * c) (n - (i+1:Nat)) c) (J (i+1))) Q) N->i < n->J i H₃ vs₃->AS D fm A env target it (.int (a+i * c)) ((it,.io (.riter (a+(i+1:Nat) * c) (n - (i+1:Nat)) c))::H₃) vs₃ (bodyQ D fm A env body N))
  (fin:∀ H₃ vs₃,J n H₃ vs₃->XS D fm A env orelse H₃ vs₃ Q)
theorem EX.forRs {target iter:Expr} {body orelse:List Stmt} {pos:Pos} {Q:Fl->HL->List (Option V)->Prop} (hh:A.handled=none)
  (h:EV D fm A env iter H vs (ForS D fm A env target body orelse vs Q))
  (hs:∀ x,foldedSetIterable iter env x=pure x:=by intro _; rfl):EX D fm A env (.For target iter body orelse pos) H vs Q:=by
 refine EX.for_ (h.mono fun v H₁ oo=>?_) hs
 obtain ⟨r,a,b,c,R,e,er,hsm,n,hn,J,j0,turn,fin⟩:=oo
 subst e
 refine PI.range er hsm fun it=>⟨fun m H vs=>∃ (i:Nat) (R:HL),m=n - i/\i<=n/\Ext it (.io (.riter (a+i * c) (n - (i:Int)) c)) H R/\J i R vs,⟨_,0,R,rfl,Nat.zero_le _,?_,j0⟩,fun m H₃ vs₃ N hN ⟨i,R,hm,hi,e,j⟩=>?_⟩
 ·rw [hn]; simpa using Ext.head
 subst hm
 refine NX.range hh e (fun hl=>?_) (fun hl=>?_)
 ·have hlt:i < n:=by lia
  have e1:a+(i:Int) * c+c=a+((i+1:Nat):Int) * c:=by
   rw [show ((i+1:Nat):Int)=(i:Int)+1 from by simp +arith,Int.add_mul]; exact linZE (Int.le_refl 0) (by simp +arith only) (Int.le_refl 0) (by simp +arith only)
  have e2:(n:Int) - (i:Int) - 1=n - ((i+1:Nat):Int):=by simp +arith
  rw [e1,e2]
  exact turn it i R vs₃ N (fun {fl H₆ vs₆} hq=>hN (by
   cases fl with
   | next=>obtain ⟨R',e',j'⟩:=hq; exact ⟨_,sub_dn hlt,i+1,R',rfl,hlt,e',j'⟩
   | cont=>obtain ⟨R',e',j'⟩:=hq; exact ⟨_,sub_dn hlt,i+1,R',rfl,hlt,e',j'⟩
   | brk=>exact hq
   | ret v=>exact hq)) hlt j
 ·have:i=n:=by lia
  subst this
  exact fin _ _ j
end
end Mine
namespace Mine
theorem kpAnd {D:Wd} {H:HL} {v:V} {P:Prop} (h:Kp D H v) (p:P):Kp D H v/\P:=⟨h,p⟩
theorem leAnd {a b:Nat} {P:Prop} (h:Nat.ble a b=true) (p:P):a<=b/\P:=⟨Nat.le_of_ble_eq_true h,p⟩
theorem cmpAnd {D:Wd} {A:Around} {op:CmpOp} {x y:V} {H:HL} {b:Bool} {Q:Bool->HL->Prop} (h:Cmp op x y b) (hq:Q b H):CP D A op x y H (ValQ Q):=CP.of h ⟨b,.bool b,hq⟩
end Mine
end
section
namespace Mine
section
variable {D:Wd} {fm:Fm} {A:Around} {env:Env} {H R:HL} {vs:List (Option V)} {T:Led} {s:Shared}
theorem EV.dict0 {pos:Pos} {o:AObj} {Q:V->HL->Prop} (ho:∀ T a,Conc D T a o [(a,{ cls:=.type "dict",data:=.dict #[] 0 })]) (hq:∀ a,Q (.ref a) ((a,o)::H)):EV D fm A env (.Dict [] [] pos) H vs Q:=⟨fun he T s I=>by
 rw [eval_Dict_empty]
 refine wpAny_bind (wpAny_standAt ?_)
 exact wpAny_newObj_type ⟨T,.ref _,_,.refl _,I.new1 (tk:=s.toks) rfl (ho T _),.ref _,hq _⟩⟩
theorem dict0I (T:Led) (a:Addr):Conc D T a (.dictI [] 0) [(a,{ cls:=.type "dict",data:=.dict #[] 0 })]:=by
 refine .dictI (l:=[]) ⟨#[],⟨rfl,rfl,rfl⟩,rfl,(fun e he=>by simp at he),.nil,.nil⟩ .nil
theorem dict0S (T:Led) (a:Addr):Conc D T a (.dictS [] 0) [(a,{ cls:=.type "dict",data:=.dict #[] 0 })]:=by
 refine .dictS (l:=[]) ⟨#[],⟨rfl,rfl,rfl⟩,rfl,(fun e he=>by simp at he),.nil,.nil⟩ .nil
theorem dict0T (T:Led) (a:Addr):Conc D T a (.dictT 0) [(a,{ cls:=.type "dict",data:=.dict #[] 0 })]:=.dictT (xs:=[]) (es:=#[]) ⟨rfl,rfl,rfl⟩ rfl rfl .nil (fun _ h=>nomatch h) (Nat.le_refl _)
set_option tactic.hygienic true in
theorem SI.dictT {a:Addr} {n:Nat} {x y:Str} {v:V} {Q:HL->Prop} (e:Ext a (.dictT n) H R) (hz:n<=sizeLine) (hu:A.units+2 < cLine) (hq:Q ((a,.dictT (n+1))::R)):SI D A (.ref a) (.tup [.str x,.str y]) v H Q:=⟨fun fm T s vs ov iv w I ho hi hy=>by
 obtain ⟨_,rfl⟩:=ho.inv
 cases hi with
 | tup hm hc hd hr=>
  rename_i ws b ob nn
  obtain ⟨bl,c,hb⟩:=I.read e.mem
  cases c with
  | dictT h1 h2 h3 h4 h5 h6=>
   rename_i od ep es xs
   obtain ⟨mc,N,F,l,c',nw,nd,lo⟩:=id I.ex
   have inT:∀ {T₀:Led} {p:Addr×Obj},p∈T->s.heap.get? p.1=some p.2:=fun hp=>(nw _ (List.mem_append_left _ hp)).1
   have tk:TupKeyObj (PySem.strKind D.prog D.w) [x,y] ob:=⟨hc,ws.toArray,nn,hd,by
    cases hr with | cons r1 hr=>cases hr with | cons r2 hr=>
    cases hr; cases r1; cases r2
    exact .cons (by simp [PySem.strKind,Value.isStrOf]) (.cons (by simp [PySem.strKind,Value.isStrOf]) .nil)⟩
   refine wpAny_setItem_heap (knd:=tupleKind (PySem.strKind D.prog D.w)) (k:=[x,y]) (xs:=xs) ?_ (tk.key (inT (T₀:=T) hm)) ⟨od,es,ep,(hb _ (.head _)).1,h1,h2,h3,fun q hq'=>?_,h4⟩ (fun h' hD sb=>?_) (by exact Nat.le_trans h6 hz)
   ·show A.units+1 < cLine
    exact linL hu (by simp +arith)
   ·obtain ⟨ok,m,t⟩:=h5 q hq'
    exact t.key (inT (T₀:=T) m)
   ·obtain ⟨o',es',ep',g1,g2,g3,g4,g5,g6⟩:=hD
    refine ⟨T,_,.refl _,I.set1 (tk:=_) e trivial sb g1 (.dictT g2 g3 g4 g6 (fun q hq'=>?_) ?_),hq⟩
    ·rcases mem_storedH hq' with ⟨q',hq2,e1,e2⟩ | ⟨e1,e2⟩
     ·rw [e1,e2]; exact h5 q' hq2
     ·rw [e1,e2]; exact ⟨ob,hm,tk⟩
    ·unfold storedH
     split
     ·rw [List.length_map]; exact lin h6 (by simp +arith)
     ·rw [List.length_append]; simp; omega⟩
end
end Mine
end
section
namespace Mine
section
variable {D:Wd} {fm:Fm} {A:Around} {env:Env} {H R:HL} {vs:List (Option V)} {T:Led} {s:Shared}
theorem CL.index0 {a:Addr} {b:Str} {Q:V->HL->Prop} (m:(a,.list [.str b])∈H) (hq:Q (.int 0) H):CL D A (.raw (.builtin "list.index")) [.ref a,.str b] H Q:=⟨fun fm T s vs fv ws I hf hw=>by
 obtain ⟨_,rfl⟩:=hf.inv
 obtain ⟨v,w,rfl,h1,h2⟩:=vrels2 hw
 obtain ⟨_,rfl⟩:=h1.inv
 cases h2 with | str _ u=>
 obtain ⟨us,n,g1,g2⟩:=I.listAt m
 cases g2 with | cons r rs=>
 cases rs
 cases r with | str _ t=>
 refine call_meets PySem.F.slot_list_index ⟨_,g1,rfl⟩ PySem.F.entry_list_index (PySem.F.args_list_index_2 _ _) (PySem.MeetsSeq.list_index a #[.str b t] n (.str b u) (fun _=>true) (fun y hy=>?_) 0 (by simp) (by decide) rfl (fun m hm h=>absurd h (Nat.not_lt_zero m)))
  ⟨g1,T,.int 0,H,.refl _,I.toks,.int _ _,hq⟩
 have:y=.str b t:=by simpa using hy
 subst this
 have:=eqGives_str b b t u
 simpa using this⟩
theorem Inv.rawAt {a:Addr} {o:Obj} (I:Inv D fm T s H vs) (m:(a,.raw o)∈H):s.heap.get? a=some o:=by
 obtain ⟨b,hc,hb⟩:=I.read m
 cases hc
 exact (hb _ (.head _)).1
theorem CC.fnF {k:Nat} {f c':Addr} {o oc:Obj} {t:Tok} {cvs:Array Value} {name qual:Str} {params:Arguments} {body:List Stmt} {scope:Scope} {cl:List (Str×Addr)} {doc pm ct:Value} {ps os:List Str} {xs:List V} {Q:V->HL->Prop}
  (m:(f,.raw o)∈H) (ho:o.data=.func (fnX name qual params body scope cl .none .none doc pm none (.ref c') ct)) (mc:(c',.raw oc)∈H) (hoc:oc.data=.fields cvs) (hcv:cvs[1]?=some (.str qual t)) (hroom:Rm (k+1) A)
  (hb:∀ ws:List Value,ws.length=xs.length->bindArgs (fnX name qual params body scope cl .none .none doc pm none (.ref c') ct) ⟨ws,[]⟩=pure (ps.zip ws)) (hl:ps.length=xs.length) (hloc:∀ x∈ps,scope.names.lookup x=some .local) (nd:(ps++os).Nodup)
  (h:∀ (fm:Fm) (env:Env),fm.ns=ps++os->env.scope=scope->env.cells=cl->∀ A':Around,Rm k A'->XS D fm A' env body H (xs.map some++List.replicate os.length none) (fun fl H' _=>match fl with | .ret x=>Q x H' | .next=>Q .none H' | _=>False))
  (hcell:∀ x∈scope.names,x.2≠.cell) (hco:scope.isCoroutine=false:=by rfl) (hgen:scope.isGenerator=false:=by rfl) (hk:scope.kind=.function:=by rfl):CC D A f xs H Q:=⟨fun fm T s vs ws I hw=>by
 obtain ⟨F',hsz,inn,back,old,_⟩:=I.enter (ps++os) nd
 have hlen:=hw.length
 have ndp:ps.Nodup:=(List.nodup_append.mp nd).1
 refine codeAny_call_function (fd:=fnX name qual params body scope cl .none .none doc pm none (.ref c') ct) (body:=body) (by have:=hroom.depth; show A.depth < 1000; exact linL this (by simp +arith)) (I.rawAt m) ho hco hgen rfl ⟨c',oc,cvs,t,rfl,I.rawAt mc,hoc,hcv⟩ ?_
 rw [hb ws hlen]
 refine wpAny_pure (wpAny_newFunctionEnv hcell (fun x hx=>hloc _ (List.of_mem_zip hx).1) (fun h₀ hns hsb=>?_) hk)
 have hk₀:∀ b o,s.heap.get? b=some o->h₀.get? b=some o:=fun b o e=>hsb.extBut b o (Nat.ne_of_lt (Heap.lt_size e)) (Heap.get?_push_of_some _ e)
 have I':=inn s.heap.objs.size h₀ (s.toks+(ps.zip ws).length) _ (xs.map some++List.replicate os.length none) (Nat.le_refl _) hns hk₀
  ((locRel_binds (lookup_zip ndp) hl hw).append (LocRel.nones os))
 refine ⟨I.nolimit.keeps hk₀,codeAny_func (env:=envX qual scope s.heap.objs.size f (.ref c') cl) ?_⟩
 refine wpNoE ((h ⟨F',s.heap.objs.size,s.gens,s.os,ps++os,nd⟩ (envX qual scope s.heap.objs.size f (.ref c') cl) rfl rfl rfl _ hroom.deeper).run ⟨hk,rfl,rfl,rfl⟩ T _ I') fun fl s' oo=>?_
 obtain ⟨T',fl',H',vs',st,I'',hfl,hq⟩:=oo
 have I3:=back _ _ _ _ _ _ I.gens st I''
 cases hfl with
 | next=>exact ⟨T',.none,H',st,I3,.none,hq⟩
 | brk=>exact hq.elim
 | cont=>exact hq.elim
 | ret hr=>exact ⟨T',_,H',st,I3,hr,hq⟩⟩
end
end Mine
end
section
namespace Mine
section
variable {D:Wd} {fm:Fm} {A:Around} {env:Env} {H R:HL} {vs:List (Option V)} {T:Led} {s:Shared}
theorem dictMI (name:Str) (id:String) (slot:Slot "dict" name id) (hty:typeOf (.builtin id)=pure (.type "method_descriptor")) {a:Addr} {kvs:List (Int×V)} {ep:Nat} {Q:V->List V->HL->Prop} (m:(a,.dictI kvs ep)∈H)
  (hq:Q (.raw (.builtin id)) [.ref a] H):GM D A name (.ref a) H Q:=⟨fun fm T s vs v pl I hx=>by
 obtain ⟨_,rfl⟩:=hx.inv
 obtain ⟨l,⟨o,es,h0,h1,h2,h3⟩,hp,hs⟩:=I.dictIAt m
 exact getMethod_builtin ⟨_,h0,h1.1⟩ PySem.F.plainAttrs_dict slot hty (fun b e=>by cases e; exact ⟨_,h0,h1.2.1⟩) ⟨T,_,_,H,.refl _,I,.raw _,.cons (.ref a) .nil,hq⟩⟩
theorem dictMS (name:Str) (id:String) (slot:Slot "dict" name id) (hty:typeOf (.builtin id)=pure (.type "method_descriptor")) {a:Addr} {kvs:List (Str×V)} {ep:Nat} {Q:V->List V->HL->Prop} (m:(a,.dictS kvs ep)∈H)
  (hq:Q (.raw (.builtin id)) [.ref a] H):GM D A name (.ref a) H Q:=⟨fun fm T s vs v pl I hx=>by
 obtain ⟨_,rfl⟩:=hx.inv
 obtain ⟨l,⟨o,es,h0,h1,h2,h3⟩,hp,hs⟩:=I.dictSAt m
 exact getMethod_builtin ⟨_,h0,h1.1⟩ PySem.F.plainAttrs_dict slot hty (fun b e=>by cases e; exact ⟨_,h0,h1.2.1⟩) ⟨T,_,_,H,.refl _,I,.raw _,.cons (.ref a) .nil,hq⟩⟩
theorem GM.getI {a:Addr} {kvs:List (Int×V)} {ep:Nat} {Q:V->List V->HL->Prop} (m:(a,.dictI kvs ep)∈H) (hq:Q (.raw (.builtin "dict.get")) [.ref a] H):GM D A "get" (.ref a) H Q:=dictMI _ _ PySem.F.slot_dict_get PySem.F.type_dict_get m hq
theorem GM.getS {a:Addr} {kvs:List (Str×V)} {ep:Nat} {Q:V->List V->HL->Prop} (m:(a,.dictS kvs ep)∈H) (hq:Q (.raw (.builtin "dict.get")) [.ref a] H):GM D A "get" (.ref a) H Q:=dictMS _ _ PySem.F.slot_dict_get PySem.F.type_dict_get m hq
theorem GM.valuesI {a:Addr} {kvs:List (Int×V)} {ep:Nat} {Q:V->List V->HL->Prop} (m:(a,.dictI kvs ep)∈H) (hq:Q (.raw (.builtin "dict.values")) [.ref a] H):GM D A "values" (.ref a) H Q:=dictMI _ _ PySem.F.slot_dict_values PySem.F.type_dict_values m hq
set_option tactic.hygienic true in
theorem CL.getI {a:Addr} {kvs:List (Int×V)} {ep:Nat} {k:Int} {y:V} {Q:V->HL->Prop} (m:(a,.dictI kvs ep)∈H) (hq:Q ((dget k kvs).getD y) H):CL D A (.raw (.builtin "dict.get")) [.ref a,.int k,y] H Q:=⟨fun fm T s vs fv ws I hf hw=>by
 cases hf
 cases hw with | cons h1 hw=>cases hw with | cons h2 hw=>cases hw with | cons h3 hw=>
 cases hw
 cases h1
 cases h2 with | int _ t=>
 rename_i wy
 obtain ⟨l,h1,hp,hs⟩:=I.dictIAt m
 have hat:=hp.at (k:=k)
 refine call_meetsIn PySem.F.slot_dict_get h1.dictOf.typeIs PySem.F.entry_dict_get (PySem.F.args_dict_get_3 _ _ _) (meets_dict_get_default (intKind D.prog D.w) a (isInt_key k t) hs wy) ⟨_,h1.dictOf.mapOf,?_⟩
 cases hd:dget k kvs with
 | some x=>
  rw [hd] at hat hq
  obtain ⟨v,e,hr⟩:=hat
  rw [e]
  exact ⟨T,x,H,.refl _,I.toks,hr,hq⟩
 | none=>
  rw [hd] at hat hq
  rw [hat]
  exact ⟨T,y,H,.refl _,I.toks,h3,hq⟩⟩
set_option tactic.hygienic true in
theorem CL.getS {a:Addr} {kvs:List (Str×V)} {ep:Nat} {k:Str} {y:V} {Q:V->HL->Prop} (m:(a,.dictS kvs ep)∈H) (hq:Q ((dget k kvs).getD y) H):CL D A (.raw (.builtin "dict.get")) [.ref a,.str k,y] H Q:=⟨fun fm T s vs fv ws I hf hw=>by
 cases hf
 cases hw with | cons h1 hw=>cases hw with | cons h2 hw=>cases hw with | cons h3 hw=>
 cases hw
 cases h1
 cases h2 with | str _ t=>
 rename_i wy
 obtain ⟨l,h1,hp,hs⟩:=I.dictSAt m
 have hat:=hp.at (k:=k)
 refine call_meetsIn PySem.F.slot_dict_get h1.dictOf.typeIs PySem.F.entry_dict_get (PySem.F.args_dict_get_3 _ _ _) (meets_dict_get_default (PySem.strKind D.prog D.w) a (isStr_key k t) hs wy) ⟨_,h1.dictOf.mapOf,?_⟩
 cases hd:dget k kvs with
 | some x=>
  rw [hd] at hat hq
  obtain ⟨v,e,hr⟩:=hat
  rw [e]
  exact ⟨T,x,H,.refl _,I.toks,hr,hq⟩
 | none=>
  rw [hd] at hat hq
  rw [hat]
  exact ⟨T,y,H,.refl _,I.toks,h3,hq⟩⟩
theorem CL.valuesI {a:Addr} {kvs:List (Int×V)} {ep:Nat} {Q:V->HL->Prop} (m:(a,.dictI kvs ep)∈H) (hq:∀ v,Q (.ref v) ((v,.io (.vview a))::H)):CL D A (.raw (.builtin "dict.values")) [.ref a] H Q:=⟨fun fm T s vs fv ws I hf hw=>by
 obtain ⟨_,rfl⟩:=hf.inv
 obtain ⟨v,rfl,h1⟩:=vrels1 hw
 obtain ⟨_,rfl⟩:=h1.inv
 obtain ⟨l,h1,hp,hs⟩:=I.dictIAt m
 exact call_meetsIn PySem.F.slot_dict_values h1.dictOf.typeIs PySem.F.entry_dict_values (PySem.F.args_dict_values_1 _) (meets_dict_values (intKind D.prog D.w) a hs) ⟨⟨_,h1.dictOf⟩,T,_,_,.refl _,I.new1 (tk:=s.toks) rfl (.io (k:=.vview a) ⟨rfl,rfl⟩),.ref _,hq _⟩⟩
end
end Mine
end
section
namespace Mine
section
variable {D:Wd} {fm:Fm} {A:Around} {env:Env} {H R:HL} {vs:List (Option V)} {T:Led} {s:Shared}
theorem CL.sumI {a:Addr} {is:List Int} {Q:V->HL->Prop} (hh:A.handled=none) (m:(a,.list (is.map .int))∈H) (hq:Q (.int is.sum) H):CL D A (.raw (.builtin "sum")) [.ref a] H Q:=⟨fun fm T s vs fv ws I hf hw=>by
 obtain ⟨_,rfl⟩:=hf.inv
 obtain ⟨v,rfl,h1⟩:=vrels1 hw
 obtain ⟨_,rfl⟩:=h1.inv
 obtain ⟨us,n,g1,g2⟩:=I.listAt m
 obtain ⟨mc,N,F,l,c,nw,nd,lo⟩:=id I.ex
 exact sumK hh F nw ⟨_,g1,rfl,_,rfl⟩ g2.ints fun h' tk t' F' N'=>⟨T,_,H,.refl _,⟨⟨mc,N,F',l,c,N',nd,lo⟩,I.base,I.gens,I.os⟩,.int _ _,hq⟩⟩
inductive RepQ (Q:V->HL->Prop) (x y:V) (H:HL):Prop where
 | mk (a:Addr) (xs:List V) (n:Int) (ex:x=.ref a) (ey:y=.int n) (ma:(a,.list xs)∈H) (h0:0<=n) (h1:n < 2 ^ 62) (hz:xs.length * n.toNat<=2 ^ 24) (q:∀ q,Q (.ref q) ((q,.list (List.replicate n.toNat xs).flatten)::H))
theorem EV.rep {l r:Expr} {pos:Pos} {Q:V->HL->Prop} (h:EV D fm A env l H vs (thenE D fm A env r vs (RepQ Q))) :
  EV D fm A env (.BinOp l .Mult r pos) H vs Q:=⟨fun he T s I=>wpAny_BinOp (wpNoE (h.run he T s I) fun v s₁ ⟨T₁,x,H₁,st₁,I₁,hx,h₁⟩=>wpNoE (h₁.run he T₁ s₁ I₁) fun w s₂ oo=>by
  obtain ⟨T₂,y,H₂,st₂,I₂,hy,a,xs,n,e1,e2,m,h0,hn,hz,hq⟩:=oo
  subst e1; subst e2
  obtain ⟨_,rfl⟩:=hx.inv; obtain ⟨_,rfl⟩:=hy.inv
  obtain ⟨us,k,g1,g2⟩:=I₂.listAt m
  have low:=I₂.low
  obtain ⟨mc,N,F,l,c,nw,nd,lo⟩:=id I₂.ex
  refine mul_list F nw g1 (by lia) (by lia) (by simpa [g2.length] using hz) fun h' F' N'=>?_
  rw [listMul_foldl_if] at N'
  have hrel:∀ k:Nat,VRels T₂ (List.replicate k xs).flatten (List.replicate k us).flatten:=fun k=>by
   induction k with
   | zero=>exact .nil
   | succ k ih=>rw [List.replicate_succ,List.replicate_succ,List.flatten_cons,List.flatten_cons]; exact g2.append ih
  have pp:(T₂++([(s₂.heap.objs.size,lObj (List.replicate n.toNat us).flatten 0)]++N)).Perm ((s₂.heap.objs.size,lObj (List.replicate n.toNat us).flatten 0)::(T₂++N)):=List.perm_middle
  refine ⟨T₂,.ref s₂.heap.objs.size,_,st₁.trans st₂,⟨⟨mc,[(s₂.heap.objs.size,lObj (List.replicate n.toNat us).flatten 0)]++N,F',l,.cons (.list (hrel _)) c,fun p hp=>N' p (pp.mem_iff.mp hp),?_,fun p hp=>?_⟩,I₂.base,I₂.gens,I₂.os⟩,.ref _,hq _⟩
  ·refine ((pp.map _).nodup_iff).mpr (List.nodup_cons.mpr ⟨fun q=>?_,nd⟩)
   obtain ⟨p,hp,e⟩:=List.mem_map.mp q
   have:=Heap.lt_size (nw p hp).1
   rw [e] at this
   exact Nat.lt_irrefl _ this
  ·rcases List.mem_append.mp hp with hp | hp
   ·cases List.mem_singleton.mp hp
    exact Nat.ne_of_gt low
   ·exact lo p hp)⟩
end
end Mine
end
section
namespace Mine
section
variable {D:Wd} {fm:Fm} {A:Around} {env:Env} {H R:HL} {vs:List (Option V)} {T:Led} {s:Shared}
theorem GI.tup {xs:List V} {k:Int} {x:V} {Q:V->HL->Prop} (h0:0<=k) (hf:k < 2 ^ 63) (hg:xs[k.toNat]?=some x) (hq:Q x H):GI D A (.tup xs) (.int k) H Q:=⟨fun fm T s vs ov iv I ho hi=>by
 obtain ⟨_,rfl⟩:=hi.inv
 obtain ⟨b,ws,rfl,t1,r1⟩:=tup_at I ho
 obtain ⟨v,e,hr⟩:=r1.get hg
 have hl:k.toNat < ws.length:=(List.getElem?_eq_some_iff.mp e).1
 have hj:seqIndex? k ws.toArray.size=some k.toNat:=by
  unfold seqIndex?
  rw [if_neg (Int.not_lt.mpr h0)]
  exact if_pos (Bool.and_eq_true_iff.mpr ⟨decide_eq_true h0,decide_eq_true ((Int.toNat_lt h0).mp hl)⟩)
 obtain ⟨o,g1,g2,g3⟩:=t1
 refine ⟨⟨"tuple",_,⟨o,g1,g2⟩,PySem.F.slot_tuple_getitem.lookup⟩,getItem_tuple ⟨o,g1,g2,g3⟩ (by exact linZ (Int.add_le_add hf (Int.add_le_add h0 h0)) (by simp +arith only)) hf hj (by simpa using e) ⟨T,x,H,.refl _,I,hr,hq⟩⟩⟩
noncomputable def ClsEq (K:Frag) (C:Addr):Prop:=∀ (h:Heap) (x:Addr) (o:Obj),K.In h->h.get? x=some o->o.cls=.ref C->h.CmpInst x C [.type "object"]
noncomputable def refIs (a:Addr):Value->Bool
 | .ref b=>b==a
 | _=>false
theorem any_refs {a:Addr} {xs:List Addr}:∀ {ws:List Value},VRels T (xs.map V.ref) ws->ws.any (refIs a)=xs.any (·==a):=by
 induction xs with
 | nil=>intro ws h; rw [h.nil_inv]; rfl
 | cons x xs ih=>intro ws h; obtain ⟨v,us,rfl,r,rs⟩:=h.cons_inv; obtain ⟨_,rfl⟩:=r.inv; exact congrArg (or _) (ih rs)
theorem refs_mem {xs:List Addr}:∀ {ws:List Value},VRels T (xs.map V.ref) ws->∀ y∈ws,∃ b∈xs,y=.ref b:=by
 induction xs with
 | nil=>intro ws h; cases h; intro y hy; cases hy
 | cons x xs ih=>
  intro ws h
  cases h with | cons r rs=>
  obtain ⟨_,rfl⟩:=r.inv
  intro y hy
  rcases List.mem_cons.mp hy with rfl | hy
  ·exact ⟨x,List.mem_cons_self,rfl⟩
  ·obtain ⟨b,hb,e⟩:=ih rs y hy
   exact ⟨b,List.mem_cons_of_mem _ hb,e⟩
theorem CP.inRefs {l a C:Addr} {xs:List Addr} {Q:V->HL->Prop} (m:(l,.list (xs.map V.ref))∈H) (hi:∀ x∈a::xs,∃ at_,(x,AObj.inst C at_)∈H) (ceq:ClsEq D.K C) (hu:A.units+5 < cLine) (hq:Q (.bool (xs.any (·==a))) H) :
  CP D A .In (.ref a) (.ref l) H Q:=⟨fun fm T s vs v w I hx hy=>by
 obtain ⟨_,rfl⟩:=hx.inv; obtain ⟨_,rfl⟩:=hy.inv
 obtain ⟨ws,k,g1,r1⟩:=I.listAt m
 have inst:∀ x∈a::xs,s.heap.CmpInst x C [.type "object"]:=fun x hx=>by
  obtain ⟨at_,mx⟩:=hi x hx
  obtain ⟨dx,es,n,q1,q2,q3,q4⟩:=I.instAt mx
  exact ceq _ x _ I.k q1 rfl
 refine SeqAt.in_listAt (refIs a) ⟨_,g1,rfl,_,rfl⟩ (fun y h=>?_) ?_
 ·obtain ⟨b,hb,rfl⟩:=refs_mem r1 y (by simpa using h)
  by_cases e:b=a
  ·subst e
   rw [show refIs b (.ref b)=true from by simp [refIs]]
   exact SeqAt.EqAt.same _
  ·rw [show refIs a (.ref b)=false from by simp [refIs,e]]
   refine SeqAt.EqAt.of_refs e fun prog w E Q hQ=>?_
   obtain ⟨hp,g,d,tk,os⟩:=s
   exact richCompare_eq_other PySem.F.cmp_object PySem.F.cmp_object (inst b (List.mem_cons_of_mem _ hb)) (inst a List.mem_cons_self) e (by show A.units+1 < cLine; exact linL hu (by simp +arith)) hQ
 ·rw [show ws.toArray.any (refIs a)=ws.any (refIs a) by simp,any_refs r1]
  exact ⟨T,_,H,.refl _,I,.bool _,hq⟩⟩
end
end Mine
end
section
namespace Mine
section
variable {D:Wd} {fm:Fm} {A:Around} {env:Env} {H R:HL} {vs:List (Option V)} {T:Led} {s:Shared}
theorem wpAny_turnD {prog:Program} {w:World} {A:Around} {E:Value->Shared->Prop} {s:Shared} {ke ve:Expr} {scope:Scope} {pos:Pos} {it:Value} {d:Addr} {env:Env} {g:Comprehension} {Q:Fin->Shared->Prop}
  (ha:g.is_async=0)
  (h:wpAny (model prog w) A (pyNext it) (fun r s₁=>match r with
   | none=>Q (.done .next) s₁
   | some v=>wpAny (model prog w) A (letOwnedTupleGo g.target it v) (fun _ s₂=>wpAny (model prog w) A (assign g.target env v) (fun _ s₃=>wpAny (model prog w) A (forIn g.ifs true fun c r=>if r=true then do let ok <- isTrue c env (eval c env); pure (ForInStep.yield ok) else pure (ForInStep.yield r)) (fun ok s₄=>
      if ok=true then wpAny (model prog w) A (eval ke env) (fun kv s₅=>wpAny (model prog w) A (eval ve env) (fun vv s₆=>wpAny (model prog w) A (dictSet d kv vv) (fun _ s₇=>Q (.again (.compLoop (.DictComp ke ve [g] scope pos) 0 it (.ref d) env)) s₇) E s₆) E s₅) E s₄
      else Q (.again (.compLoop (.DictComp ke ve [g] scope pos) 0 it (.ref d) env)) s₄) E s₃) E s₂) E s₁) E s) :
  wpAny (model prog w) A (compTurn (.DictComp ke ve [g] scope pos) 0 it (.ref d) env) Q E s:=by
 obtain ⟨target,iter,ifs,_⟩:=g
 cases ha
 delta compTurn
 dsimp only [List.getElem?_cons_zero]
 refine wpAny_bind (wpAny_standAt (wpAny_bind (wpAny_mono h (fun r s₁ h₁=>?_) fun _ _ e=>e)))
 cases r with
 | none=>exact wpAny_pure h₁
 | some v=>
  refine wpAny_bind (wpAny_mono h₁ (fun _ s₂ h₂=>wpAny_bind (wpAny_mono h₂ (fun _ s₃ h₃=>wpAny_bind (wpAny_mono h₃ (fun ok s₄ h₄=>?_) fun _ _ e=>e)) fun _ _ e=>e)) fun _ _ e=>e)
  cases ok with
  | false=>exact wpAny_pure h₄
  | true=>
   rw [if_pos rfl] at h₄
   exact wpAny_bind (wpAny_bind (wpAny_mono h₄ (fun kv s₅ h₅=>wpAny_bind (wpAny_holding (wpAny_mono h₅ (fun vv s₆ h₆=>wpAny_bind (wpAny_standAt (wpAny_holding (wpAny_mono h₆ (fun _ s₇ h₇=>wpAny_pure h₇) fun _ _ e=>e)))) fun _ _ e=>e))) fun _ _ e=>e))
theorem dictSetI {a:Addr} {kvs:List (Int×V)} {ep:Nat} {k:Int} {t:Tok} {y:V} {w:Value} {Q:Unit->Shared->Prop} (e:Ext a (.dictI kvs ep) H R) (hz:kvs.length<=sizeLine) (I:Inv D fm T s H vs) (hy:VRel T y w)
  (hq:∀ s' ep',Inv D fm T s' ((a,.dictI (dput k y kvs) ep')::R) vs->Q () s'):wpAny (model D.prog D.w) A (dictSet a (.int k t) w) Q NoE s:=by
 obtain ⟨l,h1,hp,h2⟩:=I.dictIAt e.mem
 unfold dictSet
 refine wpAny_holding (wpAny_bind ((intKind D.prog D.w).pyHash (k:=k) (isInt_key k t) ?_))
 refine wpAny_dictSetHashed_pairs (knd:=intKind D.prog D.w) (isInt_key k t) (s:={ s with toks:=s.toks+1 }) h1.dictOf (fun h' hd sb=>?_) (by rw [<- hp.len]; exact hz)
 obtain ⟨ep',I'⟩:=I.dictISet (tk:=s.toks+1) e hd sb (hp.put hy)
 exact hq _ ep' I'
inductive DicW (acc:Addr) (k:Int) (vs:List (Option V)) (J:HL->List (Option V)->Prop) (y:V) (H:HL):Prop where
 | mk (kvs:List (Int×V)) (ep:Nat) (R:HL) (e:Ext acc (.dictI kvs ep) H R) (hz:kvs.length<=sizeLine) (q:∀ ep',J ((acc,.dictI (dput k y kvs) ep')::R) vs)
inductive DicV (D:Wd) (fm:Fm) (A:Around) (env:Env) (ve:Expr) (acc:Addr) (vs:List (Option V)) (J:HL->List (Option V)->Prop) (kx:V) (H:HL):Prop where
 | mk (k:Int) (e:kx=.int k) (h:EV D fm A env ve H vs (DicW acc k vs J))
@[reducible] noncomputable def dicK (D:Wd) (fm:Fm) (A:Around) (env:Env) (ke ve:Expr) (acc:Addr) (J:HL->List (Option V)->Prop):HL->List (Option V)->Prop:=fun H vs=>EV D fm A env ke H vs (DicV D fm A env ve acc vs J)
theorem CS.dictI {ke ve:Expr} {scope:Scope} {pos:Pos} {it acc:Addr} {g:Comprehension} {Q:HL->List (Option V)->Prop} (ha:g.is_async=0)
  (h:ComI D fm A env g.target g.ifs it (dicK D fm A env ke ve acc) vs Q H):CS D fm A env (.DictComp ke ve [g] scope pos) 0 it acc H vs Q:=⟨fun he T s I=>by
 obtain ⟨hself,Iv,⟨n₀,hI₀⟩,turn⟩:=h
 have loop:∀ T₁ s₁,Sub T T₁->Inv D fm T₁ s₁ H vs->codeAny (model D.prog D.w) A (.compLoop (.DictComp ke ve [g] scope pos) 0 (.ref it) (.ref acc) env) (CoPost D fm T Q) s₁:=fun T₁ s₁ st₁ I₁=>by
  refine codeAny_loop rfl (AtN D fm T Iv) (fun n s₃ oo=>?_) n₀ ⟨T₁,H,vs,st₁,I₁,hI₀⟩
  obtain ⟨T₃,H₃,vs₃,st₃,I₃,hI₃⟩:=oo
  show wpAny _ _ ((compTurn (.DictComp ke ve [g] scope pos) 0 (.ref it) (.ref acc) env).onRaise (fun x=>do noteFrame x env; theTreesLotGoes x)) _ _ _
  refine wpAny_noted (wpAny_turnD ha (wpNoE ((turn n H₃ vs₃ (Dn Iv n) (fun {_ _} h=>h) hI₃).run _ _ _ _ I₃) fun o s₄ h₄=>?_))
  cases o with
  | none=>
   obtain ⟨T₄,H₄,st₄,I₄,hq⟩:=h₄
   exact ⟨T₄,H₄,_,st₃.trans st₄,I₄,hq⟩
  | some u=>
   obtain ⟨T₄,x,H₄,st₄,I₄,hx,hq⟩:=h₄
   refine wpNoE (hq.run he T₄ s₄ u I₄ hx) fun _ s₅ h₅=>wpNoE h₅ fun _ s₆ oo=>?_
   obtain ⟨T₆,H₆,vs₆,st₆,I₆,h₆⟩:=oo
   refine wpNoE (h₆.run he _ _ I₆) fun ok s₇ oo=>?_
   obtain ⟨T₇,H₇,st₇,I₇,h₇⟩:=oo
   have stt:=(st₃.trans st₄).trans (st₆.trans st₇)
   cases ok with
   | false=>obtain ⟨m,h1,h2⟩:=h₇; exact ⟨rfl,m,h1,T₇,H₇,vs₆,stt,I₇,h2⟩
   | true=>
    simp only [if_true]
    replace h₇:dicK D fm A env ke ve acc (Dn Iv n) H₇ vs₆:=h₇
    refine wpNoE (h₇.run he _ _ I₇) fun kv s₈ oo=>?_
    obtain ⟨T₈,kx,H₈,st₈,I₈,hk,k,ek,h₈⟩:=oo
    subst ek
    obtain ⟨_,rfl⟩:=hk.inv
    refine wpNoE (h₈.run he _ _ I₈) fun vv s₉ oo=>?_
    obtain ⟨T₉,y,H₉,st₉,I₉,hy,kvs,ep,R,hR,hz,hq⟩:=oo
    refine wpNoE (dictSetI (Q:=fun _ s'=>∃ m,m < n/\AtN D fm T Iv m s') hR hz I₉ hy fun s' ep' I'=>?_) fun _ s' h=>⟨trivial,h⟩
    obtain ⟨m,hm,hi⟩:=hq ep'
    exact ⟨m,hm,T₉,_,vs₆,stt.trans (st₈.trans st₉),I',hi⟩
 refine codeAny_start (.inr ⟨_,_,_,_,_,rfl⟩) rfl ha (loop T s (.refl _) I) (wpNoE (hself.run fm T s vs _ I (.ref it)) fun v s' oo=>?_)
 obtain ⟨T',a,H',hv,st,I',e1,e2⟩:=oo
 rw [e1] at hv
 rw [e2] at I'
 subst hv
 exact loop T' s' st I'⟩
theorem EV.dictComp {ke ve target iter:Expr} {ifs:List Expr} {scope:Scope} {pos:Pos} {cl:List (Str×Addr)} {Q:V->HL->Prop} (os:List Str) (nd:os.Nodup) (hclos:closureFor scope env=pure cl)
  (h:EV D fm A env iter H vs (itP D A (lcK D A env os scope cl (.DictComp ke ve [⟨target,iter,ifs,0⟩] scope pos) (.dictI [] 0) (refQ Q))))
  (hnames:∀ x∈scope.names,x.2=.local->scope.names.lookup x.1=some .local) (hcell:∀ x∈scope.names,x.2≠.cell)
  (hkind:scope.kind=.function:=by rfl) (hs:∀ x,foldedSetIterable iter env x=pure x:=by intro _; rfl) :
  EV D fm A env (.DictComp ke ve [⟨target,iter,ifs,0⟩] scope pos) H vs Q:=⟨fun he T s I=>by
 show wpAny _ A (comprehension (.DictComp ke ve [⟨target,iter,ifs,0⟩] scope pos) scope env _ newDict false (eval iter env)) _ _ s
 refine comp_frame (g:=⟨target,iter,ifs,0⟩) (use:=none) (Q:=refQ Q) os nd he rfl hs hclos hkind hnames hcell (o:=.dictI [] 0) (fun T s H vs I=>wpAny_newObj_type ⟨_,rfl,I.new1 (tk:=s.toks) rfl (dict0I T _)⟩) h I ?_
 rintro T' s' H' acc C oC st ⟨m,hm⟩ I' hq
 refine ⟨m,hm,fun h' hs'=>⟨T',.ref acc,H',st,?_,.ref _,hq⟩⟩
 exact I'.drop1 (tk:=s'.toks) .head hs'.extBut⟩
end
end Mine
end
section
namespace Mine
section
variable {D:Wd} {fm:Fm} {A:Around} {env:Env} {H R:HL} {vs:List (Option V)} {T:Led} {s:Shared}
theorem keqAll {A:Around} {kb:List (Int×V)} {lb:List (Int×Value)} (hb:PairsRel T kb lb):∀ {ka:List (Int×Int)} {la:List (Int×Value)},PairsRel T (ka.map fun p=>(p.1,V.int p.2)) la->(∀ p∈ka,dget p.1 kb=some (.int p.2))->KeqHits A s lb la true
 := by
 intro ka
 induction ka with
 | nil=>intro la h _; cases h; exact .nil
 | cons p ka ih=>
  intro la h' h
  cases h' with | cons r rs=>
  cases r with | int _ t=>
  have hat:=hb.at (k:=p.1)
  rw [h p List.mem_cons_self] at hat
  obtain ⟨y,e,hy⟩:=hat
  cases hy with | int _ u=>
  have ih:=ih rs fun q hq=>h q (List.mem_cons_of_mem _ hq)
  refine KeqHits.hit (e:=true) (b:=true) e (fun prog w E Q hQ=>wpAny_eqBool_int ?_) ih
  simpa using hQ
theorem CP.neDictI {a b:Addr} {ka:List (Int×Int)} {kb:List (Int×V)} {ea eb:Nat} {Q:V->HL->Prop} (ma:(a,.dictI (ka.map fun p=>(p.1,V.int p.2)) ea)∈H) (mb:(b,.dictI kb eb)∈H) (hu:A.units < cLine) (hlen:ka.length=kb.length)
  (hall:∀ p∈ka,dget p.1 kb=some (.int p.2)) (hq:Q (.bool false) H):CP D A .NotEq (.ref a) (.ref b) H Q:=⟨fun fm T s vs v w I hx hy=>by
 obtain ⟨_,rfl⟩:=hx.inv; obtain ⟨_,rfl⟩:=hy.inv
 obtain ⟨la,h1,hp1,hs1⟩:=I.dictIAt ma
 obtain ⟨lb,h2,hp2,hs2⟩:=I.dictIAt mb
 have hl:la.length=lb.length:=by rw [<- hp1.len,<- hp2.len,List.length_map]; exact hlen
 refine keq_ne hs1 hs2 h1.dictOf h2.dictOf hu (fun _=>keqAll hp2 hp1 hall) ?_
 have:(la.length==lb.length && true)=true:=by simp [hl]
 rw [this]
 exact ⟨T,_,H,.refl _,I,.bool _,hq⟩⟩
end
end Mine
end
section
namespace Mine
section
variable {D:Wd} {fm:Fm} {A:Around} {env:Env} {H R:HL} {vs:List (Option V)} {T:Led} {s:Shared}
theorem AS.tup2 {x y:Str} {p1 p2 pos:Pos} {k0:Nat} {it l:Addr} {n i j:Nat} {u v:V} {Q:HL->List (Option V)->Prop} (hh:A.handled=none) (m:(it,.io (.liter l n))∈H) (hx:env.scope.names.lookup x=some .local) (hi:fm.ns[i]?=some x) (hy:env.scope.names.lookup y=some .local) (hj:fm.ns[j]?=some y)
  (hq:Q H ((vs.set i (some u)).set j (some v))):AS D fm A env (.Tuple [.Name x p1,.Name y p2] k0 pos) it (.tup [u,v]) H vs Q:=⟨fun he T s w I hw=>by
 obtain ⟨b,ws,rfl,t1,r1⟩:=tup_at I hw
 obtain ⟨ob,g3,g4,g5⟩:=I.ioAt m
 cases r1 with | cons ru r1=>cases r1 with | cons rv r1=>
 cases r1
 refine wpAny_letOwnedTupleGo_listiter ⟨_,g3,g4,g5⟩ ?_
 refine wpAny_assign_Tuple hh t1 rfl rfl fun h' k=>?_
 have I':Inv D fm T { s with heap:=h' } H vs:=I.grow (tk:=s.toks) fun b o e=>k b o (Nat.ne_of_lt (Heap.lt_size e)) e
 show wpAny _ _ (assignInOrder [assign (.Name x p1) env,assign (.Name y p2) env] [_,_]) _ _ _
 refine (wpAny_bind (wpAny_holding (wpAny_assign_Name (storeL he hx hi I' ru fun s' I''=>?_))):wpAny _ _ (_ >>= fun _=>assignInOrder [assign (.Name y p2) env] [_]) _ _ _)
 refine (wpAny_bind (wpAny_holding (wpAny_assign_Name (storeL he hy hj I'' rv fun s'' I3=>?_))):wpAny _ _ (_ >>= fun _=>assignInOrder [] []) _ _ _)
 exact wpAny_pure ⟨T,_,_,.refl _,I3,hq⟩⟩
end
end Mine
end
section
namespace Mine
section
variable {prog:Program} {w:World} {A:Around} {E:Value->Shared->Prop} {s:Shared}
theorem applied_upto {sl:Addr} {b n:Nat} {u:Tok} {Q:Int×Int×Nat->Shared->Prop} (hs:s.heap.IsSliceOf sl .none (.int b u) .none) (hb:b<=n) (h:Q (0,1,b) s) :
  wpAny (model prog w) A (Builtin.Slice.sliceApplied (.ref sl) (pure (n:Int))) Q E s:=by
 obtain ⟨os,ho,_,hd⟩:=id hs
 have adj:Builtin.Slice.sliceAdjust none (some (b:Int)) 1 (n:Int)=(0,(b:Int)):=by
  unfold Builtin.Slice.sliceAdjust
  simp only [show ¬ ((1:Int) < 0) by exact Int.not_lt_of_ge (linZ (Int.le_refl 0) (by simp +arith)),show ¬ ((b:Int) < 0) by simp +arith,if_false]
  congr 1
  lia
 have pl:Builtin.Slice.slicePlaces 0 (b:Int) 1=b:=by
  unfold Builtin.Slice.slicePlaces
  simp only [show (1:Int) > 0 by simp +arith,if_true,Int.ediv_one]
  split <;> lia
 unfold Builtin.Slice.sliceApplied Builtin.Slice.sliceFields
 refine wpAny_bind (wpAny_bind (wpAny_field ho hd (x:=.none) rfl (wpAny_bind (wpAny_field ho hd (x:=.int b u) rfl (wpAny_bind (wpAny_field ho hd (x:=.none) rfl (wpAny_pure ?_)))))))
 refine wpAny_bind (slicePart_none ?_)
 refine wpAny_ite_false (by decide) ?_
 refine wpAny_bind (slicePart_none (wpAny_bind (slicePart_int (wpAny_bind (wpAny_pure ?_)))))
 simp only [Option.getD_none,adj,pl]
 exact wpAny_pure h
theorem pick_upto (xs:Array Value) (b:Nat) (hb:b<=xs.size):((List.range b).filterMap fun (k:Nat)=>xs[((0:Int)+(k:Int) * 1).toNat]?).toArray=(xs.toList.take b).toArray:=by
 congr 1
 induction b with
 | zero=>rfl
 | succ b ih=>
  have hlt:b < xs.size:=by exact hb
  rw [List.range_succ,List.filterMap_append,ih (by exact lin hb (by simp +arith)),List.take_add_one]
  have e:((0:Int)+(b:Int) * 1).toNat=b:=by simp +arith
  simp [e,hlt]
theorem getTup_upto {t sl:Addr} {items:Array Value} {b:Nat} {u:Tok} {Q:Value->Shared->Prop} (ht:IsTup s.heap t items) (hs:s.heap.IsSliceOf sl .none (.int b u) .none) (hb:b < items.size) (hz:items.size<=sizeLine)
  (h:Q (.ref s.heap.objs.size) { s with heap:=s.heap.push { cls:=.type "tuple",data:=.seq (items.toList.take b).toArray } }):wpAny (model prog w) A (getItem (.ref t) (.ref sl)) Q E s:=by
 have fits:sizeOk (.seq (items.toList.take b).toArray):=by
  show (items.toList.take b).toArray.size<=sizeLine
  rw [List.size_toArray,List.length_take,Array.length_toList]
  exact Nat.le_trans (Nat.min_le_right (b) (items.size)) hz
 obtain ⟨os,ho,hc,_⟩:=id hs
 have hT:s.TypeIs (.ref sl) "slice":=⟨os,ho,hc⟩
 unfold getItem
 try with_reducible refine wpAny_holding ?_
 first | refine wpAny_bind (wpAny_pure ?_) | skip
 refine wpAny_bind (wpAny_sequenceKey ht.typeIs (by decide) ?_)
 refine wpAny_bind (wpAny_callSpecial?_slot (name:=Str.ofString "__getitem__") ht.typeIs slot_tuple_getitem
  (wpAny_call_entry slot_tuple_getitem ht.typeIs entry_tuple_getitem ?_ (args_tuple_getitem _ _)))
 show wpAny _ _ (Builtin.Tuple.tupleItemsOf (.ref t) >>= _) _ _ s
 refine wpAny_bind (tupleItemsOf_ ht ?_)
 refine wpAny_bind (wpAny_typeOf hT ?_)
 rw [if_pos (by decide)]
 refine wpAny_bind (applied_upto hs (Nat.le_of_lt hb) ?_)
 have no:¬ (((0:Int)==0 && (1:Int)==1 && b==items.size)=true):=by
  have:(b==items.size)=false:=by rw [beq_eq_false_iff_ne]; exact Nat.ne_of_lt (linL hb (by simp +arith))
  simp [this]
 show wpAny _ _ (if ((0:Int)==0 && (1:Int)==1 && b==items.size)=true then _ else _) _ _ s
 rw [if_neg no,pick_upto items b (Nat.le_of_lt hb)]
 first
  | exact wpAny_bind (m:=Builtin.Tuple.tupleExact _) (wpAny_newObj_type (wpAny_pure ⟨_,rfl,wpAny_pure h⟩) fits)
  | exact wpAny_bind (m:=Builtin.Tuple.tupleExact _) (wpAny_newObj_type (wpAny_bind (wpAny_pure (wpAny_pure ⟨_,rfl,wpAny_pure h⟩))) fits)
  | exact wpAny_bind (wpAny_bind (m:=Builtin.Tuple.tupleExact _) (wpAny_newObj_type (wpAny_pure (wpAny_pure ⟨_,rfl,wpAny_pure h⟩)) fits))
end
section
variable {D:Wd} {fm:Fm} {A:Around} {env:Env} {H R:HL} {vs:List (Option V)} {T:Led} {s:Shared}
inductive SliT (Q:V->HL->Prop) (x k:V) (H:HL):Prop where
 | mk (xs:List V) (b:Nat) (ex:x=.tup xs) (ek:k=.int ((b:Nat):Int)) (hb:b < xs.length) (hz:xs.length<=sizeLine) (q:Q (.tup (xs.take b)) H)
theorem EV.sliceTup {o u:Expr} {p pos:Pos} {Q:V->HL->Prop} (h:EV D fm A env o H vs (thenE D fm A env u vs (SliT Q)))
  (ht:∀ v r,letTemporaryGo o v r=pure ():=by intro _ _; rfl):EV D fm A env (.Subscript o (.Slice none (some u) none p) pos) H vs Q:=⟨fun he T s I=>by
 refine wpAny_Subscript_Slice (T:="tuple") PySem.F.slot_tuple_getitem.lookup (wpNoE (h.run he T s I) fun ov s₁ ⟨T₁,x,H₁,st₁,I₁,hx,h₁⟩=>wpAny_Slice ?_) ht
 rw [evalPart_none]
 refine wpAny_pure ?_
 rw [evalPart_some]
 refine wpNoE (h₁.run he _ _ I₁) fun uv s₂ oo=>?_
 obtain ⟨T₂,k,H₂,st₂,I₂,hk,xs,b,e1,e2,hb,hz,hq⟩:=oo
 subst e1; subst e2; obtain ⟨_,rfl⟩:=hk.inv
 obtain ⟨a,ws,e,t1,r1⟩:=tup_at I₂ (hx.mono st₂)
 subst e
 have hl:ws.length=xs.length:=r1.length
 obtain ⟨oT,q1,q2,q3⟩:=t1
 refine wpAny_pure ⟨⟨oT,Heap.get?_push_of_some _ q1,q2⟩,getTup_upto (items:=ws.toArray) (b:=b) ⟨oT,Heap.get?_push_of_some _ q1,q2,q3⟩ (Heap.IsSliceOf.new ..) (by simpa [hl] using hb) (by simpa [hl] using hz) ?_⟩
 have key:∀ so:Obj,∃ T',Sub T₂ T'/\Inv D fm T' { s₂ with heap:=(s₂.heap.push so).push { cls:=.type "tuple",data:=.seq (ws.take b).toArray } } H₂ vs/\VRel T' (.tup (xs.take b)) (.ref (s₂.heap.objs.size+1)):=fun so=>by
  have I3:=(I₂.grow (h':=s₂.heap.push so) (tk:=s₂.toks) fun b ob e=>Heap.get?_push_of_some _ e).pushTup (ws:=ws.take b)
  rw [show ({ s₂ with heap:=s₂.heap.push so }:Shared).heap.objs.size=s₂.heap.objs.size+1 from Heap.size_push _ _] at I3
  exact ⟨_,Sub.cons _ _,I3,.tup (.head _) rfl rfl ((r1.take b).mono (Sub.cons _ _))⟩
 obtain ⟨T',st',I',hv⟩:=key { cls:=.type "slice",data:=.fields #[.none,.int b _,.none] }
 rw [Heap.size_push]
 exact ⟨T',_,H₂,(st₁.trans st₂).trans st',I',hv,hq⟩⟩
end
end Mine
end
section
namespace Mine
structure KOrd (A:Around) (s:Shared) where
 kd:SortKind
 O:KeyOrd
 keyOf:Value->Option O.α
 dflt:O.α
 cmp:∀ (prog:Program) (w:World) (E:Value->Shared->Prop) (x y:Value) (a b:O.α) {Q:Bool->Shared->Prop},
  keyOf x=some a->keyOf y=some b->Q (O.blt a b) s->wpAny (model prog w) A (keyLt' kd x y) Q E s
noncomputable def KOrd.k {A:Around} {s:Shared} (κ:KOrd A s) (p:Keyed):κ.O.α:=(κ.keyOf p.1).getD κ.dflt
noncomputable def KOrd.Has {A:Around} {s:Shared} (κ:KOrd A s) (p:Keyed):Prop:=∃ a,κ.keyOf p.1=some a
theorem KOrd.Has.key {A:Around} {s:Shared} {κ:KOrd A s} {p:Keyed} (h:κ.Has p):κ.keyOf p.1=some (κ.k p):=by
 obtain ⟨a,e⟩:=h
 unfold KOrd.k
 rw [e]; rfl
section
variable {prog:Program} {w:World} {A:Around} {E:Value->Shared->Prop} {s:Shared} {κ:KOrd A s}
theorem wpS_lt1 {st:SortSt} {x y:Keyed} {Q:Option Bool->SortSt->Prop} (hk:kindOf st=κ.kd) (hx:κ.Has x) (hy:κ.Has y) (h:Q (some (κ.O.blt (κ.k x) (κ.k y))) st):wpS (model prog w) A E s (lt' x y) Q st:=by
 rw [lt'_eq]
 refine wpS_bind (wpS_get ?_)
 rw [hk]
 refine wpS_bind (wpS_lift (wpAny_attempt (κ.cmp prog w _ x.1 y.1 _ _ hx.key hy.key ⟨rfl,?_⟩)))
 exact wpS_pure h
noncomputable def beyond {A:Around} {s:Shared} (κ:KOrd A s) (left:Bool) (key:Keyed) (arr:Array Keyed) (i:Nat):Bool:=
 match arr[i]? with
 | some x=>if left then κ.O.blt (κ.k x) (κ.k key) else !κ.O.blt (κ.k key) (κ.k x)
 | none=>false
theorem wpS_beyond {st:SortSt} {left:Bool} {key:Keyed} {arr:Array Keyed} {i:Nat} {Q:Option Bool->SortSt->Prop} (hk:kindOf st=κ.kd) (hkey:κ.Has key) (harr:∀ p∈arr.toList,κ.Has p) (hi:i < arr.size)
  (h:Q (some (beyond κ left key arr i)) st) :
  wpS (model prog w) A E s (do let x <- elem' arr i; if left=true then lt' x key else do let r <- lt' key x; pure (r.map fun x=>!x)) Q st:=by
 have hx:arr[i]?=some arr[i]:=Array.getElem?_eq_getElem hi
 have hp:κ.Has arr[i]:=harr _ (by simp)
 rw [elem'_eq,hx]
 refine wpS_bind (wpS_pure ?_)
 unfold beyond at h
 rw [hx] at h
 cases left with
 | true=>exact wpS_lt1 hk hp hkey h
 | false=>exact wpS_bind (wpS_lt1 hk hkey hp (wpS_pure h))
end
theorem share1 {σ:Type} {prog:Program} {w:World} {A:Around} {E:Value->Shared->Prop} {s:Shared} {β α:Type} {body:α->StateT σ Sem β} {Q:β->σ->Prop} {G:Prop} (P:α->σ->Prop)
  (h1:(∀ x st',P x st'->wpS (model prog w) A E s (body x) Q st')->G) (h2:∀ x st',P x st'->wpS (model prog w) A E s (body x) Q st'):G:=h1 h2
theorem share2 {σ:Type} {prog:Program} {w:World} {A:Around} {E:Value->Shared->Prop} {s:Shared} {β α γ:Type} {body:α->γ->StateT σ Sem β} {Q:β->σ->Prop} {G:Prop} (P:α->γ->σ->Prop)
  (h1:(∀ x y st',P x y st'->wpS (model prog w) A E s (body x y) Q st')->G) (h2:∀ x y st',P x y st'->wpS (model prog w) A E s (body x y) Q st'):G:=h1 h2
theorem tupl2 {α β:Type} {P:α×β->Prop} (h:∀ a b,P (a,b)) (x):P x:=h x.1 x.2
theorem tupl3 {α β γ:Type} {P:α×β×γ->Prop} (h:∀ a b c,P (a,b,c)) (x):P x:=h x.1 x.2.1 x.2.2
theorem tupl5 {α β γ δ ε:Type} {P:α×β×γ×δ×ε->Prop} (h:∀ a b c d e,P (a,b,c,d,e)) (x):P x:=h x.1 x.2.1 x.2.2.1 x.2.2.2.1 x.2.2.2.2
theorem tupl6 {α β γ δ ε ζ:Type} {P:α×β×γ×δ×ε×ζ->Prop} (h:∀ a b c d e f,P (a,b,c,d,e,f)) (x):P x:=h x.1 x.2.1 x.2.2.1 x.2.2.2.1 x.2.2.2.2.1 x.2.2.2.2.2
theorem tupl7 {α β γ δ ε ζ η:Type} {P:α×β×γ×δ×ε×ζ×η->Prop} (h:∀ a b c d e f g,P (a,b,c,d,e,f,g)) (x):P x:=h x.1 x.2.1 x.2.2.1 x.2.2.2.1 x.2.2.2.2.1 x.2.2.2.2.2.1 x.2.2.2.2.2.2
section
variable {M:Model} {A:Around} {E:Value->Shared->Prop} {s:Shared} {σ:Type}
@[reducible] noncomputable def forK {β:Type} (I Q:β->σ->Prop):ForInStep β->σ->Prop:=fun r st=>match r with
 | .done c=>Q c st
 | .yield c=>I c st
theorem forB {β γ:Type} {b:Nat} {f:Nat->β->StateT σ Sem (ForInStep β)} {f2:β->StateT σ Sem γ} {Q:γ->σ->Prop} {c:β} {st:σ} (I:Nat->β->σ->Prop) (Q':β->σ->Prop)
  (step:∀ F,F=f->∀ (N:ForInStep β->σ->Prop) i,i < b->(∀ {c st},I (i+1) c st->N (.yield c) st)->(∀ {c st},Q' c st->N (.done c) st)->∀ c st,I i c st->wpS M A E s (F i c) N st) (fin:∀ c st,I b c st->Q' c st) (init:I 0 c st) (rest:∀ K,K=f2->∀ c st,Q' c st->wpS M A E s (K c) Q st):wpS M A E s (forIn [0:b] c f >>= f2) Q st:=
 wpS_bind (wpS_mono (wpS_forRange I (fun i c st _ h2 hI=>wpS_mono (step f rfl (forK (I (i+1)) Q') i h2 id id c st hI) fun r _ h=>by cases r <;> exact h) (fun c st h=>fin c st (Nat.zero_max b ▸ h)) init) (rest f2 rfl))
theorem iteB {α:Type} {i j:Nat} {t e:StateT σ Sem α} {Q:α->σ->Prop} {st:σ} (h1:i=j->wpS M A E s t Q st) (h2:i≠j->wpS M A E s e Q st):wpS M A E s (if (i==j)=true then t else e) Q st:=by
 by_cases h:i=j
 ·rw [if_pos (by simpa using h)]; exact h1 h
 ·rw [if_neg (by simpa using h)]; exact h2 h
theorem iteP {α:Type} {p:Prop} [Decidable p] {t e:StateT σ Sem α} {Q:α->σ->Prop} {st:σ} (h1:p->wpS M A E s t Q st) (h2:¬ p->wpS M A E s e Q st):wpS M A E s (if p then t else e) Q st:=by
 by_cases h:p
 ·rw [if_pos h]; exact h1 h
 ·rw [if_neg h]; exact h2 h
theorem liftB {α β:Type} {m:Sem α} {f:α->StateT σ Sem β} {Q:β->σ->Prop} {st:σ} (h:wpAny M A m (fun a s'=>s'=s/\wpS M A E s (f a) Q st) E s):wpS M A E s ((monadLift m:StateT σ Sem α) >>= f) Q st:=wpS_bind (wpS_lift h)
theorem getB {β:Type} {f:σ->StateT σ Sem β} {Q:β->σ->Prop} {st:σ} (h:wpS M A E s (f st) Q st):wpS M A E s ((get:StateT σ Sem σ) >>= f) Q st:=wpS_bind (wpS_get h)
theorem modB {β:Type} {g:σ->σ} {f:PUnit->StateT σ Sem β} {Q:β->σ->Prop} {st:σ} (h:wpS M A E s (f ⟨⟩) Q (g st)):wpS M A E s ((modify g:StateT σ Sem PUnit) >>= f) Q st:=wpS_bind (wpS_modify h)
end
section
variable {prog:Program} {w:World} {A:Around} {E:Value->Shared->Prop} {s:Shared} {κ:KOrd A s} {β:Type} {Q:β->SortSt->Prop} {st:SortSt}
theorem beyB {left:Bool} {key:Keyed} {arr:Array Keyed} {i:Nat} {f:Option Bool->StateT SortSt Sem β} {b:Bool} (hk:kindOf st=κ.kd) (hkey:κ.Has key) (harr:∀ p∈arr.toList,κ.Has p) (hi:i < arr.size) (hb:beyond κ left key arr i=b)
  (h:wpS (model prog w) A E s (f (some b)) Q st) :
  wpS (model prog w) A E s ((do let x <- elem' arr i; if left=true then lt' x key else do let r <- lt' key x; pure (r.map fun x=>!x)) >>= f) Q st:=wpS_bind (wpS_beyond hk hkey harr hi (hb ▸ h))
end
end Mine
end
section
namespace Mine
noncomputable def gallop':Bool->Keyed->Array Keyed->Nat->Nat->Nat->StateT SortSt Sem (Option Nat):=sortPriv% PySem.Builtin.gallop
section
variable {prog:Program} {w:World} {A:Around} {E:Value->Shared->Prop} {s:Shared} {κ:KOrd A s}
inductive GaU (P:Nat->Bool) (n hint:Nat) (st:SortSt) (t:Nat) (r:Option (Option Nat)) (lo hi:Nat) (st':SortSt):Prop where
 | mk (e:st'=st) (er:r=none) (h1:t+1<=hi) (h2:lo < hi) (h3:hint+lo < n) (h4:P (hint+lo)=true)
inductive GaV (P:Nat->Bool) (n hint:Nat) (st:SortSt) (r:Option (Option Nat)) (lo hi:Nat) (st':SortSt):Prop where
 | mk (e:st'=st) (er:r=none) (h2:lo < hi) (h3:hint+lo < n) (h4:P (hint+lo)=true) (h5:∀ i,hint+hi<=i->i < n->P i=false)
inductive GaD (P:Nat->Bool) (hint:Nat) (st:SortSt) (t:Nat) (r:Option (Option Nat)) (lo hi:Nat) (st':SortSt):Prop where
 | mk (e:st'=st) (er:r=none) (h1:t+1<=hi) (h2:lo < hi) (h3:lo<=hint) (h4:P (hint - lo)=false)
inductive GaE (P:Nat->Bool) (hint:Nat) (st:SortSt) (r:Option (Option Nat)) (lo hi:Nat) (st':SortSt):Prop where
 | mk (e:st'=st) (er:r=none) (h2:lo < hi) (h3:lo<=hint) (h4:P (hint - lo)=false) (h5:∀ i,i < hint+1 - min hi (hint+1)->P i=true)
inductive GaB (P:Nat->Bool) (n:Nat) (st:SortSt) (t:Nat) (r:Option (Option Nat)) (lo hi:Nat) (st':SortSt):Prop where
 | mk (e:st'=st) (er:r=none) (g1:lo<=hi) (g2:hi<=n) (g3:t+hi<=n+lo) (g4:∀ i,i < lo->P i=true) (g5:∀ i,hi<=i->i < n->P i=false)
inductive GaF (P:Nat->Bool) (n:Nat) (st:SortSt) (r:Option (Option Nat)) (hi:Nat) (st':SortSt):Prop where
 | mk (e:st'=st) (er:r=none) (g2:hi<=n) (g4:∀ i,i < hi->P i=true) (g5:∀ i,hi<=i->i < n->P i=false)
theorem GaB.fin {P:Nat->Bool} {n:Nat} {st:SortSt} {r:Option (Option Nat)} {lo hi:Nat} {st':SortSt} (h:GaB P n st n r lo hi st'):GaF P n st r hi st':=
 let ⟨e,er,g1,g2,g3,g4,g5⟩:=h
 have:hi=lo:=Nat.le_antisymm (Nat.le_of_add_le_add_left g3) g1
 ⟨e,er,g2,this ▸ g4,g5⟩
theorem mid_lt {lo hi:Nat} (h:¬ hi<=lo):lo+(hi - lo) / 2 < hi:=by lia
theorem up_lt {base hint ofs n sz:Nat} (hb:base+n<=sz) (hge:¬ n - hint<=ofs):base+(hint+ofs) < sz:=by exact linL (Nat.add_le_add hb (Nat.add_le_add (sbE (n) (hint) (lin (sbP (n) (hint) (lin (Nat.lt_of_not_ge hge) (by simp +arith))) (by simp +arith))) (Nat.lt_of_not_ge hge))) (by simp +arith)
theorem up_lt' {hint ofs n:Nat} (hge:¬ n - hint<=ofs):hint+ofs < n:=by exact linL (Nat.add_le_add (sbE (n) (hint) (lin (sbP (n) (hint) (lin (Nat.lt_of_not_ge hge) (by simp +arith))) (by simp +arith))) (Nat.lt_of_not_ge hge)) (by simp +arith)
theorem up_no {hint ofs n i:Nat} (hge:n - hint<=ofs) (h1:hint+ofs<=i) (h2:i < n) (hh:hint < n):False:=by exact (linF (Nat.add_le_add h2 (Nat.add_le_add (sbA (n) (hint)) (Nat.add_le_add hge h1))) (by simp +arith))
theorem dn_lt {base hint ofs n sz:Nat} (hb:base+n<=sz) (hh:hint < n):base+(hint - ofs) < sz:=by exact linL (Nat.add_le_add hb (Nat.add_le_add (Nat.sub_le (hint) (ofs)) hh)) (by simp +arith)
theorem up_t {t hi:Nat} (h:t+1<=hi):t+1+1<=2 * hi+1:=by exact lin h (by simp +arith)
theorem up_d {hi:Nat}:hi < 2 * hi+1:=by simp +arith
theorem up1 {hint lo hi n:Nat} (h2:lo < hi) (h3:hint+lo < n):hint+lo+1<=hint+min hi (n - hint):=Nat.add_le_add_left (Nat.le_min.mpr ⟨h2,Nat.le_sub_of_add_le (by exact lin h3 (by simp +arith))⟩) hint
theorem up2 {hint hi n:Nat} (hh:hint < n):hint+min hi (n - hint)<=n:=by exact lin (Nat.add_le_add (sbE (n) (hint) (lin hh (by simp +arith))) (Nat.min_le_right (hi) (n - hint))) (by simp +arith)
theorem up3 {hint hi n i:Nat} (h:hint+min hi (n - hint)<=i) (h2:i < n):hint+hi<=i:=by
 rcases Nat.le_total hi (n - hint) with c | c
 ·rw [Nat.min_eq_left c] at h; exact h
 ·rw [Nat.min_eq_right c] at h; exact (linF (Nat.add_le_add h (Nat.add_le_add h2 (sbA n hint))) (by simp +arith)).elim
theorem dn_no {hint hi i:Nat} (hge:hint+1<=hi) (h:i < hint+1 - min hi (hint+1)):False:=by exact (linF (Nat.add_le_add h (Nat.add_le_add (sbE (hint+1) (min hi (hint+1)) (lin (sbP (hint+1) (min hi (hint+1)) (lin h (by simp +arith))) (by simp +arith))) (mnR (hi) (hint+1) (lin hge (by simp +arith))))) (by simp +arith))
theorem dn_le {hint hi i:Nat} (hge:¬ hint+1<=hi) (h:i < hint+1 - min hi (hint+1)):i<=hint - hi:=by exact lin (Nat.add_le_add h (Nat.add_le_add (sbE (hint+1) (min hi (hint+1)) (lin (sbP (hint+1) (min hi (hint+1)) (lin h (by simp +arith))) (by simp +arith))) (Nat.add_le_add (sbA (hint) (hi)) (mnL (hi) (hint+1) (lin (Nat.lt_of_not_ge hge) (by simp +arith)))))) (by simp +arith)
theorem dn1 {hint lo hi:Nat} (h2:lo < hi) (h3:lo<=hint):hint+1 - min hi (hint+1)<=hint - lo:=Nat.le_trans (Nat.sub_le_sub_left (Nat.le_min.mpr ⟨h2,Nat.succ_le_succ h3⟩) (hint+1)) (Nat.le_of_eq (Nat.add_sub_add_right hint 1 lo))
theorem bs0 {lo hi n:Nat} (h:hi<=n):0+hi<=n+lo:=by exact lin h (by simp +arith only)
theorem bs1 {t lo hi n mid:Nat} (g:t+hi<=n+lo) (m:lo<=mid):t+1+hi<=n+(mid+1):=by exact lin (Nat.add_le_add g m) (by simp +arith)
theorem bs2 {t lo hi n mid:Nat} (g:t+hi<=n+lo) (m:mid < hi):t+1+mid<=n+lo:=by exact lin (Nat.add_le_add g m) (by simp +arith)
theorem wpS_gallop {st:SortSt} {left:Bool} {key:Keyed} {arr:Array Keyed} {base n hint:Nat} {Q:Option Nat->SortSt->Prop} (hk:kindOf st=κ.kd) (hkey:κ.Has key) (harr:∀ p∈arr.toList,κ.Has p) (hb:base+n<=arr.size) (hh:hint < n)
  (mono:∀ i j,i<=j->j < n->beyond κ left key arr (base+j)=true->beyond κ left key arr (base+i)=true)
  (h:∀ k,k<=n->(∀ i,i < k->beyond κ left key arr (base+i)=true)->(∀ i,k<=i->i < n->beyond κ left key arr (base+i)=false)->Q (some k) st) :
  wpS (model prog w) A E s (gallop' left key arr base n hint) Q st:=by
 obtain ⟨P,hP⟩:∃ P:Nat->Bool,P=fun i=>beyond κ left key arr (base+i):=⟨_,rfl⟩
 have mono':∀ i j,i<=j->j < n->P j=true->P i=true:=by rw [hP]; exact mono
 have anti:∀ i j,i<=j->j < n->P i=false->P j=false:=fun i j hij hj hf=>by
  cases hq:P j with
  | false=>rfl
  | true=>rw [mono' i j hij hj hq] at hf; cases hf
 have hPi:∀ i,beyond κ left key arr (base+i)=P i:=fun i=>by rw [hP]
 unfold gallop'
 refine beyB hk hkey harr (Nat.lt_of_lt_of_le (Nat.add_lt_add_left hh base) hb) (hPi hint) ?_
 apply share2 (prog:=prog) (w:=w) (A:=A) (E:=E) (s:=s) (fun lo hi st'=>st'=st/\lo<=hi/\hi<=n/\(∀ i,i < lo->P i=true)/\(∀ i,hi<=i->i < n->P i=false))
 case h1=>
  intro hd
  dsimp only
  refine iteP (fun hr=>?_) fun hr=>?_
  ·refine forB (fun t (c:Option (Option Nat)×Nat×Nat) st'=>GaU P n hint st t c.1 c.2.1 c.2.2 st') (fun (c:Option (Option Nat)×Nat×Nat) st'=>GaV P n hint st c.1 c.2.1 c.2.2 st') ?_ (fun c st' h=>?_) ⟨rfl,rfl,Nat.le_refl _,Nat.one_pos,hh,hr⟩ ?_
   ·intro F hF N t ht nY nD
    refine tupl3 fun r lo hi st' hI=>?_
    replace hI:GaU P n hint st t r lo hi st':=hI
    obtain ⟨e,er,h1,h2,h3,h4⟩:=hI
    subst hF
    dsimp only
    refine iteP (fun hge=>wpS_pure (nD ⟨e,rfl,h2,h3,h4,fun i a b=>(up_no hge a b hh).elim⟩)) fun hge=>beyB (e ▸ hk) hkey harr (up_lt hb hge) (hPi (hint+hi)) ?_
    cases hq:P (hint+hi) with
    | true=>exact wpS_pure (nY ⟨e,rfl,up_t h1,up_d,up_lt' hge,hq⟩)
    | false=>exact wpS_pure (nD ⟨e,rfl,h2,h3,h4,fun i a b=>anti _ i a b hq⟩)
   ·obtain ⟨e,er,h1,h2,h3,h4⟩:=h
    exact ⟨e,er,h2,h3,h4,fun i a b=>(Nat.lt_irrefl n (Nat.lt_of_lt_of_le h1 (Nat.le_trans (Nat.le_add_left _ hint) (Nat.le_trans a (Nat.le_of_lt b))))).elim⟩
   ·intro K hK
    refine tupl3 fun r lo hi st' hV=>?_
    replace hV:GaV P n hint st r lo hi st':=hV
    obtain ⟨e,er,h2,h3,h4,h5⟩:=hV
    subst er
    subst hK
    dsimp only
    have k1:hint+lo+1<=hint+min hi (n - hint):=up1 h2 h3
    have k2:hint+min hi (n - hint)<=n:=up2 hh
    have k3:∀ i,hint+min hi (n - hint)<=i->i < n->P i=false:=fun i a b=>h5 i (up3 a b) b
    have k4:∀ i,i < hint+lo+1->P i=true:=fun i a=>mono' i _ (Nat.le_of_lt_succ a) h3 h4
    obtain ⟨a,ha⟩:∃ a,a=hint+lo+1:=⟨_,rfl⟩
    obtain ⟨b,hb'⟩:∃ b,b=hint+min hi (n - hint):=⟨_,rfl⟩
    rw [<- ha] at k1 k4 ⊢
    rw [<- hb'] at k1 k2 k3 ⊢
    exact hd a b st' ⟨e,k1,k2,k4,k3⟩
  ·replace hr:P hint=false:=Bool.eq_false_iff.mpr hr
   refine forB (fun t (c:Option (Option Nat)×Nat×Nat) st'=>GaD P hint st t c.1 c.2.1 c.2.2 st') (fun (c:Option (Option Nat)×Nat×Nat) st'=>GaE P hint st c.1 c.2.1 c.2.2 st') ?_ (fun c st' h=>?_) ⟨rfl,rfl,Nat.le_refl _,Nat.one_pos,Nat.zero_le _,hr⟩ ?_
   ·intro F hF N t ht nY nD
    refine tupl3 fun r lo hi st' hI=>?_
    replace hI:GaD P hint st t r lo hi st':=hI
    obtain ⟨e,er,h1,h2,h3,h4⟩:=hI
    subst hF
    dsimp only
    refine iteP (fun hge=>wpS_pure (nD ⟨e,rfl,h2,h3,h4,fun i a=>(dn_no hge a).elim⟩)) fun hge=>beyB (e ▸ hk) hkey harr (dn_lt hb hh) (hPi (hint - hi)) ?_
    cases hq:P (hint - hi) with
    | false=>exact wpS_pure (nY ⟨e,rfl,up_t h1,up_d,Nat.le_of_lt_succ (Nat.lt_of_not_ge hge),hq⟩)
    | true=>exact wpS_pure (nD ⟨e,rfl,h2,h3,h4,fun i a=>mono' i _ (dn_le hge a) (Nat.lt_of_le_of_lt (Nat.sub_le _ _) hh) hq⟩)
   ·obtain ⟨e,er,h1,h2,h3,h4⟩:=h
    exact ⟨e,er,h2,h3,h4,fun i a=>(dn_no (Nat.le_trans hh (Nat.le_of_succ_le h1)) a).elim⟩
   ·intro K hK
    refine tupl3 fun r lo hi st' hV=>?_
    replace hV:GaE P hint st r lo hi st':=hV
    obtain ⟨e,er,h2,h3,h4,h5⟩:=hV
    subst er
    subst hK
    exact hd _ _ st' ⟨e,dn1 h2 h3,Nat.le_trans (Nat.sub_le _ _) (Nat.le_of_lt hh),h5,fun i a b=>anti _ i a b h4⟩
 case h2=>
  rintro lo hi st' ⟨e,g1,g2,g4,g5⟩
  refine forB (fun t (c:Option (Option Nat)×Nat×Nat) st'=>GaB P n st t c.1 c.2.1 c.2.2 st') (fun (c:Option (Option Nat)×Nat×Nat) st'=>GaF P n st c.1 c.2.2 st') ?_ (fun c st' h=>h.fin) ⟨e,rfl,g1,g2,bs0 g2,g4,g5⟩ ?_
  ·intro F hF N t ht nY nD
   refine tupl3 fun r lo hi st' hI=>?_
   replace hI:GaB P n st t r lo hi st':=hI
   obtain ⟨e,er,g1,g2,g3,g4,g5⟩:=hI
   subst hF
   dsimp only
   refine iteP (fun hge=>wpS_pure (nD ⟨e,rfl,g2,fun i a=>g4 i (Nat.lt_of_lt_of_le a hge),g5⟩)) fun hge=>?_
   have m1:lo<=lo+(hi - lo) / 2:=Nat.le_add_right _ _
   have m2:=mid_lt hge
   generalize lo+(hi - lo) / 2=mid at m1 m2 ⊢
   have m3:=Nat.lt_of_lt_of_le m2 g2
   refine beyB (e ▸ hk) hkey harr (Nat.lt_of_lt_of_le (Nat.add_lt_add_left m3 base) hb) (hPi mid) ?_
   cases hq:P mid with
   | true=>exact wpS_pure (nY ⟨e,rfl,m2,g2,bs1 g3 m1,fun i a=>mono' i mid (Nat.le_of_lt_succ a) m3 hq,g5⟩)
   | false=>exact wpS_pure (nY ⟨e,rfl,m1,Nat.le_of_lt m3,bs2 g3 m2,g4,fun i a b=>anti mid i a b hq⟩)
  ·intro K hK
   refine tupl3 fun r lo hi st' hF=>?_
   replace hF:GaF P n st r hi st':=hF
   obtain ⟨e,er,g2,g4,g5⟩:=hF
   subst er
   subst hK
   exact wpS_pure (e ▸ h hi g2 (fun i a=>(hPi i).trans (g4 i a)) fun i a b=>(hPi i).trans (g5 i a b))
end
end Mine
end
section
namespace Mine
noncomputable def kAt {A:Around} {s:Shared} (κ:KOrd A s) (xs:Array Keyed) (i:Nat):κ.O.α:=match xs[i]? with
 | some p=>κ.k p
 | none=>κ.dflt
theorem kAt_congr {A:Around} {s:Shared} {κ:KOrd A s} {xs ys:Array Keyed} {i j:Nat} (h:xs[i]?=ys[j]?):kAt κ xs i=kAt κ ys j:=by unfold kAt; rw [h]
structure SSt {A:Around} {s:Shared} (κ:KOrd A s) (a₀:Array Keyed) (st:SortSt):Prop where
 perm:(arrOf st).Perm a₀
 kind:kindOf st=κ.kd
 failed:failedOf st=none
theorem SSt.size {A:Around} {s:Shared} {κ:KOrd A s} {a₀:Array Keyed} {st:SortSt} (h:SSt κ a₀ st):(arrOf st).size=a₀.size:=h.perm.size_eq
theorem SSt.has {A:Around} {s:Shared} {κ:KOrd A s} {a₀:Array Keyed} {st:SortSt} (h:SSt κ a₀ st) (h0:∀ p∈a₀.toList,κ.Has p):∀ p∈(arrOf st).toList,κ.Has p:=fun p hp=>h0 p ((Array.perm_iff_toList_perm.mp h.perm).mem_iff.mp hp)
theorem SSt.setArr {A:Around} {s:Shared} {κ:KOrd A s} {a₀:Array Keyed} {st:SortSt} (h:SSt κ a₀ st) {xs:Array Keyed} (hp:xs.Perm (arrOf st)):SSt κ a₀ (setArr st xs):=⟨hp.trans h.perm,h.kind,h.failed⟩
noncomputable def Srt {A:Around} {s:Shared} (κ:KOrd A s) (xs:Array Keyed) (lo hi:Nat):Prop:=∀ i j,lo<=i->i<=j->j < hi->κ.O.kle (kAt κ xs i) (kAt κ xs j)
noncomputable def Same' (xs ys:Array Keyed) (lo hi:Nat):Prop:=∀ i,i < lo\/hi<=i->xs[i]?=ys[i]?
theorem Same'.srt {A:Around} {s:Shared} {κ:KOrd A s} {xs ys:Array Keyed} {lo hi a b:Nat} (h:Same' xs ys lo hi) (hs:Srt κ xs a b) (hd:b<=lo\/hi<=a):Srt κ ys a b:=fun i j h1 h2 h3=>by
 have e1:=kAt_congr (κ:=κ) (h i (by lia))
 have e2:=kAt_congr (κ:=κ) (h j (by lia))
 rw [<- e1,<- e2]
 exact hs i j h1 h2 h3
section
variable {prog:Program} {w:World} {A:Around} {E:Value->Shared->Prop} {s:Shared} {κ:KOrd A s} {a₀:Array Keyed}
theorem wpS_ltG {st:SortSt} {i j:Nat} {Q:Option Bool->SortSt->Prop} (h:SSt κ a₀ st) (h0:∀ p∈a₀.toList,κ.Has p) (hi:i < a₀.size) (hj:j < a₀.size)
  (hq:Q (some (κ.O.blt (kAt κ (arrOf st) i) (kAt κ (arrOf st) j))) st):wpS (model prog w) A E s (ltAt' i j) Q st:=by
 have hi':i < (arrOf st).size:=by rw [h.size]; exact hi
 have hj':j < (arrOf st).size:=by rw [h.size]; exact hj
 have ei:(arrOf st)[i]?=some (arrOf st)[i]:=Array.getElem?_eq_getElem hi'
 have ej:(arrOf st)[j]?=some (arrOf st)[j]:=Array.getElem?_eq_getElem hj'
 rw [ltAt'_eq]
 refine wpS_bind (wpS_get ?_)
 show wpS _ _ _ _ (do let x <- elem' (arrOf st) i; let y <- elem' (arrOf st) j; lt' x y) Q st
 rw [elem'_eq,elem'_eq,ei,ej]
 refine wpS_bind (wpS_pure (wpS_bind (wpS_pure (wpS_lt1 h.kind (h.has h0 _ (by simp)) (h.has h0 _ (by simp)) ?_))))
 unfold kAt at hq
 rw [ei,ej] at hq
 exact hq
end
end Mine
end
section
namespace Mine
noncomputable def ChS (st st':SortSt) (lo hi:Nat):Prop:=∃ xs,st'=setArr st xs/\xs.Perm (arrOf st)/\Same' (arrOf st) xs lo hi
theorem ChS.refl (st:SortSt) (lo hi:Nat):ChS st st lo hi:=⟨arrOf st,rfl,.refl _,fun _ _=>rfl⟩
theorem ChS.trans {st st' st'':SortSt} {lo hi:Nat} (h:ChS st st' lo hi) (h':ChS st' st'' lo hi):ChS st st'' lo hi:=by
 obtain ⟨xs,rfl,p,e⟩:=h
 obtain ⟨ys,rfl,p',e'⟩:=h'
 exact ⟨ys,rfl,p'.trans p,fun i hi=>(e i hi).trans (e' i hi)⟩
theorem ChS.sst {A:Around} {s:Shared} {κ:KOrd A s} {a₀:Array Keyed} {st st':SortSt} {lo hi:Nat} (h:ChS st st' lo hi) (S:SSt κ a₀ st):SSt κ a₀ st':=by
 obtain ⟨xs,rfl,p,e⟩:=h
 exact S.setArr p
theorem kAt_bubble {A:Around} {s:Shared} {κ:KOrd A s} {xs:Array Keyed} {src d:Nat} (hs:src < xs.size) (hd:d<=src) (k:Nat) :
  kAt κ (bubble xs src d) k=if k=src - d then kAt κ xs src else if src - d < k/\k<=src then kAt κ xs (k - 1) else kAt κ xs k:=by
 have e:=getElem?_bubble hs d hd k
 by_cases h1:k=src - d
 ·rw [if_pos h1] at e ⊢; exact kAt_congr e
 ·rw [if_neg h1] at e ⊢
  by_cases h2:src - d < k/\k<=src
  ·rw [if_pos h2] at e ⊢; exact kAt_congr e
  ·rw [if_neg h2] at e ⊢; exact kAt_congr e
theorem bubble_same {xs:Array Keyed} {lo hi src d:Nat} (hs:src < xs.size) (hd:d<=src) (h1:lo<=src - d) (h2:src < hi):Same' xs (bubble xs src d) lo hi:=fun i h=>by
 rw [getElem?_bubble hs d hd,if_neg fun e=>h.elim (fun c=>linF (Nat.add_le_add c (Nat.add_le_add h1 (Nat.le_of_eq e.symm))) (by simp +arith)) (fun c=>linF (Nat.add_le_add c (Nat.add_le_add h2 (Nat.add_le_add (Nat.le_of_eq e) (Nat.sub_le src d)))) (by simp +arith)),if_neg fun c0=>h.elim (fun c=>linF (Nat.add_le_add c (Nat.add_le_add h1 c0.1)) (by simp +arith)) (fun c=>linF (Nat.add_le_add c (Nat.add_le_add h2 c0.2)) (by simp +arith))]
theorem kAt_mirror {A:Around} {s:Shared} {κ:KOrd A s} {xs:Array Keyed} {i j:Nat} (hj:j<=xs.size) (k:Nat) :
  kAt κ (mirror xs i j ((j - i) / 2)) k=if i<=k/\k < j then kAt κ xs (i+j - 1 - k) else kAt κ xs k:=by
 have e:=getElem?_mirror_all (i:=i) hj k
 by_cases h1:i<=k/\k < j
 ·rw [if_pos h1] at e ⊢; exact kAt_congr e
 ·rw [if_neg h1] at e ⊢; exact kAt_congr e
theorem mirror_same {xs:Array Keyed} {lo hi i j:Nat} (hj:j<=xs.size) (h1:lo<=i) (h2:j<=hi):Same' xs (mirror xs i j ((j - i) / 2)) lo hi:=fun k h=>by
 rw [getElem?_mirror_all hj,if_neg fun c0=>h.elim (fun c=>linF (Nat.add_le_add c (Nat.add_le_add h1 c0.1)) (by simp +arith)) (fun c=>linF (Nat.add_le_add c (Nat.add_le_add h2 c0.2)) (by simp +arith))]
section
variable {prog:Program} {w:World} {A:Around} {E:Value->Shared->Prop} {s:Shared} {κ:KOrd A s} {a₀:Array Keyed}
theorem ChS.moveDown {st:SortSt} {lo hi src dst:Nat} (hs:src < (arrOf st).size) (h1:lo<=dst) (h12:dst<=src) (h2:src < hi):ChS st (setArr st (bubble (arrOf st) src (src - dst))) lo hi:=
 ⟨_,rfl,bubble_perm _ _ _,bubble_same hs (by exact (Nat.sub_le (src) (dst))) (by exact lin (Nat.add_le_add h1 (Nat.add_le_add (sbE (src) (dst) (lin h12 (by simp +arith))) (sbA (src) (src - dst)))) (by simp +arith only)) h2⟩
theorem ChS.reverse {st:SortSt} {lo hi i j:Nat} (hs:j<=(arrOf st).size) (h1:lo<=i) (h2:j<=hi):ChS st (setArr st (mirror (arrOf st) i j ((j - i) / 2))) lo hi:=
 ⟨_,rfl,mirror_perm _ _ _ _,mirror_same hs h1 h2⟩
inductive BiI (B C:Nat->Prop) (k:Nat) (st:SortSt) (x:Nat) (r:Option Bool) (l h:Nat) (st':SortSt):Prop where
 | mk (e:st'=st) (er:r=none) (g1:l<=h) (g2:h<=k) (g3:x+h<=k+l) (g4:∀ i,i < l->B i) (g5:∀ i,h<=i->i < k->C i)
inductive BiF (B C:Nat->Prop) (k:Nat) (st:SortSt) (r:Option Bool) (l:Nat) (st':SortSt):Prop where
 | mk (e:st'=st) (er:r=none) (g2:l<=k) (g4:∀ i,i < l->B i) (g5:∀ i,l<=i->i < k->C i)
theorem bi_fin {x h k l:Nat} (g1:l<=h) (g3:x+h<=k+l) (hk:k<=x):l=h:=Nat.le_antisymm g1 (Nat.le_of_add_le_add_left (Nat.le_trans (Nat.add_le_add_right hk h) g3))
theorem bi_mid {l h:Nat} (g:¬ l>=h):l<=(l+h) / 2/\(l+h) / 2 < h:=have g:=Nat.lt_of_not_ge g
 ⟨(Nat.le_div_iff_mul_le (by decide)).mpr (by exact lin g (by simp +arith)),Nat.div_lt_of_lt_mul (by exact linL g (by simp +arith))⟩
theorem bi_lo {x h k l m:Nat} (g:x+h<=k+l) (hm:l<=m):x+1+h<=k+(m+1):=by exact lin (Nat.add_le_add g hm) (by simp +arith)
theorem bi_hi {x h k l m:Nat} (g:x+h<=k+l) (hm:m < h):x+1+m<=k+l:=by exact lin (Nat.add_le_add g hm) (by simp +arith)
theorem ins_srt {xs:Array Keyed} {lo k l:Nat} (hks:lo+k < xs.size) (hl:l<=k) (hs:Srt κ xs lo (lo+k)) (hb:∀ i,i < l->κ.O.kle (kAt κ xs (lo+i)) (kAt κ xs (lo+k))) (ha:∀ i,l<=i->i < k->κ.O.klt (kAt κ xs (lo+k)) (kAt κ xs (lo+i))) :
  Srt κ (bubble xs (lo+k) (lo+k - (lo+l))) lo (lo+(k+1)):=by
 have ed:lo+k - (lo+k - (lo+l))=lo+l:=Nat.sub_sub_self (Nat.add_le_add_left hl lo)
 have v:∀ i,kAt κ (bubble xs (lo+k) (lo+k - (lo+l))) (lo+i)=if lo+i=lo+l then kAt κ xs (lo+k) else if lo+l < lo+i/\lo+i<=lo+k then kAt κ xs (lo+i - 1) else kAt κ xs (lo+i):=fun i=>by
  rw [kAt_bubble hks (Nat.sub_le _ _),ed]
 have v1:∀ i,i < l->kAt κ (bubble xs (lo+k) (lo+k - (lo+l))) (lo+i)=kAt κ xs (lo+i):=fun i h=>by rw [v,if_neg (by exact Nat.ne_of_lt (linL h (by simp +arith))),if_neg (by exact fun c0=>(linF (Nat.add_le_add h c0.1) (by simp +arith)))]
 have v2:kAt κ (bubble xs (lo+k) (lo+k - (lo+l))) (lo+l)=kAt κ xs (lo+k):=by rw [v,if_pos rfl]
 have v3:∀ i,l < i+1->i+1<=k->kAt κ (bubble xs (lo+k) (lo+k - (lo+l))) (lo+(i+1))=kAt κ xs (lo+i):=fun i h h'=>by rw [v,if_neg (by exact Nat.ne_of_gt (linL h (by simp +arith))),if_pos (by exact ⟨linL h (by simp +arith),lin h' (by simp +arith)⟩)]; rfl
 have sr:∀ i j,i<=j->j < k->κ.O.kle (kAt κ xs (lo+i)) (kAt κ xs (lo+j)):=fun i j a b=>hs _ _ (Nat.le_add_right _ _) (Nat.add_le_add_left a lo) (Nat.add_lt_add_left b lo)
 intro i j h1 h2 h3
 obtain ⟨i,rfl⟩:=Nat.exists_eq_add_of_le h1
 obtain ⟨j,rfl⟩:=Nat.exists_eq_add_of_le (Nat.le_trans h1 h2)
 replace h2:=Nat.le_of_add_le_add_left h2
 replace h3:=Nat.lt_of_add_lt_add_left h3
 rcases Nat.lt_trichotomy j l with c | rfl | c
 ·rw [v1 _ c,v1 _ (Nat.lt_of_le_of_lt h2 c)]
  exact sr i j h2 (Nat.lt_of_lt_of_le c hl)
 ·rw [v2]
  rcases Nat.lt_or_eq_of_le h2 with d | rfl
  ·rw [v1 _ d]; exact hb i d
  ·rw [v2]; exact KeyOrd.kle_refl _
 ·obtain ⟨j,rfl⟩:∃ j',j=j'+1:=⟨j - 1,(Nat.succ_pred_eq_of_pos (Nat.lt_of_le_of_lt (Nat.zero_le _) c)).symm⟩
  have c':=Nat.le_of_lt_succ c
  have hj:=Nat.lt_of_succ_lt_succ h3
  rw [v3 j c hj]
  rcases Nat.lt_trichotomy i l with d | rfl | d
  ·rw [v1 _ d]; exact sr i j (Nat.le_trans (Nat.le_of_lt d) c') hj
  ·rw [v2]; exact KeyOrd.kle_of_klt (ha j c' hj)
  ·obtain ⟨i,rfl⟩:∃ i',i=i'+1:=⟨i - 1,(Nat.succ_pred_eq_of_pos (Nat.lt_of_le_of_lt (Nat.zero_le _) d)).symm⟩
   have h2':=Nat.le_of_succ_le_succ h2
   rw [v3 i d (Nat.lt_of_le_of_lt h2' hj)]
   exact sr i j h2' hj
theorem wpS_binary {st:SortSt} {lo n ok:Nat} {Q:Bool->SortSt->Prop} (S:SSt κ a₀ st) (h0:∀ p∈a₀.toList,κ.Has p) (hlo:lo+n<=a₀.size) (hok:ok<=n) (hs:Srt κ (arrOf st) lo (lo+ok))
  (h:∀ st',ChS st st' lo (lo+n)->Srt κ (arrOf st') lo (lo+n)->Q true st'):wpS (model prog w) A E s (binarySort' lo n ok) Q st:=by
 unfold binarySort'
 refine wpS_bind (wpS_mono (Q:=fun (c:Option Bool×Unit) st'=>c.1=none/\ChS st st' lo (lo+n)/\Srt κ (arrOf st') lo (lo+n))
  (wpS_forRange (fun k (c:Option Bool×Unit) st'=>c.1=none/\ChS st st' lo (lo+n)/\Srt κ (arrOf st') lo (lo+min k n)) ?_ ?_ ?_) ?_)
 ·rintro k ⟨c,u⟩ st' hak hkn ⟨rfl,hc,hsr⟩
  have S':=hc.sst S
  rw [show min k n=k by exact linE (Nat.min_le_left (k) (n)) (by simp +arith) (mnL (k) (n) (lin hkn (by simp +arith))) (by simp +arith)] at hsr
  have hks:lo+k < (arrOf st').size:=by rw [S'.size]; exact Nat.lt_of_lt_of_le (Nat.add_lt_add_left hkn lo) hlo
  refine forB (fun x (c:Option Bool×Nat×Nat) st''=>BiI (fun i=>κ.O.kle (kAt κ (arrOf st') (lo+i)) (kAt κ (arrOf st') (lo+k))) (fun i=>κ.O.klt (kAt κ (arrOf st') (lo+k)) (kAt κ (arrOf st') (lo+i))) k st' x c.1 c.2.1 c.2.2 st'')
   (fun (c:Option Bool×Nat×Nat) st''=>BiF (fun i=>κ.O.kle (kAt κ (arrOf st') (lo+i)) (kAt κ (arrOf st') (lo+k))) (fun i=>κ.O.klt (kAt κ (arrOf st') (lo+k)) (kAt κ (arrOf st') (lo+i))) k st' c.1 c.2.1 st'') ?_ (fun c st'' h=>?_) ⟨rfl,rfl,Nat.zero_le _,Nat.le_refl _,Nat.le_of_eq (Nat.add_comm _ _),fun i h=>absurd h (Nat.not_lt_zero i),fun i a b=>absurd b (Nat.not_lt_of_le a)⟩ ?_
  ·intro F hF N x hx nY nD
   refine tupl3 fun r l h st'' hI=>?_
   obtain ⟨e,er,g1,g2,g3,g4,g5⟩:=hI
   replace e:st''=st':=e
   replace g1:l<=h:=g1
   replace g2:h<=k:=g2
   replace g3:x+h<=k+l:=g3
   subst e
   subst hF
   dsimp only
   refine iteP (fun hge=>wpS_pure (nD ⟨rfl,rfl,Nat.le_trans g1 g2,g4,(Nat.le_antisymm g1 hge:l=h) ▸ g5⟩)) fun hge=>?_
   obtain ⟨m1,m2⟩:=bi_mid hge
   generalize (l+h) / 2=m at m1 m2 ⊢
   have mk:=Nat.lt_of_lt_of_le m2 g2
   refine wpS_bind (wpS_ltG S' h0 (Nat.lt_of_lt_of_le (Nat.add_lt_add_left hkn lo) hlo) (Nat.lt_of_lt_of_le (Nat.add_lt_add_left (Nat.lt_trans mk hkn) lo) hlo) ?_)
   cases hless:κ.O.blt (kAt κ (arrOf st'') (lo+k)) (kAt κ (arrOf st'') (lo+m)) with
   | true=>exact wpS_pure (nY ⟨rfl,rfl,m1,Nat.le_of_lt mk,bi_hi g3 m2,g4,fun i a b=>KeyOrd.klt_of_klt_of_kle hless (hsr _ _ (Nat.le_add_right _ _) (Nat.add_le_add_left a lo) (Nat.add_lt_add_left b lo))⟩)
   | false=>exact wpS_pure (nY ⟨rfl,rfl,m2,g2,bi_lo g3 m1,fun i a=>KeyOrd.kle_trans (hsr (lo+i) (lo+m) (Nat.le_add_right _ _) (Nat.add_le_add_left (Nat.le_of_lt_succ a) lo) (Nat.add_lt_add_left mk lo)) hless,g5⟩)
  ·obtain ⟨e,er,g1,g2,g3,g4,g5⟩:=h
   have:=bi_fin g1 g3 (by simp +arith)
   exact ⟨e,er,Nat.le_trans g1 g2,g4,this ▸ g5⟩
  ·intro K hK
   refine tupl3 fun r l hi' st'' hF=>?_
   obtain ⟨e,er,g1,g2,g3⟩:=hF
   replace e:st''=st':=e
   replace er:r=none:=er
   subst e er
   subst hK
   show wpS _ _ _ _ (do moveDown' (lo+k) (lo+l); pure (ForInStep.yield (none,()))) _ _
   rw [moveDown'_eq]
   refine wpS_bind (wpS_modify (wpS_pure ⟨rfl,hc.trans (ChS.moveDown hks (Nat.le_add_right _ _) (Nat.add_le_add_left g1 lo) (Nat.add_lt_add_left hkn lo)),?_⟩))
   rw [show min (k+1) n=k+1 from Nat.min_eq_left hkn]
   exact ins_srt hks g1 hsr g2 g3
 ·rintro ⟨c,u⟩ st' ⟨hc,hch,hsr⟩
  refine ⟨hc,hch,?_⟩
  rwa [show min (max (max ok 1) n) n=n by exact linE (Nat.min_le_right (max (max ok 1) n) (n)) (by simp +arith only) (mnR (max (max ok 1) n) (n) (lin (Nat.le_max_right (max ok 1) (n)) (by simp +arith))) (by simp +arith only)] at hsr
 ·refine ⟨rfl,.refl _ _ _,fun i j h1 h2 h3=>?_⟩
  by_cases h1':ok=0
  ·have:i=j:=by
    rw [h1',Nat.max_eq_right (Nat.zero_le 1)] at h3
    exact Nat.le_antisymm h2 (by exact lin (Nat.add_le_add h3 (Nat.add_le_add (Nat.min_le_left 1 n) h1)) (by simp +arith))
   subst this; exact KeyOrd.kle_refl _
  ·exact hs i j h1 h2 (Nat.lt_of_lt_of_le h3 (Nat.add_le_add_left (Nat.le_trans (Nat.min_le_left _ n) (Nat.max_le.mpr ⟨Nat.le_refl _,Nat.pos_of_ne_zero h1'⟩)) lo))
 ·rintro ⟨c,u⟩ st' ⟨hc,hch,hsr⟩
  simp only at hc
  subst hc
  exact wpS_pure (h st' hch hsr)
end
end Mine
end
section
namespace Mine
theorem share {σ:Type} {prog:Program} {w:World} {A:Around} {E:Value->Shared->Prop} {s:Shared} {β:Type} {body:StateT σ Sem β} {Q:β->σ->Prop} {G:Prop} (P:σ->Prop)
  (h1:(∀ st',P st'->wpS (model prog w) A E s body Q st')->G) (h2:∀ st',P st'->wpS (model prog w) A E s body Q st'):G:=h1 h2
noncomputable def NInc {A:Around} {s:Shared} (κ:KOrd A s) (xs:Array Keyed) (lo hi:Nat):Prop:=∀ i j,lo<=i->i<=j->j < hi->κ.O.kle (kAt κ xs j) (kAt κ xs i)
theorem kAt_mirror_equal {A:Around} {s:Shared} {κ:KOrd A s} {xs:Array Keyed} {i j:Nat} (hj:j<=xs.size) (heq:∀ k,i<=k->k < j->kAt κ xs k=kAt κ xs (j - 1)) (k:Nat) :
  kAt κ (mirror xs i j ((j - i) / 2)) k=kAt κ xs k:=by
 rw [kAt_mirror hj]
 split
 ·rw [heq _ (by omega) (by omega),heq k (by lia) (by lia)]
 ·rfl
theorem Srt.grow {A:Around} {s:Shared} {κ:KOrd A s} {xs:Array Keyed} {lo x:Nat} (h:Srt κ xs lo x) (hx:lo < x) (hl:κ.O.kle (kAt κ xs (x - 1)) (kAt κ xs x)):Srt κ xs lo (x+1):=fun i j h1 h2 h3=>by
 by_cases hj:j < x
 ·exact h i j h1 h2 hj
 ·have:j=x:=by exact linE h3 (by simp +arith) (Nat.le_of_not_gt hj) (by simp +arith)
  subst this
  by_cases hi:i=j
  ·subst hi; exact KeyOrd.kle_refl _
  ·exact KeyOrd.kle_trans (h i (j - 1) h1 (by exact lin (Nat.add_le_add (Nat.lt_of_le_of_ne (lin h2 (by simp +arith)) hi) (sbA (j) (1))) (by simp +arith)) (by exact (sbE (j) (1) (lin hx (by simp +arith))))) hl
theorem NInc.grow {A:Around} {s:Shared} {κ:KOrd A s} {xs:Array Keyed} {lo x:Nat} (h:NInc κ xs lo x) (hx:lo < x) (hl:κ.O.kle (kAt κ xs x) (kAt κ xs (x - 1))):NInc κ xs lo (x+1):=fun i j h1 h2 h3=>by
 by_cases hj:j < x
 ·exact h i j h1 h2 hj
 ·have:j=x:=by exact linE h3 (by simp +arith) (Nat.le_of_not_gt hj) (by simp +arith)
  subst this
  by_cases hi:i=j
  ·subst hi; exact KeyOrd.kle_refl _
  ·exact KeyOrd.kle_trans hl (h i (j - 1) h1 (by exact lin (Nat.add_le_add (Nat.lt_of_le_of_ne (lin h2 (by simp +arith)) hi) (sbA (j) (1))) (by simp +arith)) (by exact (sbE (j) (1) (lin hx (by simp +arith)))))
theorem Srt.one {A:Around} {s:Shared} {κ:KOrd A s} {xs:Array Keyed} {lo:Nat}:Srt κ xs lo (lo+1):=fun i j h1 h2 h3=>by
 have:i=j:=by exact linE h2 (by simp +arith) (Nat.add_le_add h3 h1) (by simp +arith)
 subst this; exact KeyOrd.kle_refl _
section
variable {prog:Program} {w:World} {A:Around} {E:Value->Shared->Prop} {s:Shared} {κ:KOrd A s} {a₀:Array Keyed}
theorem wpS_rev {st:SortSt} {i j:Nat} {Q:Unit->SortSt->Prop} (h:Q () (setArr st (mirror (arrOf st) i j ((j - i) / 2)))) :
  wpS (model prog w) A E s (reverseSlice' i j) Q st:=by
 rw [reverseSlice'_eq]; exact wpS_modify h
theorem forA {β γ:Type} {a b:Nat} {f:Nat->β->StateT SortSt Sem (ForInStep β)} {f2:β->StateT SortSt Sem γ} {Q:γ->SortSt->Prop} {c:β} {st:SortSt} (hab:a<=b) (I:Nat->β->SortSt->Prop) (Q':β->SortSt->Prop)
  (step:∀ F,F=f->∀ i,a<=i->i < b->∀ c st,I i c st->wpS (model prog w) A E s (F i c) (forK (I (i+1)) Q') st) (fin:∀ c st,I b c st->Q' c st) (init:I a c st) (rest:∀ K,K=f2->∀ c st,Q' c st->wpS (model prog w) A E s (K c) Q st):wpS (model prog w) A E s (forIn [a:b] c f >>= f2) Q st:=
 wpS_bind (wpS_mono (wpS_forRange I (fun i c st h1 h2 hI=>wpS_mono (step f rfl i h1 h2 c st hI) fun r _ h=>by cases r <;> exact h) (fun c st h=>fin c st (Nat.max_eq_right hab ▸ h)) init) (rest f2 rfl))
inductive CnI (κ:KOrd A s) (st:SortSt) (lo x:Nat) (r:Option (Option Nat)) (n:Nat) (st':SortSt):Prop where
 | mk (e:st'=st) (er:r=none) (en:n=x) (hs:Srt κ (arrOf st) lo (lo+x))
inductive CnF (κ:KOrd A s) (st:SortSt) (lo nrem:Nat) (r:Option (Option Nat)) (n:Nat) (st':SortSt):Prop where
 | mk (e:st'=st) (er:r=none) (h1:1<=n) (h2:n<=nrem) (hs:Srt κ (arrOf st) lo (lo+n)) (hor:n < nrem->κ.O.klt (kAt κ (arrOf st) (lo+n)) (kAt κ (arrOf st) (lo+n - 1)))
inductive CdI (κ:KOrd A s) (st:SortSt) (lo nrem x:Nat) (r:Option (Option Nat)) (m neq:Nat) (st':SortSt):Prop where
 | mk (er:r=none) (c:ChS st st' lo (lo+nrem)) (em:m=x) (ni:NInc κ (arrOf st') lo (lo+x)) (hq:neq+1<=x) (he:∀ i,lo+x - (neq+1)<=i->i < lo+x->kAt κ (arrOf st') i=kAt κ (arrOf st') (lo+x - 1))
inductive CdF (κ:KOrd A s) (st:SortSt) (lo nrem n:Nat) (r:Option (Option Nat)) (m neq:Nat) (st':SortSt):Prop where
 | mk (er:r=none) (c:ChS st st' lo (lo+nrem)) (h1:n+1<=m) (h2:m<=nrem) (ni:NInc κ (arrOf st') lo (lo+m)) (hq:neq+1<=m) (he:∀ i,lo+m - (neq+1)<=i->i < lo+m->kAt κ (arrOf st') i=kAt κ (arrOf st') (lo+m - 1))
theorem in_l {lo x n sz:Nat} (h:lo+n<=sz) (hx:x < n):lo+x < sz:=Nat.lt_of_lt_of_le (Nat.add_lt_add_left hx lo) h
theorem in_p {lo x n sz:Nat} (h:lo+n<=sz) (hx:x < n):lo+x - 1 < sz:=Nat.lt_of_le_of_lt (Nat.sub_le _ _) (in_l h hx)
theorem lt_l {lo x:Nat} (h:1<=x):lo < lo+x:=Nat.lt_add_of_pos_right h
theorem last_eq {κ:KOrd A s} {xs:Array Keyed} {lo m:Nat}:∀ i,lo+(m+1) - (0+1)<=i->i < lo+(m+1)->kAt κ xs i=kAt κ xs (lo+(m+1) - 1):=fun i h1 h2=>by rw [Nat.le_antisymm (Nat.le_of_lt_succ h2) h1]; rfl
theorem more_eq {κ:KOrd A s} {xs:Array Keyed} {lo m neq:Nat} (h:kAt κ xs (lo+m)=kAt κ xs (lo+m - 1)) (he:∀ i,lo+m - (neq+1)<=i->i < lo+m->kAt κ xs i=kAt κ xs (lo+m - 1)) :
  ∀ i,lo+(m+1) - (neq+1+1)<=i->i < lo+(m+1)->kAt κ xs i=kAt κ xs (lo+(m+1) - 1):=fun i h1 h2=>by
 show _=kAt κ xs (lo+m)
 rcases Nat.lt_or_eq_of_le (Nat.le_of_lt_succ h2) with c | rfl
 ·rw [h]; exact he i (Nat.le_trans (Nat.le_of_eq (Nat.add_sub_add_right (lo+m) 1 (neq+1)).symm) h1) c
 ·rfl
theorem wpS_count {st:SortSt} {lo nrem:Nat} {Q:Option Nat->SortSt->Prop} (S:SSt κ a₀ st) (h0:∀ p∈a₀.toList,κ.Has p) (hlo:lo+nrem<=a₀.size) (h1:1<=nrem)
  (h:∀ m st',ChS st st' lo (lo+nrem)->1<=m->m<=nrem->Srt κ (arrOf st') lo (lo+m)->Q (some m) st'):wpS (model prog w) A E s (countRun' lo nrem) Q st:=by
 unfold countRun'
 refine forA h1 (fun x (c:Option (Option Nat)×Nat) st'=>CnI κ st lo x c.1 c.2 st') (fun (c:Option (Option Nat)×Nat) st'=>CnF κ st lo nrem c.1 c.2 st') ?_ (fun c st' oo=>by obtain ⟨e,er,en,hs⟩:=oo; exact ⟨e,er,en ▸ h1,Nat.le_of_eq en,en ▸ hs,fun q=>absurd en (Nat.ne_of_lt q)⟩) ⟨rfl,rfl,rfl,.one⟩ ?_
 ·intro F hF x hx1 hx2
  refine tupl2 fun r n st' hI=>?_
  obtain ⟨e,er,en,hs⟩:=hI
  replace e:st'=st:=e
  replace en:n=x:=en
  subst e en
  subst hF
  refine wpS_bind (wpS_ltG S h0 (in_l hlo hx2) (in_p hlo hx2) ?_)
  dsimp only
  cases hless:κ.O.blt (kAt κ (arrOf st') (lo+n)) (kAt κ (arrOf st') (lo+n - 1)) with
  | true=>exact wpS_pure ⟨rfl,rfl,hx1,Nat.le_of_lt hx2,hs,fun _=>hless⟩
  | false=>exact wpS_pure ⟨rfl,rfl,rfl,hs.grow (lt_l hx1) hless⟩
 ·intro K hK
  refine tupl2 fun r n st' hF=>?_
  obtain ⟨e,er,hn1,hn2,hs,hor⟩:=hF
  replace e:st'=st:=e
  replace er:r=none:=er
  replace hn1:1<=n:=hn1
  replace hn2:n<=nrem:=hn2
  subst e er
  subst hK
  dsimp only
  refine iteB (fun hnn=>wpS_pure (h n _ (.refl _ _ _) hn1 hn2 hs)) fun hnn=>?_
  have hn3:n < nrem:=Nat.lt_of_le_of_ne hn2 hnn
  have hlt:=hor hn3
  have hsz:lo+n<=(arrOf st').size:=by rw [S.size]; exact Nat.le_of_lt (in_l hlo hn3)
  apply share (prog:=prog) (w:=w) (A:=A) (E:=E) (s:=s) (Q:=Q) (fun st''=>ChS st' st'' lo (lo+nrem)/\NInc κ (arrOf st'') lo (lo+n+1))
  case h1=>
   intro hd
   refine iteP (fun hgt=>?_) fun hgt=>?_
   ·refine wpS_bind (wpS_ltG S h0 (in_l hlo h1) (in_p hlo hn3) ?_)
    cases hrose:κ.O.blt (kAt κ (arrOf st') lo) (kAt κ (arrOf st') (lo+n - 1)) with
    | true=>exact wpS_pure (h n _ (.refl _ _ _) hn1 hn2 hs)
    | false=>
     simp only [Bool.false_eq_true,if_false]
     have hall:∀ k,lo<=k->k < lo+n->kAt κ (arrOf st') k=kAt κ (arrOf st') (lo+n - 1):=fun k hk1 hk2=>
      KeyOrd.kle_antisymm (hs k (lo+n - 1) hk1 (Nat.le_sub_one_of_lt hk2) (Nat.sub_lt (Nat.lt_of_le_of_lt (Nat.zero_le _) hk2) Nat.one_pos)) (KeyOrd.kle_trans hrose (hs lo k (Nat.le_refl _) hk1 hk2))
     refine wpS_bind (wpS_rev (hd _ ⟨.reverse (i:=lo) hsz (Nat.le_refl _) (Nat.add_le_add_left hn2 lo),NInc.grow (x:=lo+n) (fun i j h1 h2 h3=>?_) (lt_l hn1) ?_⟩))
     ·show κ.O.kle (kAt κ (mirror (arrOf st') _ _ _) j) (kAt κ (mirror (arrOf st') _ _ _) i)
      rw [kAt_mirror_equal hsz hall,kAt_mirror_equal hsz hall,hall i h1 (Nat.lt_of_le_of_lt h2 h3),hall j (Nat.le_trans h1 h2) h3]
      exact KeyOrd.kle_refl _
     ·show κ.O.kle (kAt κ (mirror (arrOf st') _ _ _) _) (kAt κ (mirror (arrOf st') _ _ _) _)
      rw [kAt_mirror_equal hsz hall,kAt_mirror_equal hsz hall]
      exact KeyOrd.kle_of_klt hlt
   ·have en:n=1:=Nat.le_antisymm (Nat.le_of_not_gt hgt) hn1
    exact hd st' ⟨.refl _ _ _,NInc.grow (x:=lo+n) (fun i j h1 h2 h3=>by
     subst en
     rw [Nat.le_antisymm h2 (Nat.le_trans (Nat.le_of_lt_succ h3) h1)]; exact KeyOrd.kle_refl _) (lt_l hn1) (KeyOrd.kle_of_klt hlt)⟩
  case h2=>
   rintro st₁ ⟨c₁,ni₁⟩
   refine liftB (wpAny_rule ⟨rfl,?_⟩)
   refine forA hn3 (fun x (c:Option (Option Nat)×Nat×Nat) st₂=>CdI κ st' lo nrem x c.1 c.2.1 c.2.2 st₂) (fun (c:Option (Option Nat)×Nat×Nat) st₂=>CdF κ st' lo nrem n c.1 c.2.1 c.2.2 st₂) ?_ (fun c st₂ oo=>by obtain ⟨er,cc,em,ni,hq,he⟩:=oo; exact ⟨er,cc,em ▸ hn3,Nat.le_of_eq em,em ▸ ni,em ▸ hq,em ▸ he⟩) ⟨rfl,c₁,rfl,ni₁,Nat.le_add_left _ _,last_eq⟩ ?_
   ·intro F hF x hx1 hx2
    refine tupl3 fun r m neq st₂ hI=>?_
    obtain ⟨er,c₂,em,ni₂,hq,he⟩:=hI
    replace em:m=x:=em
    replace hq:neq+1<=x:=hq
    replace he:∀ i,lo+x - (neq+1)<=i->i < lo+x->kAt κ (arrOf st₂) i=kAt κ (arrOf st₂) (lo+x - 1):=he
    subst em
    have S₂:=c₂.sst S
    have hm1:1<=m:=Nat.le_trans (Nat.le_add_left 1 n) hx1
    have hsz₂:lo+m<=(arrOf st₂).size:=by rw [S₂.size]; exact Nat.le_of_lt (in_l hlo hx2)
    subst hF
    dsimp only
    refine wpS_bind (wpS_ltG S₂ h0 (in_l hlo hx2) (in_p hlo hx2) ?_)
    cases hless:κ.O.blt (kAt κ (arrOf st₂) (lo+m)) (kAt κ (arrOf st₂) (lo+m - 1)) with
    | true=>
     simp only [if_true]
     refine iteP (fun hneq=>?_) fun hneq=>wpS_pure ⟨rfl,c₂,rfl,NInc.grow (x:=lo+m) ni₂ (lt_l hm1) (KeyOrd.kle_of_klt hless),Nat.le_add_left _ _,last_eq⟩
     refine wpS_bind (wpS_rev (wpS_pure ⟨rfl,c₂.trans (.reverse hsz₂ (by exact lin (Nat.add_le_add (sbA (lo+m) (neq+1)) hq) (by simp +arith)) (Nat.add_le_add_left (Nat.le_of_lt hx2) lo)),rfl,?_,Nat.le_add_left _ _,last_eq⟩))
     intro i j h1 h2 h3
     show κ.O.kle (kAt κ (mirror (arrOf st₂) _ _ _) j) (kAt κ (mirror (arrOf st₂) _ _ _) i)
     rw [kAt_mirror_equal hsz₂ he,kAt_mirror_equal hsz₂ he]
     exact NInc.grow (x:=lo+m) ni₂ (lt_l hm1) (KeyOrd.kle_of_klt hless) i j h1 h2 h3
    | false=>
     simp only [Bool.false_eq_true,if_false]
     refine wpS_bind (wpS_ltG S₂ h0 (in_p hlo hx2) (in_l hlo hx2) ?_)
     cases hlarger:κ.O.blt (kAt κ (arrOf st₂) (lo+m - 1)) (kAt κ (arrOf st₂) (lo+m)) with
     | true=>exact wpS_pure ⟨rfl,c₂,hx1,Nat.le_of_lt hx2,ni₂,hq,he⟩
     | false=>
      simp only [Bool.false_eq_true,if_false]
      exact wpS_pure ⟨rfl,c₂,rfl,NInc.grow (x:=lo+m) ni₂ (lt_l hm1) hlarger,Nat.succ_le_succ hq,more_eq (KeyOrd.kle_antisymm hlarger hless) he⟩
   ·intro K hK
    refine tupl3 fun r m neq st₂ hF=>?_
    obtain ⟨er,c₂,hm1,hm2,ni₂,hq,he⟩:=hF
    replace er:r=none:=er
    replace hm1:n+1<=m:=hm1
    replace hm2:m<=nrem:=hm2
    replace hq:neq+1<=m:=hq
    replace he:∀ i,lo+m - (neq+1)<=i->i < lo+m->kAt κ (arrOf st₂) i=kAt κ (arrOf st₂) (lo+m - 1):=he
    replace ni₂:NInc κ (arrOf st₂) lo (lo+m):=ni₂
    subst er
    subst hK
    dsimp only
    have S₂:=c₂.sst S
    have hlm:=Nat.add_le_add_left hm2 lo
    have hsz₂:lo+m<=(arrOf st₂).size:=by rw [S₂.size]; exact Nat.le_trans hlm hlo
    apply share (prog:=prog) (w:=w) (A:=A) (E:=E) (s:=s) (Q:=Q) (fun st₃=>ChS st' st₃ lo (lo+nrem)/\NInc κ (arrOf st₃) lo (lo+m))
    case h1=>
     intro hd
     refine iteP (fun hneq=>?_) fun hneq=>hd _ ⟨c₂,ni₂⟩
     refine wpS_bind (wpS_rev (hd _ ⟨c₂.trans (.reverse hsz₂ (by exact lin (Nat.add_le_add (sbA (lo+m) (neq+1)) hq) (by simp +arith)) hlm),fun i j h1 h2 h3=>?_⟩))
     show κ.O.kle (kAt κ (mirror (arrOf st₂) _ _ _) j) (kAt κ (mirror (arrOf st₂) _ _ _) i)
     rw [kAt_mirror_equal hsz₂ he,kAt_mirror_equal hsz₂ he]
     exact ni₂ i j h1 h2 h3
    case h2=>
     rintro st₃ ⟨c₃,ni₃⟩
     have hsz₃:lo+m<=(arrOf st₃).size:=by rw [(c₃.sst S).size]; exact Nat.le_trans hlm hlo
     have c₄:=c₃.trans (.reverse (lo:=lo) (hi:=lo+nrem) hsz₃ (Nat.le_refl _) hlm)
     refine wpS_bind (wpS_rev ?_)
     have s₄:Srt κ (mirror (arrOf st₃) lo (lo+m) ((lo+m - lo) / 2)) lo (lo+m):=fun i j h1 h2 h3=>by
      rw [kAt_mirror hsz₃,kAt_mirror hsz₃,if_pos ⟨h1,Nat.lt_of_le_of_lt h2 h3⟩,if_pos ⟨Nat.le_trans h1 h2,h3⟩]
      exact ni₃ _ _ (by exact lin (Nat.add_le_add (sbA (lo+(lo+m)) (1)) (Nat.add_le_add (sbA (lo+(lo+m) - 1) (j)) h3)) (by simp +arith)) (by exact lin (Nat.add_le_add (sbE (lo+(lo+m) - 1) (j) (lin (Nat.add_le_add h3 (sbA (lo+(lo+m)) (1))) (by simp +arith))) (Nat.add_le_add (sbA (lo+(lo+m) - 1) (i)) h2)) (by simp +arith)) (by exact linL (Nat.add_le_add (sbE (lo+(lo+m) - 1) (i) (lin (Nat.add_le_add h2 (Nat.add_le_add h3 (sbA (lo+(lo+m)) (1)))) (by simp +arith))) (Nat.add_le_add (sbE (lo+(lo+m)) (1) (lin hm1 (by simp +arith))) h1)) (by simp +arith))
     generalize hst:setArr st₃ (mirror (arrOf st₃) lo (lo+m) ((lo+m - lo) / 2))=st₄ at c₄ ⊢
     have hst':arrOf st₄=mirror (arrOf st₃) lo (lo+m) ((lo+m - lo) / 2):=by rw [<- hst]
     rw [<- hst'] at s₄
     have S₄:=c₄.sst S
     have hm0:=Nat.le_trans (Nat.le_add_left 1 n) hm1
     refine forA hm2 (fun x (c:Option (Option Nat)×Nat) st₅=>CnI κ st₄ lo x c.1 c.2 st₅) (fun (c:Option (Option Nat)×Nat) st₅=>CnF κ st₄ lo nrem c.1 c.2 st₅) ?_ (fun c st' oo=>by obtain ⟨e,er,en,hs⟩:=oo; exact ⟨e,er,en ▸ h1,Nat.le_of_eq en,en ▸ hs,fun q=>absurd en (Nat.ne_of_lt q)⟩) ⟨rfl,rfl,rfl,s₄⟩ ?_
     ·intro F hF x hx1 hx2
      refine tupl2 fun r k st₅ hI=>?_
      obtain ⟨e,er,en,hs⟩:=hI
      replace e:st₅=st₄:=e
      replace en:k=x:=en
      subst e en
      have hk1:=Nat.le_trans hm0 hx1
      subst hF
      refine wpS_bind (wpS_ltG S₄ h0 (in_l hlo hx2) (in_p hlo hx2) ?_)
      dsimp only
      cases hless:κ.O.blt (kAt κ (arrOf st₅) (lo+k)) (kAt κ (arrOf st₅) (lo+k - 1)) with
      | true=>exact wpS_pure ⟨rfl,rfl,hk1,Nat.le_of_lt hx2,hs,fun _=>hless⟩
      | false=>exact wpS_pure ⟨rfl,rfl,rfl,hs.grow (lt_l hk1) hless⟩
     ·intro K hK
      refine tupl2 fun r k st₅ hF=>?_
      obtain ⟨e,er,hk1,hk2,hs,_⟩:=hF
      replace e:st₅=st₄:=e
      replace er:r=none:=er
      subst e er
      subst hK
      exact wpS_pure (h k _ c₄ hk1 hk2 hs)
end
end Mine
end
section
namespace Mine
noncomputable def KOrd.le {A:Around} {s:Shared} (κ:KOrd A s) (p q:Keyed):Prop:=κ.O.kle (κ.k p) (κ.k q)
noncomputable def KOrd.Sd {A:Around} {s:Shared} (κ:KOrd A s) (l:List Keyed):Prop:=l.Pairwise κ.le
structure MI {A:Around} {s:Shared} (κ:KOrd A s) (l₀ out ra rb:List Keyed):Prop where
 perm:(out++(ra++rb)).Perm l₀
 so:κ.Sd out
 sa:κ.Sd ra
 sb:κ.Sd rb
 oa:∀ p∈out,∀ q∈ra,κ.le p q
 ob:∀ p∈out,∀ q∈rb,κ.le p q
variable {A:Around} {s:Shared} {κ:KOrd A s} {l₀ out u ra rb:List Keyed}
theorem KOrd.Sd.app {l m:List Keyed} (h1:κ.Sd l) (h2:κ.Sd m) (h3:∀ p∈l,∀ q∈m,κ.le p q):κ.Sd (l++m):=List.pairwise_append.mpr ⟨h1,h2,h3⟩
theorem MI.takeA (h:MI κ l₀ out (u++ra) rb) (hu:∀ x∈u,∀ y∈rb,κ.le x y):MI κ l₀ (out++u) ra rb:=by
 obtain ⟨p,so,sa,sb,oa,ob⟩:=h
 obtain ⟨su,sr,ur⟩:=List.pairwise_append.mp sa
 refine ⟨by simpa using p,so.app su fun p hp q hq=>oa p hp q (List.mem_append_left _ hq),sr,sb,fun p hp q hq=>?_,fun p hp q hq=>?_⟩
 ·rcases List.mem_append.mp hp with hp | hp
  ·exact oa p hp q (List.mem_append_right _ hq)
  ·exact ur p hp q hq
 ·rcases List.mem_append.mp hp with hp | hp
  ·exact ob p hp q hq
  ·exact hu p hp q hq
theorem MI.takeB (h:MI κ l₀ out ra (u++rb)) (hu:∀ x∈u,∀ y∈ra,κ.le x y):MI κ l₀ (out++u) ra rb:=by
 obtain ⟨p,so,sa,sb,oa,ob⟩:=h
 obtain ⟨su,sr,ur⟩:=List.pairwise_append.mp sb
 refine ⟨?_,so.app su fun p hp q hq=>ob p hp q (List.mem_append_left _ hq),sa,sr,fun p hp q hq=>?_,fun p hp q hq=>?_⟩
 ·refine List.Perm.trans ?_ p
  rw [List.append_assoc,<- List.append_assoc u,<- List.append_assoc ra]
  exact List.Perm.append_left _ (List.Perm.append_right _ List.perm_append_comm)
 ·rcases List.mem_append.mp hp with hp | hp
  ·exact oa p hp q hq
  ·exact hu p hp q hq
 ·rcases List.mem_append.mp hp with hp | hp
  ·exact ob p hp q (List.mem_append_right _ hq)
  ·exact ur p hp q hq
structure MJ {A:Around} {s:Shared} (κ:KOrd A s) (l₀ ra rb out:List Keyed):Prop where
 perm:((ra++rb)++out).Perm l₀
 so:κ.Sd out
 sa:κ.Sd ra
 sb:κ.Sd rb
 oa:∀ p∈ra,∀ q∈out,κ.le p q
 ob:∀ p∈rb,∀ q∈out,κ.le p q
theorem MJ.takeB (h:MJ κ l₀ ra (rb++u) out) (hu:∀ x∈ra,∀ y∈u,κ.le x y):MJ κ l₀ ra rb (u++out):=by
 obtain ⟨p,so,sa,sb,oa,ob⟩:=h
 obtain ⟨su,sr,ur⟩:=List.pairwise_append.mp sb
 refine ⟨by simpa using p,KOrd.Sd.app sr so fun p hp q hq=>ob p (List.mem_append_right _ hp) q hq,sa,su,fun p hp q hq=>?_,fun p hp q hq=>?_⟩
 ·rcases List.mem_append.mp hq with hq | hq
  ·exact hu p hp q hq
  ·exact oa p hp q hq
 ·rcases List.mem_append.mp hq with hq | hq
  ·exact ur p hp q hq
  ·exact ob p (List.mem_append_left _ hp) q hq
theorem MJ.takeA (h:MJ κ l₀ (ra++u) rb out) (hu:∀ x∈rb,∀ y∈u,κ.le x y):MJ κ l₀ ra rb (u++out):=by
 obtain ⟨p,so,sa,sb,oa,ob⟩:=h
 obtain ⟨su,sr,ur⟩:=List.pairwise_append.mp sa
 refine ⟨?_,KOrd.Sd.app sr so fun p hp q hq=>oa p (List.mem_append_right _ hp) q hq,su,sb,fun p hp q hq=>?_,fun p hp q hq=>?_⟩
 ·refine List.Perm.trans ?_ p
  rw [<- List.append_assoc,List.append_assoc ra u rb]
  refine List.Perm.append_right _ ?_
  rw [List.append_assoc]
  exact List.Perm.append_left _ List.perm_append_comm
 ·rcases List.mem_append.mp hq with hq | hq
  ·exact ur p hp q hq
  ·exact oa p (List.mem_append_left _ hp) q hq
 ·rcases List.mem_append.mp hq with hq | hq
  ·exact hu p hp q hq
  ·exact ob p hp q hq
noncomputable def Mrg {A:Around} {s:Shared} (κ:KOrd A s) (l₀:List Keyed) (r:Array Keyed):Prop:=r.toList.Perm l₀/\κ.Sd r.toList
theorem MI.end1 (h:MI κ l₀ out ra rb) (hb:rb=[]):((out++ra)++rb).Perm l₀/\κ.Sd ((out++ra)++rb):=by
 subst hb
 obtain ⟨p,so,sa,sb,oa,ob⟩:=h
 refine ⟨by simpa using p,?_⟩
 rw [List.append_nil]
 exact so.app sa oa
theorem MI.end1a (h:MI κ l₀ out ra rb) (hb:ra=[]):((out++ra)++rb).Perm l₀/\κ.Sd ((out++ra)++rb):=by
 subst hb
 obtain ⟨p,so,sa,sb,oa,ob⟩:=h
 refine ⟨by simpa using p,?_⟩
 rw [List.append_nil]
 exact so.app sb ob
theorem MI.end2 (h:MI κ l₀ out ra rb) (hb:∀ x∈rb,∀ y∈ra,κ.le x y):((out++rb)++ra).Perm l₀/\κ.Sd ((out++rb)++ra):=by
 obtain ⟨p,so,sa,sb,oa,ob⟩:=h
 refine ⟨?_,(so.app sb ob).app sa fun p hp q hq=>?_⟩
 ·rw [List.append_assoc]
  exact (List.Perm.append_left _ List.perm_append_comm).trans p
 ·rcases List.mem_append.mp hp with hp | hp
  ·exact oa p hp q hq
  ·exact hb p hp q hq
theorem MJ.end1 (h:MJ κ l₀ ra rb out) (hb:ra=[]):((ra++rb)++out).Perm l₀/\κ.Sd ((ra++rb)++out):=by
 subst hb
 obtain ⟨p,so,sa,sb,oa,ob⟩:=h
 exact ⟨p,sb.app so ob⟩
theorem MJ.end1b (h:MJ κ l₀ ra rb out) (hb:rb=[]):((ra++rb)++out).Perm l₀/\κ.Sd ((ra++rb)++out):=by
 subst hb
 obtain ⟨p,so,sa,sb,oa,ob⟩:=h
 rw [List.append_nil] at p ⊢
 exact ⟨p,sa.app so oa⟩
theorem MJ.end2 (h:MJ κ l₀ ra rb out) (hb:∀ x∈rb,∀ y∈ra,κ.le x y):((rb++ra)++out).Perm l₀/\κ.Sd ((rb++ra)++out):=by
 obtain ⟨p,so,sa,sb,oa,ob⟩:=h
 refine ⟨(List.Perm.append_right _ List.perm_append_comm).trans p,(sb.app sa hb).app so fun p hp q hq=>?_⟩
 rcases List.mem_append.mp hp with hp | hp
 ·exact ob p hp q hq
 ·exact oa p hp q hq
end Mine
end
section
namespace Mine
noncomputable def mergeLo':Array Keyed->Array Keyed->StateT SortSt Sem (Array Keyed):=sortPriv% PySem.Builtin.mergeLo
noncomputable def mergeHi':Array Keyed->Array Keyed->StateT SortSt Sem (Array Keyed):=sortPriv% PySem.Builtin.mergeHi
noncomputable def GS (st st':SortSt):Prop:=∃ g,st'=SortSt.mk' (kindOf st) (arrOf st) (pendingOf st) g (failedOf st)
theorem GS.refl (st:SortSt):GS st st:=⟨gallopOf st,rfl⟩
theorem GS.set {st st':SortSt} (h:GS st st') (g:Nat):GS st (SortSt.mk' (kindOf st') (arrOf st') (pendingOf st') g (failedOf st')):=by
 obtain ⟨g',rfl⟩:=h
 exact ⟨g,rfl⟩
theorem GS.kind {st st':SortSt} (h:GS st st'):kindOf st'=kindOf st:=by
 obtain ⟨g',rfl⟩:=h
 rfl
theorem kAt_get {A:Around} {s:Shared} {κ:KOrd A s} {xs:Array Keyed} {i:Nat} {p:Keyed} (h:xs[i]?=some p):kAt κ xs i=κ.k p:=by unfold kAt; rw [h]
theorem mem_drop {xs:Array Keyed} {i:Nat} {q:Keyed} (h:q∈xs.toList.drop i):∃ j,i<=j/\j < xs.size/\xs[j]?=some q:=by
 obtain ⟨n,hn,e⟩:=List.getElem_of_mem h
 rw [List.getElem_drop] at e
 rw [List.length_drop] at hn
 have:i+n < xs.size:=by simp at hn; exact linL (Nat.add_le_add (sbE (xs.size) (i) (lin (sbP (xs.size) (i) (lin hn (by simp +arith))) (by simp +arith))) hn) (by simp +arith)
 exact ⟨i+n,by simp +arith,this,by rw [Array.getElem?_eq_getElem this,<- e]; simp⟩
theorem mem_take {xs:Array Keyed} {i:Nat} {q:Keyed} (h:q∈xs.toList.take i):∃ j,j < i/\j < xs.size/\xs[j]?=some q:=by
 obtain ⟨n,hn,e⟩:=List.getElem_of_mem h
 rw [List.getElem_take] at e
 rw [List.length_take] at hn
 have:n < xs.size:=by simp at hn; exact Nat.lt_of_lt_of_le hn (Nat.min_le_right (i) (xs.size))
 exact ⟨n,by exact Nat.lt_of_lt_of_le hn (Nat.min_le_left (i) (xs.toList.length)),this,by rw [Array.getElem?_eq_getElem this,<- e]; simp⟩
theorem drop_cons {xs:Array Keyed} {i:Nat} {p:Keyed} (h:xs[i]?=some p):xs.toList.drop i=p::xs.toList.drop (i+1):=by
 have hi:i < xs.size:=(Array.getElem?_eq_some_iff.mp h).1
 rw [List.drop_eq_getElem_cons (by simpa using hi)]
 congr 1
 have:=(Array.getElem?_eq_some_iff.mp h).2
 simpa using this
theorem drop_split {xs:Array Keyed} {i k:Nat}:xs.toList.drop i=(xs.extract i (i+k)).toList++xs.toList.drop (i+k):=by
 have:(xs.extract i (i+k)).toList=(xs.toList.drop i).take k:=by
  rw [Array.toList_extract,List.extract_eq_take_drop,show i+k - i=k by exact linE (sbE (i+k) (i) (by simp +arith)) (by simp +arith only) (sbA (i+k) (i)) (by simp +arith only)]
 rw [this,<- List.drop_drop,List.take_append_drop]
theorem take_split {xs:Array Keyed} {i n:Nat} (h:i<=n):xs.toList.take n=xs.toList.take i++(xs.extract i n).toList:=by
 rw [Array.toList_extract,List.extract_eq_take_drop]
 rw [<- List.drop_take]
 have:=List.take_append_drop i (xs.toList.take n)
 rw [List.take_take,Nat.min_eq_left h] at this
 exact this.symm
theorem mem_extract {xs:Array Keyed} {i n:Nat} {q:Keyed} (h:q∈(xs.extract i n).toList):∃ j,i<=j/\j < n/\j < xs.size/\xs[j]?=some q:=by
 rw [Array.toList_extract,List.extract_eq_take_drop] at h
 obtain ⟨m,hm,e⟩:=List.getElem_of_mem h
 rw [List.getElem_take,List.getElem_drop] at e
 rw [List.length_take,List.length_drop] at hm
 have hx:xs.toList.length=xs.size:=by simp
 have:i+m < xs.size:=by exact linL (Nat.add_le_add (sbE (xs.toList.length) (i) (lin (sbP (xs.toList.length) (i) (lin (Nat.add_le_add hm (Nat.min_le_right (n - i) (xs.toList.length - i))) (by simp +arith))) (by simp +arith))) (Nat.add_le_add hm (Nat.add_le_add (Nat.min_le_right (n - i) (xs.toList.length - i)) (Nat.le_of_eq hx)))) (by simp +arith)
 exact ⟨i+m,by simp +arith,by exact linL (Nat.add_le_add (sbE (n) (i) (lin (sbP (n) (i) (lin (Nat.add_le_add hm (Nat.min_le_left (n - i) (xs.toList.length - i))) (by simp +arith))) (by simp +arith))) (Nat.add_le_add hm (Nat.min_le_left (n - i) (xs.toList.length - i)))) (by simp +arith),this,by rw [Array.getElem?_eq_getElem this,<- e]; simp⟩
theorem sd_of {A:Around} {s:Shared} {κ:KOrd A s} {xs:Array Keyed} (h:Srt κ xs 0 xs.size):κ.Sd xs.toList:=by
 refine List.pairwise_iff_getElem.mpr fun i j hi hj hij=>?_
 have hi':i < xs.size:=by simpa using hi
 have hj':j < xs.size:=by simpa using hj
 have:=h i j (Nat.zero_le _) (Nat.le_of_lt hij) hj'
 rw [kAt_get (Array.getElem?_eq_getElem hi'),kAt_get (Array.getElem?_eq_getElem hj')] at this
 simpa [KOrd.le] using this
section
variable {prog:Program} {w:World} {A:Around} {E:Value->Shared->Prop} {s:Shared} {κ:KOrd A s}
theorem wpS_elem {st:SortSt} {arr:Array Keyed} {i:Nat} {Q:Keyed->SortSt->Prop} (hi:i < arr.size) (h:∀ p,arr[i]?=some p->Q p st):wpS (model prog w) A E s (elem' arr i) Q st:=by
 have e:arr[i]?=some arr[i]:=Array.getElem?_eq_getElem hi
 rw [elem'_eq,e]
 exact wpS_pure (h _ e)
theorem beyond_at {left:Bool} {key:Keyed} {arr:Array Keyed} {i:Nat} (hi:i < arr.size):beyond κ left key arr i=if left then κ.O.blt (kAt κ arr i) (κ.k key) else !κ.O.blt (κ.k key) (kAt κ arr i):=by
 unfold beyond kAt
 rw [Array.getElem?_eq_getElem hi]
theorem wpS_gallopR {st:SortSt} {key:Keyed} {arr:Array Keyed} {base n hint:Nat} {Q:Option Nat->SortSt->Prop} (hk:kindOf st=κ.kd) (hkey:κ.Has key) (harr:∀ p∈arr.toList,κ.Has p) (hb:base+n<=arr.size) (hh:hint < n)
  (hs:Srt κ arr base (base+n)) (h:∀ k,k<=n->(∀ i,i < k->κ.O.kle (kAt κ arr (base+i)) (κ.k key))->(∀ i,k<=i->i < n->κ.O.klt (κ.k key) (kAt κ arr (base+i)))->Q (some k) st) :
  wpS (model prog w) A E s (gallop' false key arr base n hint) Q st:=by
 refine wpS_gallop hk hkey harr hb hh (fun i j hij hj hq=>?_) fun k hk h1 h2=>h k hk (fun i hi=>?_) fun i hi hn=>?_
 ·rw [beyond_at (by omega)] at hq ⊢
  simp only [Bool.false_eq_true,if_false,Bool.not_eq_true'] at hq ⊢
  exact KeyOrd.kle_trans (hs (base+i) (base+j) (by simp +arith) (by exact lin hij (by simp +arith)) (by exact linL hj (by simp +arith))) hq
 ·have:=h1 i hi
  rw [beyond_at (by exact linL (Nat.add_le_add hb (Nat.add_le_add hi hk)) (by simp +arith))] at this
  simp only [KeyOrd.klt,KeyOrd.kle]
  simpa using this
 ·have:=h2 i hi hn
  rw [beyond_at (by omega)] at this
  simp only [KeyOrd.klt,KeyOrd.kle]
  simpa using this
theorem wpS_gallopL {st:SortSt} {key:Keyed} {arr:Array Keyed} {base n hint:Nat} {Q:Option Nat->SortSt->Prop} (hk:kindOf st=κ.kd) (hkey:κ.Has key) (harr:∀ p∈arr.toList,κ.Has p) (hb:base+n<=arr.size) (hh:hint < n)
  (hs:Srt κ arr base (base+n)) (h:∀ k,k<=n->(∀ i,i < k->κ.O.klt (kAt κ arr (base+i)) (κ.k key))->(∀ i,k<=i->i < n->κ.O.kle (κ.k key) (kAt κ arr (base+i)))->Q (some k) st) :
  wpS (model prog w) A E s (gallop' true key arr base n hint) Q st:=by
 refine wpS_gallop hk hkey harr hb hh (fun i j hij hj hq=>?_) fun k hk h1 h2=>h k hk (fun i hi=>?_) fun i hi hn=>?_
 ·rw [beyond_at (by omega)] at hq ⊢
  simp only [if_true] at hq ⊢
  exact KeyOrd.klt_of_kle_of_klt (hs (base+i) (base+j) (by simp +arith) (by exact lin hij (by simp +arith)) (by exact linL hj (by simp +arith))) hq
 ·have:=h1 i hi
  rw [beyond_at (by exact linL (Nat.add_le_add hb (Nat.add_le_add hi hk)) (by simp +arith))] at this
  simp only [KeyOrd.klt,KeyOrd.kle]
  simpa using this
 ·have:=h2 i hi hn
  rw [beyond_at (by omega)] at this
  simp only [KeyOrd.klt,KeyOrd.kle]
  simpa using this
end
noncomputable def MIA {A:Around} {s:Shared} (κ:KOrd A s) (a b out:Array Keyed) (ia ib:Nat):Prop:=MI κ (a.toList++b.toList) out.toList (a.toList.drop ia) (b.toList.drop ib)
variable {A:Around} {s:Shared} {κ:KOrd A s} {a b out:Array Keyed} {ia ib na nb:Nat}
theorem MIA.init (sa:Srt κ a 0 a.size) (sb:Srt κ b 0 b.size):MIA κ a b #[] 0 0:=
 ⟨by simp,.nil,by simpa using sd_of sa,by simpa using sd_of sb,fun _ h=>by simp at h,fun _ h=>by simp at h⟩
theorem MIA.extA (h:MIA κ a b out ia ib) (k:Nat) (sb:Srt κ b 0 b.size) (hc:∀ i,i < k->ia+i < a.size->κ.O.kle (kAt κ a (ia+i)) (kAt κ b ib)):MIA κ a b (out++a.extract ia (ia+k)) (ia+k) ib:=by
 unfold MIA at h ⊢
 rw [drop_split (xs:=a) (i:=ia) (k:=k)] at h
 rw [Array.toList_append]
 refine h.takeA fun x hx y hy=>?_
 obtain ⟨j,h1,h2,h3,e⟩:=mem_extract hx
 obtain ⟨j',h1',h2',e'⟩:=mem_drop hy
 have c1:=hc (j - ia) (by exact linL (Nat.add_le_add (sbE (j) (ia) (lin h1 (by simp +arith))) h2) (by simp +arith)) (by exact linL (Nat.add_le_add (sbE (j) (ia) (lin h1 (by simp +arith))) h3) (by simp +arith))
 rw [show ia+(j - ia)=j by exact linE (sbE (j) (ia) (lin h1 (by simp +arith))) (by simp +arith) (sbA (j) (ia)) (by simp +arith),kAt_get e] at c1
 have c2:=sb ib j' (Nat.zero_le _) h1' h2'
 rw [kAt_get e'] at c2
 exact KeyOrd.kle_trans c1 c2
theorem MIA.extB (h:MIA κ a b out ia ib) (k:Nat) (sa:Srt κ a 0 a.size) (hc:∀ i,i < k->ib+i < b.size->κ.O.kle (kAt κ b (ib+i)) (kAt κ a ia)):MIA κ a b (out++b.extract ib (ib+k)) ia (ib+k):=by
 unfold MIA at h ⊢
 rw [drop_split (xs:=b) (i:=ib) (k:=k)] at h
 rw [Array.toList_append]
 refine h.takeB fun x hx y hy=>?_
 obtain ⟨j,h1,h2,h3,e⟩:=mem_extract hx
 obtain ⟨j',h1',h2',e'⟩:=mem_drop hy
 have c1:=hc (j - ib) (by exact linL (Nat.add_le_add (sbE (j) (ib) (lin h1 (by simp +arith))) h2) (by simp +arith)) (by exact linL (Nat.add_le_add (sbE (j) (ib) (lin h1 (by simp +arith))) h3) (by simp +arith))
 rw [show ib+(j - ib)=j by exact linE (sbE (j) (ib) (lin h1 (by simp +arith))) (by simp +arith) (sbA (j) (ib)) (by simp +arith),kAt_get e] at c1
 have c2:=sa ia j' (Nat.zero_le _) h1' h2'
 rw [kAt_get e'] at c2
 exact KeyOrd.kle_trans c1 c2
theorem push_ext {xs:Array Keyed} {i:Nat} {p:Keyed} (h:xs[i]?=some p):out.push p=out++xs.extract i (i+1):=by
 have hi:i < xs.size:=(Array.getElem?_eq_some_iff.mp h).1
 have hp:=(Array.getElem?_eq_some_iff.mp h).2
 apply Array.toList_inj.mp
 rw [Array.toList_push,Array.toList_append,Array.toList_extract,List.extract_eq_take_drop,show i+1 - i=1 by exact linE (sbE (i+1) (i) (by simp +arith)) (by simp +arith only) (sbA (i+1) (i)) (by simp +arith only),drop_cons h]
 rfl
theorem MIA.pushA {p:Keyed} (h:MIA κ a b out ia ib) (sb:Srt κ b 0 b.size) (hp:a[ia]?=some p) (hc:κ.O.kle (kAt κ a ia) (kAt κ b ib)):MIA κ a b (out.push p) (ia+1) ib:=by
 rw [push_ext hp]
 exact h.extA 1 sb fun i hi _=>by rw [show ia+i=ia by exact linE hi (by simp +arith) (Nat.le_refl 0) (by simp +arith)]; exact hc
theorem MIA.pushB {p:Keyed} (h:MIA κ a b out ia ib) (sa:Srt κ a 0 a.size) (hp:b[ib]?=some p) (hc:κ.O.kle (kAt κ b ib) (kAt κ a ia)):MIA κ a b (out.push p) ia (ib+1):=by
 rw [push_ext hp]
 exact h.extB 1 sa fun i hi _=>by rw [show ib+i=ib by exact linE hi (by simp +arith) (Nat.le_refl 0) (by simp +arith)]; exact hc
theorem drop_all {xs:Array Keyed} {i:Nat} (h:xs.size<=i):xs.toList.drop i=[]:=List.drop_eq_nil_of_le (by simpa using h)
theorem ext_end {xs:Array Keyed} {i:Nat}:(xs.extract i xs.size).toList=xs.toList.drop i:=by
 rw [Array.toList_extract,List.extract_eq_take_drop,List.take_of_length_le]
 rw [List.length_drop]; simp
theorem MIA.done (h:MIA κ a b out ia ib) (hx:ib=b.size\/ia=a.size):Mrg κ (a.toList++b.toList) (out++a.extract ia a.size++b.extract ib b.size):=by
 unfold Mrg
 rw [Array.toList_append,Array.toList_append,ext_end,ext_end]
 rcases hx with rfl | rfl
 ·exact MI.end1 h (drop_all (Nat.le_refl _))
 ·exact MI.end1a h (drop_all (Nat.le_refl _))
theorem MIA.last (h:MIA κ a b out ia ib) (hx:ia+1=a.size) (hl:∀ j,j < b.size->κ.O.kle (kAt κ b j) (kAt κ a (a.size - 1))):Mrg κ (a.toList++b.toList) (out++b.extract ib b.size++a.extract ia a.size):=by
 unfold Mrg
 rw [Array.toList_append,Array.toList_append,ext_end,ext_end]
 refine MI.end2 h fun x hx' y hy=>?_
 obtain ⟨j,h1,h2,e⟩:=mem_drop hx'
 obtain ⟨j',h1',h2',e'⟩:=mem_drop hy
 have:=hl j h2
 rw [show a.size - 1=j' by exact linE (Nat.add_le_add (sbE (a.size) (1) (lin (Nat.le_of_eq hx) (by simp +arith))) (Nat.add_le_add (Nat.le_of_eq hx.symm) h1')) (by simp +arith) (Nat.add_le_add h2' (sbA (a.size) (1))) (by simp +arith),kAt_get e,kAt_get e'] at this
 exact this
noncomputable def MJA {A:Around} {s:Shared} (κ:KOrd A s) (a b out:Array Keyed) (na nb:Nat):Prop:=MJ κ (a.toList++b.toList) (a.toList.take na) (b.toList.take nb) out.toList.reverse
theorem MJA.init (sa:Srt κ a 0 a.size) (sb:Srt κ b 0 b.size):MJA κ a b #[] a.size b.size:=by
 have ea:a.toList.take a.size=a.toList:=List.take_of_length_le (by simp)
 have eb:b.toList.take b.size=b.toList:=List.take_of_length_le (by simp)
 unfold MJA
 rw [ea,eb]
 exact ⟨by simp,.nil,sd_of sa,sd_of sb,fun _ _ _ h=>by simp at h,fun _ _ _ h=>by simp at h⟩
theorem MJA.extA {n:Nat} (h:MJA κ a b out na nb) (hn:n<=na) (sb:Srt κ b 0 b.size) (hnb:1<=nb) (hnb':nb<=b.size) (hc:∀ i,n<=i->i < na->i < a.size->κ.O.kle (kAt κ b (nb - 1)) (kAt κ a i)):MJA κ a b (out++(a.extract n na).reverse) n nb:=by
 unfold MJA at h ⊢
 rw [take_split hn] at h
 rw [Array.toList_append,List.reverse_append,Array.toList_reverse,List.reverse_reverse]
 refine h.takeA fun x hx y hy=>?_
 obtain ⟨j,h1,h2,h3,e⟩:=mem_extract hy
 obtain ⟨j',h1',h2',e'⟩:=mem_take hx
 have c1:=hc j h1 h2 h3
 rw [kAt_get e] at c1
 have c2:=sb j' (nb - 1) (Nat.zero_le _) (by exact lin (Nat.add_le_add h1' (sbA (nb) (1))) (by simp +arith)) (by exact Nat.lt_of_lt_of_le (sbE (nb) (1) (lin hnb (by simp +arith))) hnb')
 rw [kAt_get e'] at c2
 exact KeyOrd.kle_trans c2 c1
theorem MJA.extB {n:Nat} (h:MJA κ a b out na nb) (hn:n<=nb) (sa:Srt κ a 0 a.size) (hna:1<=na) (hna':na<=a.size) (hc:∀ i,n<=i->i < nb->i < b.size->κ.O.kle (kAt κ a (na - 1)) (kAt κ b i)):MJA κ a b (out++(b.extract n nb).reverse) na n:=by
 unfold MJA at h ⊢
 rw [take_split hn] at h
 rw [Array.toList_append,List.reverse_append,Array.toList_reverse,List.reverse_reverse]
 refine h.takeB fun x hx y hy=>?_
 obtain ⟨j,h1,h2,h3,e⟩:=mem_extract hy
 obtain ⟨j',h1',h2',e'⟩:=mem_take hx
 have c1:=hc j h1 h2 h3
 rw [kAt_get e] at c1
 have c2:=sa j' (na - 1) (Nat.zero_le _) (by exact lin (Nat.add_le_add h1' (sbA (na) (1))) (by simp +arith)) (by exact Nat.lt_of_lt_of_le (sbE (na) (1) (lin hna (by simp +arith))) hna')
 rw [kAt_get e'] at c2
 exact KeyOrd.kle_trans c2 c1
theorem push_extR {xs:Array Keyed} {i:Nat} {p:Keyed} (h:xs[i]?=some p):out.push p=out++(xs.extract i (i+1)).reverse:=by
 have hi:i < xs.size:=(Array.getElem?_eq_some_iff.mp h).1
 apply Array.toList_inj.mp
 rw [Array.toList_push,Array.toList_append,Array.toList_reverse,Array.toList_extract,List.extract_eq_take_drop,show i+1 - i=1 by simp +arith,drop_cons h]
 rfl
theorem MJA.pushA {p:Keyed} (h:MJA κ a b out (na+1) nb) (sb:Srt κ b 0 b.size) (hnb:1<=nb) (hnb':nb<=b.size) (hp:a[na]?=some p) (hc:κ.O.kle (kAt κ b (nb - 1)) (kAt κ a na)):MJA κ a b (out.push p) na nb:=by
 rw [push_extR hp]
 exact h.extA (Nat.le_succ _) sb hnb hnb' fun i h1 h2 _=>by rw [show i=na by exact linE h2 (by simp +arith) h1 (by simp +arith)]; exact hc
theorem MJA.pushB {p:Keyed} (h:MJA κ a b out na (nb+1)) (sa:Srt κ a 0 a.size) (hna:1<=na) (hna':na<=a.size) (hp:b[nb]?=some p) (hc:κ.O.kle (kAt κ a (na - 1)) (kAt κ b nb)):MJA κ a b (out.push p) na nb:=by
 rw [push_extR hp]
 exact h.extB (Nat.le_succ _) sa hna hna' fun i h1 h2 _=>by rw [show i=nb by exact linE h2 (by simp +arith) h1 (by simp +arith)]; exact hc
theorem ext_front {xs:Array Keyed} {n:Nat}:(xs.extract 0 n).toList=xs.toList.take n:=by
 rw [Array.toList_extract,List.extract_eq_take_drop]; rfl
theorem MJA.done (h:MJA κ a b out na nb) (hx:na=0\/nb=0):Mrg κ (a.toList++b.toList) (a.extract 0 na++b.extract 0 nb++out.reverse):=by
 unfold Mrg
 rw [Array.toList_append,Array.toList_append,ext_front,ext_front,Array.toList_reverse]
 rcases hx with rfl | rfl
 ·exact MJ.end1 h (by simp)
 ·exact MJ.end1b h (by simp)
theorem MJA.first (h:MJA κ a b out na nb) (hx:nb=1) (hl:∀ j,j < a.size->κ.O.kle (kAt κ b 0) (kAt κ a j)):Mrg κ (a.toList++b.toList) (b.extract 0 nb++a.extract 0 na++out.reverse):=by
 unfold Mrg
 rw [Array.toList_append,Array.toList_append,ext_front,ext_front,Array.toList_reverse]
 refine MJ.end2 h fun x hx' y hy=>?_
 obtain ⟨j,h1,h2,e⟩:=mem_take hx'
 obtain ⟨j',h1',h2',e'⟩:=mem_take hy
 have:=hl j' h2'
 rw [show 0=j by exact linE (Nat.le_refl 0) (by simp +arith) (Nat.add_le_add h1 (Nat.le_of_eq hx)) (by simp +arith),kAt_get e,kAt_get e'] at this
 exact this
end Mine
end
section
namespace Mine
section
variable {prog:Program} {w:World} {A:Around} {E:Value->Shared->Prop} {s:Shared} {κ:KOrd A s} {β:Type} {Q:β->SortSt->Prop} {st:SortSt}
theorem elemB {arr:Array Keyed} {i:Nat} {f:Keyed->StateT SortSt Sem β} (hi:i < arr.size) (h:∀ p,arr[i]?=some p->wpS (model prog w) A E s (f p) Q st):wpS (model prog w) A E s (elem' arr i >>= f) Q st:=wpS_bind (wpS_elem hi h)
theorem ltB {x y:Keyed} {f:Option Bool->StateT SortSt Sem β} (hk:kindOf st=κ.kd) (hx:κ.Has x) (hy:κ.Has y) (h:wpS (model prog w) A E s (f (some (κ.O.blt (κ.k x) (κ.k y)))) Q st):wpS (model prog w) A E s (lt' x y >>= f) Q st:=wpS_bind (wpS_lt1 hk hx hy h)
theorem galRB {key:Keyed} {arr:Array Keyed} {base n hint:Nat} {f:Option Nat->StateT SortSt Sem β} (hk:kindOf st=κ.kd) (hkey:κ.Has key) (harr:∀ p∈arr.toList,κ.Has p) (hb:base+n<=arr.size) (hh:hint < n)
  (hs:Srt κ arr base (base+n)) (h:∀ k,k<=n->(∀ i,i < k->κ.O.kle (kAt κ arr (base+i)) (κ.k key))->(∀ i,k<=i->i < n->κ.O.klt (κ.k key) (kAt κ arr (base+i)))->wpS (model prog w) A E s (f (some k)) Q st) :
  wpS (model prog w) A E s (gallop' false key arr base n hint >>= f) Q st:=wpS_bind (wpS_gallopR hk hkey harr hb hh hs h)
theorem galLB {key:Keyed} {arr:Array Keyed} {base n hint:Nat} {f:Option Nat->StateT SortSt Sem β} (hk:kindOf st=κ.kd) (hkey:κ.Has key) (harr:∀ p∈arr.toList,κ.Has p) (hb:base+n<=arr.size) (hh:hint < n)
  (hs:Srt κ arr base (base+n)) (h:∀ k,k<=n->(∀ i,i < k->κ.O.klt (kAt κ arr (base+i)) (κ.k key))->(∀ i,k<=i->i < n->κ.O.kle (κ.k key) (kAt κ arr (base+i)))->wpS (model prog w) A E s (f (some k)) Q st) :
  wpS (model prog w) A E s (gallop' true key arr base n hint >>= f) Q st:=wpS_bind (wpS_gallopL hk hkey harr hb hh hs h)
theorem has_get {a:Array Keyed} (ha:∀ p∈a.toList,κ.Has p) {i:Nat} {p:Keyed} (h:a[i]?=some p):κ.Has p:=by
 have hi:=(Array.getElem?_eq_some_iff.mp h).1
 have hp:=(Array.getElem?_eq_some_iff.mp h).2
 exact ha p (by rw [<- hp]; simp)
theorem cmpB {x y:Array Keyed} {i j:Nat} {f:Option Bool->StateT SortSt Sem β} (hk:kindOf st=κ.kd) (hx:∀ p∈x.toList,κ.Has p) (hy:∀ p∈y.toList,κ.Has p) (hi:i < x.size) (hj:j < y.size)
  (h1:κ.O.klt (kAt κ x i) (kAt κ y j)->wpS (model prog w) A E s (f (some true)) Q st) (h2:κ.O.kle (kAt κ y j) (kAt κ x i)->wpS (model prog w) A E s (f (some false)) Q st) :
  wpS (model prog w) A E s (elem' x i >>= fun p=>elem' y j >>= fun q=>lt' p q >>= f) Q st:=by
 refine elemB hi fun p hp=>elemB hj fun q hq=>ltB (κ:=κ) hk (has_get hx hp) (has_get hy hq) ?_
 rw [<- kAt_get hp,<- kAt_get hq]
 cases hless:κ.O.blt (kAt κ x i) (kAt κ y j) with
 | true=>exact h1 hless
 | false=>exact h2 hless
theorem eGalR {x arr:Array Keyed} {i base n hint:Nat} {g:SortSt->SortSt} {f:Option Nat->StateT SortSt Sem β} (hk:kindOf (g st)=κ.kd) (hx:∀ p∈x.toList,κ.Has p) (hi:i < x.size) (harr:∀ p∈arr.toList,κ.Has p) (hb:base+n<=arr.size) (hh:hint < n)
  (hs:Srt κ arr base (base+n)) (h:∀ k,k<=n->(∀ t,t < k->κ.O.kle (kAt κ arr (base+t)) (kAt κ x i))->(∀ t,k<=t->t < n->κ.O.klt (kAt κ x i) (kAt κ arr (base+t)))->wpS (model prog w) A E s (f (some k)) Q (g st)) :
  wpS (model prog w) A E s ((modify g:StateT SortSt Sem PUnit) >>= fun _=>elem' x i >>= fun key=>gallop' false key arr base n hint >>= f) Q st:=
 modB (elemB hi fun p hp=>galRB hk (has_get hx hp) harr hb hh hs fun k a b c=>h k a (by rw [kAt_get hp]; exact b) (by rw [kAt_get hp]; exact c))
theorem eGalL {x arr:Array Keyed} {i base n hint:Nat} {f:Option Nat->StateT SortSt Sem β} (hk:kindOf st=κ.kd) (hx:∀ p∈x.toList,κ.Has p) (hi:i < x.size) (harr:∀ p∈arr.toList,κ.Has p) (hb:base+n<=arr.size) (hh:hint < n)
  (hs:Srt κ arr base (base+n)) (h:∀ k,k<=n->(∀ t,t < k->κ.O.klt (kAt κ arr (base+t)) (kAt κ x i))->(∀ t,k<=t->t < n->κ.O.kle (kAt κ x i) (kAt κ arr (base+t)))->wpS (model prog w) A E s (f (some k)) Q st) :
  wpS (model prog w) A E s (elem' x i >>= fun key=>gallop' true key arr base n hint >>= f) Q st:=
 elemB hi fun p hp=>galLB hk (has_get hx hp) harr hb hh hs fun k a b c=>h k a (by rw [kAt_get hp]; exact b) (by rw [kAt_get hp]; exact c)
theorem mgPre {nm:String} {arr:Array Keyed} {i i1 j1 i2 j2:Nat} {t1 t2:Keyed->StateT SortSt Sem β} {f:Keyed->SortSt->StateT SortSt Sem β} (hi:i < arr.size)
  (h1:∀ p,arr[i]?=some p->i1=j1->wpS (model prog w) A E s (t1 p) Q st) (h2:∀ p,arr[i]?=some p->i2=j2->wpS (model prog w) A E s (t2 p) Q st) (h3:∀ p,arr[i]?=some p->i1≠j1->i2≠j2->wpS (model prog w) A E s (f p st) Q st) :
  wpS (model prog w) A E s ((monadLift (rule nm):StateT SortSt Sem Unit) >>= fun _=>elem' arr i >>= fun p=>if (i1==j1)=true then t1 p else if (i2==j2)=true then t2 p else (get:StateT SortSt Sem SortSt) >>= f p) Q st:=
 liftB (wpAny_rule ⟨rfl,elemB hi fun p hp=>iteB (h1 p hp) fun a=>iteB (h2 p hp) fun b=>getB (h3 p hp a b)⟩)
end
section
variable {prog:Program} {w:World} {A:Around} {E:Value->Shared->Prop} {s:Shared} {κ:KOrd A s}
theorem Srt.sub {xs:Array Keyed} {lo hi i j:Nat} (h:Srt κ xs lo hi) (h1:lo<=i) (h2:j<=hi):Srt κ xs i j:=fun x y a b c=>h x y (Nat.le_trans h1 a) b (Nat.lt_of_lt_of_le c h2)
inductive LoI (κ:KOrd A s) (st:SortSt) (a b:Array Keyed) (m:Nat) (r:Option (Array Keyed)) (out:Array Keyed) (ia ib:Nat) (st':SortSt):Prop where
 | mk (G:GS st st') (e:r=none) (M:MIA κ a b out ia ib) (h1:ia+1 < a.size) (h2:ib < b.size) (h3:m<=ia+ib)
inductive MgF (κ:KOrd A s) (st:SortSt) (a b:Array Keyed) (r:Option (Array Keyed)) (st':SortSt):Prop where
 | mk (G:GS st st') (r':Array Keyed) (e:r=some r') (hm:Mrg κ (a.toList++b.toList) r')
inductive LoO (κ:KOrd A s) (st:SortSt) (a b:Array Keyed) (m:Nat) (r:Option (Array Keyed)) (out:Array Keyed) (ia ib:Nat) (st':SortSt):Prop where
 | fin (h:MgF κ st a b r st')
 | go (h:LoI κ st a b m r out ia ib st')
theorem LoI.not {st:SortSt} {a b:Array Keyed} {m:Nat} {r:Option (Array Keyed)} {out:Array Keyed} {ia ib:Nat} {st':SortSt} {P:Prop} (h:LoI κ st a b m r out ia ib st') (hm:a.size+b.size<=m):P:=
 let ⟨_,_,_,h1,h2,h3⟩:=h
 absurd (Nat.le_trans hm h3) (Nat.not_le_of_lt (Nat.add_lt_add (Nat.lt_of_succ_lt h1) h2))
theorem le_sa {m i j:Nat} (h:m<=i+j):m+1<=i+1+j:=by exact lin h (by simp +arith)
theorem le_via {x n y m:Nat} (h:x<=n) (g:n+y<=m):x<=m:=Nat.le_trans h (Nat.le_trans (Nat.le_add_right _ _) g)
theorem wpS_mergeLo {st:SortSt} {a b:Array Keyed} {Q:Array Keyed->SortSt->Prop} (hk:kindOf st=κ.kd) (ha:∀ p∈a.toList,κ.Has p) (hb:∀ p∈b.toList,κ.Has p) (sa:Srt κ a 0 a.size) (sb:Srt κ b 0 b.size)
  (na:1<=a.size) (nb:1<=b.size) (hab:κ.O.kle (kAt κ b 0) (kAt κ a 0)) (hl:∀ j,j < b.size->κ.O.kle (kAt κ b j) (kAt κ a (a.size - 1)))
  (h:∀ r st',GS st st'->Mrg κ (a.toList++b.toList) r->Q r st'):wpS (model prog w) A E s (mergeLo' a b) Q st:=by
 unfold mergeLo'
 have M0:∀ {p0},b[0]?=some p0->MIA κ a b #[p0] 0 1:=fun hp0=>(MIA.init sa sb).pushB sa hp0 hab
 refine mgPre nb (fun _ hp0 hb1=>wpS_pure (h _ _ (.refl _) ((M0 hp0).done (.inl hb1)))) (fun _ hp0 ha1=>wpS_pure (h _ _ (.refl _) ((M0 hp0).last ha1 hl))) fun p0 hp0 hb1 ha1=>?_
 have big:∀ {m:Nat},a.size+b.size<=m+(a.size+b.size):=Nat.le_add_left _ _
 refine forB (fun x (c:Option (Array Keyed)×Array Keyed×Nat×Nat×Nat) st'=>LoI κ st a b x c.1 c.2.1 c.2.2.1 c.2.2.2.1 st') (fun (c:Option (Array Keyed)×Array Keyed×Nat×Nat×Nat) st'=>MgF κ st a b c.1 st') ?_ (fun c st' h=>h.not (Nat.le_refl _)) ⟨.refl _,rfl,M0 hp0,Nat.lt_of_le_of_ne na ha1,Nat.lt_of_le_of_ne nb hb1,Nat.zero_le _⟩ ?_
 ·intro F hF N x hx nY nD
  refine tupl5 fun r out ia ib mg st' hI=>?_
  replace hI:LoI κ st a b x r out ia ib st':=hI
  obtain ⟨G,e,M,h1,h2,h3⟩:=hI
  subst hF
  dsimp only
  refine forB (fun y (c:Option (Array Keyed)×Array Keyed×Nat×Nat×Nat×Nat) st'=>LoI κ st a b (ia+ib+y) c.1 c.2.1 c.2.2.1 c.2.2.2.1 st') (fun (c:Option (Array Keyed)×Array Keyed×Nat×Nat×Nat×Nat) st'=>LoO κ st a b (x+1) c.1 c.2.1 c.2.2.1 c.2.2.2.1 st') ?_ (fun c st' h=>h.not big) ⟨G,rfl,M,h1,h2,Nat.le_refl _⟩ ?_
  ·intro F hF N₂ y hy nY₂ nD₂
   refine tupl6 fun r out ia' ib' ac bc st' hI=>?_
   replace hI:LoI κ st a b (ia+ib+y) r out ia' ib' st':=hI
   obtain ⟨G,e,M,g1,g2,g3⟩:=hI
   subst hF
   dsimp only
   refine cmpB (κ:=κ) (G.kind.trans hk) hb ha g2 (Nat.lt_of_succ_lt g1) (fun hless=>?_) fun hless=>?_
   ·
    refine iteP (fun _=>elemB g2 fun p' hp'=>?_) fun hn=>absurd rfl hn
    have M':=M.pushB sa hp' (KeyOrd.kle_of_klt hless)
    refine iteB (fun e1=>wpS_pure (nD₂ (.fin ⟨G,_,rfl,M'.done (.inl e1)⟩))) fun e1=>?_
    exact iteP (fun _=>wpS_pure (nD₂ (.go ⟨G,rfl,M',g1,Nat.lt_of_le_of_ne g2 e1,Nat.succ_le_succ (le_via h3 g3)⟩))) fun _=>wpS_pure (nY₂ ⟨G,rfl,M',g1,Nat.lt_of_le_of_ne g2 e1,Nat.succ_le_succ g3⟩)
   ·
    refine iteP (fun hn=>nomatch hn) fun _=>elemB (Nat.lt_of_succ_lt g1) fun p' hp'=>?_
    have M':=M.pushA sb hp' hless
    refine iteB (fun e1=>wpS_pure (nD₂ (.fin ⟨G,_,rfl,M'.last e1 hl⟩))) fun e1=>?_
    exact iteP (fun _=>wpS_pure (nD₂ (.go ⟨G,rfl,M',Nat.lt_of_le_of_ne g1 e1,g2,le_sa (le_via h3 g3)⟩))) fun _=>wpS_pure (nY₂ ⟨G,rfl,M',Nat.lt_of_le_of_ne g1 e1,g2,le_sa g3⟩)
  ·intro K hK
   refine tupl6 fun r out ia' ib' ac bc st' hO=>?_
   replace hO:LoO κ st a b (x+1) r out ia' ib' st':=hO
   rcases hO with ⟨⟨G,r',e',hm⟩⟩ | ⟨⟨G,e',M,g1,g2,g3⟩⟩
   ·subst e'
    subst hK
    exact wpS_pure (nD ⟨G,r',rfl,hm⟩)
   ·subst e'
    subst hK
    dsimp only
    refine liftB (wpAny_rule ⟨rfl,?_⟩)
    refine forB (fun y (c:Option (Array Keyed)×Array Keyed×Nat×Nat×Nat×Nat×Nat) st'=>LoI κ st a b (ia'+ib'+y) c.1 c.2.1 c.2.2.1 c.2.2.2.1 st') (fun (c:Option (Array Keyed)×Array Keyed×Nat×Nat×Nat×Nat×Nat) st'=>LoO κ st a b (x+1) c.1 c.2.1 c.2.2.1 c.2.2.2.1 st') ?_ (fun c st' h=>h.not big) ⟨G,rfl,M,g1,g2,Nat.le_refl _⟩ ?_
    ·intro F hF N₂ y hy nY₂ nD₂
     refine tupl7 fun r out i0 j0 mg' ac bc st' hI=>?_
     replace hI:LoI κ st a b (ia'+ib'+y) r out i0 j0 st':=hI
     obtain ⟨G,e,M,f1,f2,f3⟩:=hI
     have fx:=le_via g3 f3
     subst hF
     dsimp only
     apply share1 (prog:=prog) (w:=w) (A:=A) (E:=E) (s:=s) (fun (_:Nat) st₂=>GS st st₂)
     case h1=>
      intro hd
      refine iteP (fun _=>?_) fun _=>?_
      ·generalize mg' - 1=g
       exact hd g st' G
      ·exact hd mg' st' G
     case h2=>
      intro g st₂ G₂
      refine eGalR (κ:=κ) ((G₂.set g).kind.trans hk) hb f2 ha (by exact lin (sbE (a.size) (i0) (lin f1 (by simp +arith))) (by simp +arith)) (by exact linL (Nat.add_le_add f1 (sbA (a.size) (i0))) (by simp +arith only)) (sa.sub (Nat.zero_le _) (by exact lin (sbE (a.size) (i0) (lin f1 (by simp +arith))) (by simp +arith))) fun k hk1 hk2 hk3=>?_
      have G₃:=G₂.set g
      dsimp only
      have M₁:=M.extA k sb fun i hi _=>hk2 i hi
      apply share2 (prog:=prog) (w:=w) (A:=A) (E:=E) (s:=s) (fun o i st₃=>GS st st₃/\MIA κ a b o i j0/\i+1 < a.size/\i0<=i/\κ.O.klt (kAt κ b j0) (kAt κ a i))
      case h1=>
       intro hd
       refine iteP (fun hk0=>iteB (fun e1=>wpS_pure (nD₂ (.fin ⟨G₃,_,rfl,M₁.last e1 hl⟩))) fun e1=>iteB (fun e2=>wpS_pure (nD₂ (.fin ⟨G₃,_,rfl,M₁.done (.inr e2)⟩))) fun e2=>?_) fun hk0=>?_
       ·have c:=Nat.lt_of_le_of_ne (lin (Nat.add_le_add hk1 (sbE (a.size) (i0) (Nat.le_of_succ_le (Nat.le_of_succ_le f1)))) (by simp +arith)) e2
        have hc:=hk3 k (Nat.le_refl _) (by exact linL (Nat.add_le_add c (sbA (a.size) (i0))) (by simp +arith))
        replace c:=Nat.lt_of_le_of_ne c e1
        have c2:=Nat.le_add_right i0 k
        generalize ho:out++a.extract i0 (i0+k)=o
        generalize hi:i0+k=i
        exact hd o i _ (by subst ho hi; exact ⟨G₃,M₁,c,c2,hc⟩)
       ·exact hd out i0 _ ⟨G₃,M,f1,Nat.le_refl _,hk3 0 (Nat.le_of_not_gt hk0) (by exact linL (Nat.add_le_add f1 (sbA (a.size) (i0))) (by simp +arith only))⟩
      case h2=>
       rintro o i st₃ ⟨G₃,M₁,i1,i2,i3⟩
       refine elemB f2 fun p' hp'=>?_
       have M₂:=M₁.pushB sa hp' (KeyOrd.kle_of_klt i3)
       refine iteB (fun e1=>wpS_pure (nD₂ (.fin ⟨G₃,_,rfl,M₂.done (.inl e1)⟩))) fun e1=>?_
       refine eGalL (κ:=κ) (G₃.kind.trans hk) ha (Nat.lt_of_succ_lt i1) hb (by exact lin (sbE (b.size) (j0+1) (lin f2 (by simp +arith))) (by simp +arith)) (by exact linL (Nat.add_le_add (Nat.lt_of_le_of_ne (lin f2 (by simp +arith)) e1) (sbA (b.size) (j0+1))) (by simp +arith only)) (sb.sub (Nat.zero_le _) (by exact lin (sbE (b.size) (j0+1) (lin f2 (by simp +arith))) (by simp +arith))) fun k' hk1' hk2' hk3'=>?_
       dsimp only
       have M₃:=M₂.extB k' sa fun j hj _=>KeyOrd.kle_of_klt (hk2' j hj)
       generalize o.push p'=o' at M₂ M₃ ⊢
       apply share2 (prog:=prog) (w:=w) (A:=A) (E:=E) (s:=s) (fun o j st₃=>GS st st₃/\MIA κ a b o i j/\j0+1<=j/\j < b.size/\κ.O.kle (kAt κ a i) (kAt κ b j))
       case h1=>
        intro hd
        refine iteP (fun hk0=>iteB (fun e2=>wpS_pure (nD₂ (.fin ⟨G₃,_,rfl,M₃.done (.inl e2)⟩))) fun e2=>?_) fun hk0=>?_
        ·have c:=Nat.lt_of_le_of_ne (lin (Nat.add_le_add hk1' (sbE (b.size) (j0+1) f2)) (by simp +arith)) e2
         have hc:=hk3' k' (Nat.le_refl _) (by exact linL (Nat.add_le_add c (sbA (b.size) (j0+1))) (by simp +arith))
         have c2:=Nat.le_add_right (j0+1) k'
         generalize ho:o'++b.extract (j0+1) (j0+1+k')=o₂
         generalize hj:j0+1+k'=j
         exact hd o₂ j _ (by subst ho hj; exact ⟨G₃,M₃,c2,c,hc⟩)
        ·exact hd o' (j0+1) _ ⟨G₃,M₂,Nat.le_refl _,Nat.lt_of_le_of_ne f2 e1,hk3' 0 (Nat.le_of_not_gt hk0) (by exact linL (Nat.add_le_add (Nat.lt_of_le_of_ne f2 e1) (sbA (b.size) (j0+1))) (by simp +arith only))⟩
       case h2=>
        rintro o₂ j st₄ ⟨G₄,M₄,j1,j2,j3⟩
        refine elemB (Nat.lt_of_succ_lt i1) fun q' hq'=>?_
        have M₅:=M₄.pushA sb hq' j3
        refine iteB (fun e2=>wpS_pure (nD₂ (.fin ⟨G₄,_,rfl,M₅.last e2 hl⟩))) fun e2=>?_
        have fy:ia'+ib'+y<=i+j:=Nat.le_trans f3 (Nat.add_le_add i2 (Nat.le_of_succ_le j1))
        exact iteP (fun _=>wpS_pure (nD₂ (.go ⟨G₄,rfl,M₅,Nat.lt_of_le_of_ne i1 e2,j2,Nat.le_trans fx (Nat.add_le_add (Nat.le_succ_of_le i2) (Nat.le_of_succ_le j1))⟩))) fun _=>wpS_pure (nY₂ ⟨G₄,rfl,M₅,Nat.lt_of_le_of_ne i1 e2,j2,le_sa fy⟩)
    ·intro K hK
     refine tupl7 fun r out i0 j0 mg' ac bc st' hO=>?_
     replace hO:LoO κ st a b (x+1) r out i0 j0 st':=hO
     rcases hO with ⟨⟨G,r',e',hm⟩⟩ | ⟨⟨G,e',M,f1,f2,f3⟩⟩
     ·subst e'
      subst hK
      exact wpS_pure (nD ⟨G,r',rfl,hm⟩)
     ·subst e'
      subst hK
      exact modB (wpS_pure (nY ⟨G.set _,rfl,M,f1,f2,f3⟩))
 ·intro K hK
  refine tupl5 fun r out ia ib mg st' hI=>?_
  replace hI:MgF κ st a b r st':=hI
  obtain ⟨G,r',e',hm⟩:=hI
  subst e'
  subst hK
  exact wpS_pure (h r' st' G hm)
end
end Mine
end
section
namespace Mine
section
variable {prog:Program} {w:World} {A:Around} {E:Value->Shared->Prop} {s:Shared} {κ:KOrd A s}
inductive HiI (κ:KOrd A s) (st:SortSt) (a b:Array Keyed) (N m:Nat) (r:Option (Array Keyed)) (na nb:Nat) (out:Array Keyed) (st':SortSt):Prop where
 | mk (G:GS st st') (e:r=none) (M:MJA κ a b out na nb) (h1:1<=na) (h2:2<=nb) (h3:na<=a.size) (h4:nb<=b.size) (h5:m+na+nb<=N)
inductive HiO (κ:KOrd A s) (st:SortSt) (a b:Array Keyed) (N m:Nat) (r:Option (Array Keyed)) (na nb:Nat) (out:Array Keyed) (st':SortSt):Prop where
 | fin (h:MgF κ st a b r st')
 | go (h:HiI κ st a b N m r na nb out st')
theorem HiI.not {st:SortSt} {a b:Array Keyed} {N m:Nat} {r:Option (Array Keyed)} {na nb:Nat} {out:Array Keyed} {st':SortSt} {P:Prop} (h:HiI κ st a b N m r na nb out st') (hm:N<=m):P:=
 let ⟨_,_,_,h1,_,_,_,h5⟩:=h
 absurd h1 (by exact Nat.not_le_of_gt (linL (Nat.add_le_add h5 hm) (by simp +arith)))
theorem hi_go {x N na nb y n m n' m':Nat} (h5:x+na+nb<=N) (g5:y+n+m<=na+nb) (h:n'+m' < n+m):x+1+n'+m'<=N:=by exact lin (Nat.add_le_add h5 (Nat.add_le_add h g5)) (by simp +arith)
theorem hi_st {N y n m n' m':Nat} (g5:y+n+m<=N) (h:n'+m' < n+m):y+1+n'+m'<=N:=by exact lin (Nat.add_le_add g5 h) (by simp +arith)
theorem hi_le {x n m N:Nat} (h:x+1+n+m<=N):x+n+m<=N:=by exact lin h (by simp +arith)
theorem two_of {m:Nat} (h:2<=m) (e:m - 1≠1):2<=m - 1:=by exact (Nat.lt_of_le_of_ne (lin (Nat.add_le_add h (sbA (m) (1))) (by simp +arith)) (Ne.symm e))
theorem two_of' {m:Nat} (h:m≠0) (e:m≠1):2<=m:=by exact (Nat.lt_of_le_of_ne (lin (Nat.lt_of_le_of_ne (by simp +arith) (Ne.symm h)) (by simp +arith)) (Ne.symm e))
theorem lt1 {n N:Nat} (h:1<=n) (h2:n<=N):n - 1 < N:=by exact Nat.lt_of_lt_of_le (sbE (n) (1) (lin h (by simp +arith))) h2
theorem dnA {n m:Nat} (h:1<=n):n - 1+m < n+m:=by exact linL (sbE (n) (1) (lin h (by simp +arith))) (by simp +arith)
theorem dnB {n m:Nat} (h:1<=m):n+(m - 1) < n+m:=by exact linL (sbE (m) (1) (lin h (by simp +arith))) (by simp +arith)
theorem dnC {n i m j:Nat} (h:1<=n) (hn:n<=i) (hj:j<=m - 1):n - 1+j < i+m:=by exact linL (Nat.add_le_add (sbE (n) (1) (lin h (by simp +arith))) (Nat.add_le_add hj (Nat.add_le_add hn (Nat.sub_le (m) (1))))) (by simp +arith)
theorem MJA.pushA' {a b out:Array Keyed} {na nb:Nat} {p:Keyed} (h:MJA κ a b out na nb) (h1:1<=na) (sb:Srt κ b 0 b.size) (hnb:1<=nb) (hnb':nb<=b.size) (hp:a[na - 1]?=some p) (hc:κ.O.kle (kAt κ b (nb - 1)) (kAt κ a (na - 1))):MJA κ a b (out.push p) (na - 1) nb:=by
 obtain ⟨n,rfl⟩:∃ n,na=n+1:=⟨na - 1,(Nat.sub_add_cancel h1).symm⟩
 exact h.pushA sb hnb hnb' hp hc
theorem MJA.pushB' {a b out:Array Keyed} {na nb:Nat} {p:Keyed} (h:MJA κ a b out na nb) (h1:1<=nb) (sa:Srt κ a 0 a.size) (hna:1<=na) (hna':na<=a.size) (hp:b[nb - 1]?=some p) (hc:κ.O.kle (kAt κ a (na - 1)) (kAt κ b (nb - 1))):MJA κ a b (out.push p) na (nb - 1):=by
 obtain ⟨n,rfl⟩:∃ n,nb=n+1:=⟨nb - 1,(Nat.sub_add_cancel h1).symm⟩
 exact h.pushB sa hna hna' hp hc
theorem pos_ne {n:Nat} (h:n≠0):1<=n:=Nat.pos_of_ne_zero h
theorem wpS_mergeHi {st:SortSt} {a b:Array Keyed} {Q:Array Keyed->SortSt->Prop} (hk:kindOf st=κ.kd) (ha:∀ p∈a.toList,κ.Has p) (hb:∀ p∈b.toList,κ.Has p) (sa:Srt κ a 0 a.size) (sb:Srt κ b 0 b.size)
  (na0:1<=a.size) (nb0:1<=b.size) (hab:κ.O.kle (kAt κ b 0) (kAt κ a 0)) (hl:∀ j,j < b.size->κ.O.kle (kAt κ b j) (kAt κ a (a.size - 1)))
  (h:∀ r st',GS st st'->Mrg κ (a.toList++b.toList) r->Q r st'):wpS (model prog w) A E s (mergeHi' a b) Q st:=by
 have hf:∀ j,j < a.size->κ.O.kle (kAt κ b 0) (kAt κ a j):=fun j hj=>KeyOrd.kle_trans hab (sa 0 j (Nat.le_refl _) (Nat.zero_le _) hj)
 unfold mergeHi'
 have M0:∀ {p0},a[a.size - 1]?=some p0->MJA κ a b #[p0] (a.size - 1) b.size:=fun hp0=>(MJA.init sa sb).pushA' na0 sb nb0 (Nat.le_refl _) hp0 (hl _ (lt1 nb0 (Nat.le_refl _)))
 refine mgPre (lt1 na0 (Nat.le_refl _)) (fun _ hp0 ha1=>wpS_pure (h _ _ (.refl _) ((M0 hp0).done (.inl ha1)))) (fun _ hp0 hb1=>wpS_pure (h _ _ (.refl _) ((M0 hp0).first hb1 hf))) fun p0 hp0 ha1 hb1=>?_
 refine forB (fun x (c:Option (Array Keyed)×Nat×Nat×Array Keyed×Nat) st'=>HiI κ st a b (a.size+b.size) x c.1 c.2.1 c.2.2.1 c.2.2.2.1 st') (fun (c:Option (Array Keyed)×Nat×Nat×Array Keyed×Nat) st'=>MgF κ st a b c.1 st') ?_ (fun c st' h=>h.not (Nat.le_refl _)) ⟨.refl _,rfl,M0 hp0,pos_ne ha1,Nat.lt_of_le_of_ne nb0 (Ne.symm hb1),Nat.sub_le _ _,Nat.le_refl _,(by show 0+(a.size - 1)+b.size<=a.size+b.size; exact lin (Nat.sub_le (a.size) (1)) (by simp +arith only))⟩ ?_
 ·intro F hF N x hx nY nD
  refine tupl5 fun r na nb out mg st' hI=>?_
  replace hI:HiI κ st a b (a.size+b.size) x r na nb out st':=hI
  obtain ⟨G,e,M,h1,h2,h3,h4,h5⟩:=hI
  have big:na+nb<=a.size+b.size:=Nat.add_le_add h3 h4
  subst hF
  dsimp only
  refine forB (fun y (c:Option (Array Keyed)×Nat×Nat×Array Keyed×Nat×Nat) st'=>HiI κ st a b (na+nb) y c.1 c.2.1 c.2.2.1 c.2.2.2.1 st') (fun (c:Option (Array Keyed)×Nat×Nat×Array Keyed×Nat×Nat) st'=>HiO κ st a b (a.size+b.size) (x+1) c.1 c.2.1 c.2.2.1 c.2.2.2.1 st') ?_ (fun c st' h=>h.not big) ⟨G,rfl,M,h1,h2,h3,h4,(by show 0+na+nb<=na+nb; simp +arith)⟩ ?_
  ·intro F hF N₂ y hy nY₂ nD₂
   refine tupl6 fun r na' nb' out ac bc st' hI=>?_
   replace hI:HiI κ st a b (na+nb) y r na' nb' out st':=hI
   obtain ⟨G,e,M,g1,g2,g3,g4,g5⟩:=hI
   subst hF
   dsimp only
   have g2':=Nat.le_of_succ_le g2
   refine cmpB (κ:=κ) (G.kind.trans hk) hb ha (lt1 g2' g4) (lt1 g1 g3) (fun hless=>?_) fun hless=>?_
   ·
    refine iteP (fun _=>elemB (lt1 g1 g3) fun p' hp'=>?_) fun hn=>absurd rfl hn
    have M':=M.pushA' g1 sb g2' g4 hp' (KeyOrd.kle_of_klt hless)
    refine iteB (fun e1=>wpS_pure (nD₂ (.fin ⟨G,_,rfl,M'.done (.inl e1)⟩))) fun e1=>?_
    exact iteP (fun _=>wpS_pure (nD₂ (.go ⟨G,rfl,M',pos_ne e1,g2,Nat.le_trans (Nat.sub_le _ _) g3,g4,hi_go h5 g5 (dnA g1)⟩))) fun _=>wpS_pure (nY₂ ⟨G,rfl,M',pos_ne e1,g2,Nat.le_trans (Nat.sub_le _ _) g3,g4,hi_st g5 (dnA g1)⟩)
   ·
    refine iteP (fun hn=>nomatch hn) fun _=>elemB (lt1 g2' g4) fun p' hp'=>?_
    have M':=M.pushB' g2' sa g1 g3 hp' hless
    refine iteB (fun e1=>wpS_pure (nD₂ (.fin ⟨G,_,rfl,M'.first e1 hf⟩))) fun e1=>?_
    exact iteP (fun _=>wpS_pure (nD₂ (.go ⟨G,rfl,M',g1,two_of g2 e1,g3,Nat.le_trans (Nat.sub_le _ _) g4,hi_go h5 g5 (dnB g2')⟩))) fun _=>wpS_pure (nY₂ ⟨G,rfl,M',g1,two_of g2 e1,g3,Nat.le_trans (Nat.sub_le _ _) g4,hi_st g5 (dnB g2')⟩)
  ·intro K hK
   refine tupl6 fun r na' nb' out ac bc st' hO=>?_
   replace hO:HiO κ st a b (a.size+b.size) (x+1) r na' nb' out st':=hO
   rcases hO with ⟨⟨G,r',e',hm⟩⟩ | ⟨⟨G,e',M,g1,g2,g3,g4,g5⟩⟩
   ·subst e'
    subst hK
    exact wpS_pure (nD ⟨G,r',rfl,hm⟩)
   ·subst e'
    subst hK
    dsimp only
    have big:na'+nb'<=a.size+b.size:=Nat.add_le_add g3 g4
    refine liftB (wpAny_rule ⟨rfl,?_⟩)
    refine forB (fun y (c:Option (Array Keyed)×Nat×Nat×Array Keyed×Nat×Nat×Nat) st'=>HiI κ st a b (na'+nb') y c.1 c.2.1 c.2.2.1 c.2.2.2.1 st') (fun (c:Option (Array Keyed)×Nat×Nat×Array Keyed×Nat×Nat×Nat) st'=>HiO κ st a b (a.size+b.size) (x+1) c.1 c.2.1 c.2.2.1 c.2.2.2.1 st') ?_ (fun c st' h=>h.not big) ⟨G,rfl,M,g1,g2,g3,g4,(by show 0+na'+nb'<=na'+nb'; simp +arith)⟩ ?_
    ·intro F hF N₂ y hy nY₂ nD₂
     refine tupl7 fun r n0 nb0 out mg' ac bc st' hI=>?_
     replace hI:HiI κ st a b (na'+nb') y r n0 nb0 out st':=hI
     obtain ⟨G,e,M,f1,f2,f3,f4,f5⟩:=hI
     subst hF
     dsimp only
     have f2':=Nat.le_of_succ_le f2
     apply share1 (prog:=prog) (w:=w) (A:=A) (E:=E) (s:=s) (fun (_:Nat) st₂=>GS st st₂)
     case h1=>
      intro hd
      refine iteP (fun _=>?_) fun _=>?_
      ·generalize mg' - 1=g
       exact hd g st' G
      ·exact hd mg' st' G
     case h2=>
      intro g st₂ G₂
      refine eGalR (κ:=κ) ((G₂.set g).kind.trans hk) hb (lt1 f2' f4) ha (by exact lin f3 (by simp +arith)) (by exact (sbE (n0) (1) (lin f1 (by simp +arith)))) (sa.sub (Nat.zero_le _) (by exact lin f3 (by simp +arith only))) fun k hk1 hk2 hk3=>?_
      have G₃:=G₂.set g
      simp only [Nat.zero_add] at hk2 hk3
      dsimp only
      have M₁:=M.extA hk1 sb f2' f4 fun i h1 h2 _=>KeyOrd.kle_of_klt (hk3 i h1 h2)
      generalize hc0:n0 - k=c
      apply share2 (prog:=prog) (w:=w) (A:=A) (E:=E) (s:=s) (fun n o st₃=>GS st st₃/\MJA κ a b o n nb0/\1<=n/\n<=n0/\κ.O.kle (kAt κ a (n - 1)) (kAt κ b (nb0 - 1)))
      case h1=>
       intro hd
       refine iteP (fun hk0=>iteB (fun e2=>wpS_pure (nD₂ (.fin ⟨G₃,_,rfl,M₁.done (.inl e2)⟩))) fun e2=>?_) fun hk0=>?_
       ·have hc:=hk2 (k - 1) (Nat.sub_lt (pos_ne e2) Nat.one_pos)
        generalize ho:out++(a.extract k n0).reverse=o
        generalize hi:k=i
        exact hd i o _ (by subst ho hi; exact ⟨G₃,M₁,pos_ne e2,hk1,hc⟩)
       ·have hc:=hk2 (n0 - 1) (by exact linL (Nat.add_le_add (sbE (n0) (1) (lin f1 (by simp +arith))) (Nat.add_le_add (sbA (n0) (k)) (Nat.add_le_add (Nat.le_of_eq hc0) (Nat.le_of_not_gt hk0)))) (by simp +arith only))
        exact hd n0 out _ ⟨G₃,M,f1,Nat.le_refl _,hc⟩
      case h2=>
       rintro n o st₃ ⟨G₃,M₁,i1,i2,i3⟩
       refine elemB (lt1 f2' f4) fun p' hp'=>?_
       have i4:=Nat.le_trans i2 f3
       have M₂:=M₁.pushB' f2' sa i1 i4 hp' i3
       refine iteB (fun e1=>wpS_pure (nD₂ (.fin ⟨G₃,_,rfl,M₂.first e1 hf⟩))) fun e1=>?_
       refine eGalL (κ:=κ) (G₃.kind.trans hk) ha (lt1 i1 i4) hb (by exact lin (Nat.add_le_add (Nat.sub_le (nb0) (1)) f4) (by simp +arith only)) (by exact (sbE (nb0 - 1) (1) (lin (Nat.add_le_add f2 (sbA (nb0) (1))) (by simp +arith)))) (sb.sub (Nat.zero_le _) (by exact lin (Nat.add_le_add (Nat.sub_le (nb0) (1)) f4) (by simp +arith only))) fun k' hk1' hk2' hk3'=>?_
       simp only [Nat.zero_add] at hk2' hk3'
       dsimp only
       have M₃:=M₂.extB hk1' sa i1 i4 fun j h1 h2 _=>hk3' j h1 h2
       generalize o.push p'=o' at M₂ M₃ ⊢
       have m2:=two_of f2 e1
       generalize hd0:nb0 - 1 - k'=d
       apply share2 (prog:=prog) (w:=w) (A:=A) (E:=E) (s:=s) (fun j o st₃=>GS st st₃/\MJA κ a b o n j/\2<=j/\j<=nb0 - 1/\κ.O.kle (kAt κ b (j - 1)) (kAt κ a (n - 1)))
       case h1=>
        intro hd
        refine iteP (fun hk0=>iteB (fun e2=>wpS_pure (nD₂ (.fin ⟨G₃,_,rfl,M₃.first e2 hf⟩))) fun e2=>iteB (fun e3=>wpS_pure (nD₂ (.fin ⟨G₃,_,rfl,M₃.done (.inr e3)⟩))) fun e3=>?_) fun hk0=>?_
        ·have hc:=KeyOrd.kle_of_klt (hk2' (k' - 1) (Nat.sub_lt (pos_ne e3) Nat.one_pos))
         generalize ho:o'++(b.extract k' (nb0 - 1)).reverse=o₂
         generalize hj:k'=j
         exact hd j o₂ _ (by subst ho hj; exact ⟨G₃,M₃,two_of' e3 e2,hk1',hc⟩)
        ·have hc:=KeyOrd.kle_of_klt (hk2' (nb0 - 1 - 1) (by exact linL (Nat.add_le_add (sbE (nb0 - 1) (1) (lin m2 (by simp +arith))) (Nat.add_le_add (sbA (nb0 - 1) (k')) (Nat.add_le_add (Nat.le_of_eq hd0) (Nat.le_of_not_gt hk0)))) (by simp +arith only)))
         exact hd (nb0 - 1) o' _ ⟨G₃,M₂,m2,Nat.le_refl _,hc⟩
       case h2=>
        rintro j o₂ st₄ ⟨G₄,M₄,j1,j2,j3⟩
        refine elemB (lt1 i1 i4) fun q' hq'=>?_
        have j4:j<=b.size:=Nat.le_trans j2 (Nat.le_trans (Nat.sub_le _ _) f4)
        have M₅:=M₄.pushA' i1 sb (Nat.le_of_succ_le j1) j4 hq' j3
        refine iteB (fun e2=>wpS_pure (nD₂ (.fin ⟨G₄,_,rfl,M₅.done (.inl e2)⟩))) fun e2=>?_
        have i5:=Nat.le_trans (Nat.sub_le n 1) i4
        exact iteP (fun _=>wpS_pure (nD₂ (.go ⟨G₄,rfl,M₅,pos_ne e2,j1,i5,j4,hi_le (hi_go g5 f5 (dnC i1 i2 j2))⟩))) fun _=>wpS_pure (nY₂ ⟨G₄,rfl,M₅,pos_ne e2,j1,i5,j4,hi_st f5 (dnC i1 i2 j2)⟩)
    ·intro K hK
     refine tupl7 fun r n0 nb0 out mg' ac bc st' hO=>?_
     replace hO:HiO κ st a b (a.size+b.size) (x+1) r n0 nb0 out st':=hO
     rcases hO with ⟨⟨G,r',e',hm⟩⟩ | ⟨⟨G,e',M,f1,f2,f3,f4,f5⟩⟩
     ·subst e'
      subst hK
      exact wpS_pure (nD ⟨G,r',rfl,hm⟩)
     ·subst e'
      subst hK
      exact modB (wpS_pure (nY ⟨G.set _,rfl,M,f1,f2,f3,f4,f5⟩))
 ·intro K hK
  refine tupl5 fun r na nb out mg st' hI=>?_
  replace hI:MgF κ st a b r st':=hI
  obtain ⟨G,r',e',hm⟩:=hI
  subst e'
  subst hK
  exact wpS_pure (h r' st' G hm)
end
end Mine
end
section
namespace Mine
noncomputable def ChP (st st':SortSt) (lo hi:Nat) (P:Array (Nat×Nat×Nat)):Prop:=∃ xs g,st'=SortSt.mk' (kindOf st) xs P g (failedOf st)/\xs.Perm (arrOf st)/\Same' (arrOf st) xs lo hi
noncomputable def wback (at_:Nat) (l:List Keyed) (j0:Nat) (xs:Array Keyed):Array Keyed:=(l.zipIdx j0).foldl (fun a p=>a.setIfInBounds (at_+p.2) p.1) xs
theorem wback_get {at_:Nat}:∀ (l:List Keyed) (j0:Nat) (xs:Array Keyed) (i:Nat),at_+j0+l.length<=xs.size->(wback at_ l j0 xs)[i]?=if at_+j0<=i/\i < at_+j0+l.length then l[i - (at_+j0)]? else xs[i]?
 := by
 intro l
 induction l with
 | nil=>
  intro j0 xs i _
  rw [if_neg (by simp)]; rfl
 | cons p l ih=>
  intro j0 xs i h
  have ih:=ih (j0+1) (xs.setIfInBounds (at_+j0) p) i (by simp at h ⊢; exact lin h (by simp +arith))
  show (wback at_ l (j0+1) (xs.setIfInBounds (at_+j0) p))[i]?=_
  rw [ih]
  simp only [List.length_cons] at h ⊢
  by_cases h1:i=at_+j0
  ·subst h1
   rw [if_neg (by exact fun c0=>(linF c0.1 (by simp +arith))),if_pos (by simp +arith),Array.getElem?_setIfInBounds_self_of_lt (by exact linL h (by simp +arith))]
   simp
  ·by_cases h2:at_+(j0+1)<=i/\i < at_+(j0+1)+l.length
   ·rw [if_pos h2,if_pos (by exact ⟨lin h2.1 (by simp +arith),linL h2.2 (by simp +arith)⟩),show i - (at_+j0)=(i - (at_+(j0+1)))+1 by exact linE (Nat.add_le_add (sbE (i) (at_+j0) (lin h2.1 (by simp +arith))) (sbA (i) (at_+(j0+1)))) (by simp +arith) (Nat.add_le_add (sbE (i) (at_+(j0+1)) (lin h2.1 (by simp +arith))) (sbA (i) (at_+j0))) (by simp +arith),List.getElem?_cons_succ]
   ·rw [if_neg h2,if_neg (by lia),Array.getElem?_setIfInBounds_ne (by lia)]
theorem wback_list {at_:Nat} {l:List Keyed} {xs:Array Keyed} (h:at_+l.length<=xs.size):(wback at_ l 0 xs).toList=xs.toList.take at_++l++xs.toList.drop (at_+l.length):=by
 apply List.ext_getElem?
 intro i
 have:=wback_get l 0 xs i (by omega)
 rw [<- Array.getElem?_toList] at this
 rw [this]
 simp only [Nat.add_zero]
 have e1:(xs.toList.take at_).length=at_:=by rw [List.length_take]; simp; exact linE (Nat.min_le_left (at_) (xs.size)) (by simp +arith) (mnL (at_) (xs.size) (lin h (by simp +arith))) (by simp +arith)
 by_cases h1:i < at_
 ·rw [if_neg (by exact fun c0=>(linF (Nat.add_le_add h1 c0.1) (by simp +arith))),List.append_assoc,List.getElem?_append_left (by exact Nat.lt_of_lt_of_le h1 (Nat.le_of_eq e1.symm)),List.getElem?_take,if_pos h1]; simp
 ·by_cases h2:i < at_+l.length
  ·rw [if_pos (by exact ⟨lin (Nat.le_of_not_gt h1) (by simp +arith),linL h2 (by simp +arith)⟩),List.append_assoc,List.getElem?_append_right (by exact Nat.le_trans (Nat.le_of_eq e1) (Nat.le_of_not_gt h1)),List.getElem?_append_left (by exact linL (Nat.add_le_add (sbE (i) ((List.take at_ xs.toList).length) (lin (Nat.add_le_add (Nat.le_of_eq e1) (Nat.le_of_not_gt h1)) (by simp +arith))) (Nat.add_le_add h2 (Nat.le_of_eq e1.symm))) (by simp +arith only)),e1]
  ·rw [if_neg (by exact fun c0=>(linF (Nat.add_le_add c0.2 (Nat.le_of_not_gt h2)) (by simp +arith))),List.getElem?_append_right (by rw [List.length_append]; exact lin (Nat.add_le_add (Nat.le_of_not_gt h2) (Nat.le_of_eq e1)) (by simp +arith)),List.length_append,e1,List.getElem?_drop]
   rw [show at_+l.length+(i - (at_+l.length))=i by exact linE (sbE (i) (at_+l.length) (lin (Nat.le_of_not_gt h2) (by simp +arith))) (by simp +arith) (sbA (i) (at_+l.length)) (by simp +arith)]; simp
theorem merge_back {A:Around} {s:Shared} {κ:KOrd A s} {arr:Array Keyed} {x na nb k nb':Nat} {r:Array Keyed} (hsz:x+na+nb<=arr.size) (sa:Srt κ arr x (x+na)) (sb:Srt κ arr (x+na) (x+na+nb)) (hk:k < na) (hn1:1<=nb') (hn2:nb'<=nb)
  (g1:∀ i,i < k->κ.O.kle (kAt κ arr (x+i)) (kAt κ arr (x+na))) (g4:∀ i,nb'<=i->i < nb->κ.O.kle (kAt κ arr (x+na - 1)) (kAt κ arr (x+na+i)))
  (m:Mrg κ ((arr.extract (x+k) (x+na)).toList++(arr.extract (x+na) (x+na+nb')).toList) r) :
  (wback (x+k) r.toList 0 arr).Perm arr/\Same' arr (wback (x+k) r.toList 0 arr) x (x+na+nb)/\Srt κ (wback (x+k) r.toList 0 arr) x (x+na+nb):=by
 obtain ⟨mp,ms⟩:=m
 have hr:r.toList.length=na - k+nb':=by
  have:=mp.length_eq
  rw [this,List.length_append]
  simp only [Array.length_toList,Array.size_extract]
  exact linE (Nat.add_le_add (sbE (min (x+na) arr.size) (x+k) (lin (Nat.add_le_add (mnL (x+na) (arr.size) (lin hsz (by simp +arith))) hk) (by simp +arith))) (Nat.add_le_add (sbE (min (x+na+nb') arr.size) (x+na) (lin (mnL (x+na+nb') (arr.size) (lin (Nat.add_le_add hn2 hsz) (by simp +arith))) (by simp +arith))) (Nat.add_le_add (Nat.min_le_left (x+na) (arr.size)) (Nat.add_le_add (Nat.min_le_left (x+na+nb') (arr.size)) (sbA (na) (k)))))) (by simp +arith) (Nat.add_le_add (sbE (na) (k) (lin hk (by simp +arith))) (Nat.add_le_add (mnL (x+na+nb') (arr.size) (lin (Nat.add_le_add hn2 hsz) (by simp +arith))) (Nat.add_le_add (sbA (min (x+na+nb') arr.size) (x+na)) (Nat.add_le_add (mnL (x+na) (arr.size) (lin hsz (by simp +arith))) (sbA (min (x+na) arr.size) (x+k)))))) (by simp +arith)
 have hw:x+k+r.toList.length<=arr.size:=by exact lin (Nat.add_le_add hsz (Nat.add_le_add (sbE (na) (k) (lin hk (by simp +arith))) (Nat.add_le_add (Nat.le_of_eq hr) hn2))) (by simp +arith only)
 have hget:∀ i,(wback (x+k) r.toList 0 arr)[i]?=if x+k<=i/\i < x+na+nb' then r.toList[i - (x+k)]? else arr[i]?:=fun i=>by
  have:=wback_get (at_:=x+k) r.toList 0 arr i (by omega)
  rw [hr] at this
  rw [this]
  simp only [Nat.add_zero]
  rw [show x+k+(na - k+nb')=x+na+nb' by exact linE (sbE (na) (k) (lin hk (by simp +arith))) (by simp +arith) (sbA (na) (k)) (by simp +arith)]
 refine ⟨?_,fun i hi=>?_,?_⟩
 ·rw [Array.perm_iff_toList_perm,wback_list hw]
  have e:arr.toList=arr.toList.take (x+k)++((arr.extract (x+k) (x+na)).toList++(arr.extract (x+na) (x+na+nb')).toList)++arr.toList.drop (x+k+r.toList.length):=by
   rw [hr,show x+k+(na - k+nb')=x+na+nb' by exact linE (sbE (na) (k) (lin hk (by simp +arith))) (by simp +arith) (sbA (na) (k)) (by simp +arith),<- List.append_assoc,<- take_split (by exact lin hk (by simp +arith)),<- take_split (by simp +arith),List.take_append_drop]
  exact ((List.Perm.append_left _ mp).append_right _).trans (.of_eq e.symm)
 ·rw [hget,if_neg (by lia)]
 ·have hmid:∀ i,x+k<=i->i < x+na+nb'->∃ j,x+k<=j/\j < x+na+nb'/\kAt κ (wback (x+k) r.toList 0 arr) i=kAt κ arr j:=fun i h1 h2=>by
   have hi:i - (x+k) < r.toList.length:=by exact linL (Nat.add_le_add (sbE (i) (x+k) (lin h1 (by simp +arith))) (Nat.add_le_add h2 (Nat.add_le_add (sbA (na) (k)) (Nat.le_of_eq hr.symm)))) (by simp +arith only)
   have he:(wback (x+k) r.toList 0 arr)[i]?=some r.toList[i - (x+k)]:=by rw [hget,if_pos ⟨h1,h2⟩,List.getElem?_eq_getElem hi]
   have hm:=mp.mem_iff.mp (List.getElem_mem hi)
   rcases List.mem_append.mp hm with hm | hm
   ·obtain ⟨j,a1,a2,a3,e⟩:=mem_extract hm
    exact ⟨j,a1,by exact linL a2 (by simp +arith),kAt_congr (he.trans e.symm)⟩
   ·obtain ⟨j,a1,a2,a3,e⟩:=mem_extract hm
    exact ⟨j,by exact lin (Nat.add_le_add a1 hk) (by simp +arith),a2,kAt_congr (he.trans e.symm)⟩
  have hout:∀ i,¬ (x+k<=i/\i < x+na+nb')->kAt κ (wback (x+k) r.toList 0 arr) i=kAt κ arr i:=fun i h=>kAt_congr (by rw [hget,if_neg h])
  intro i j h1 h2 h3
  by_cases i1:i < x+k
  ·rw [hout i (by exact fun c0=>(linF (Nat.add_le_add i1 c0.1) (by simp +arith)))]
   by_cases j1:j < x+k
   ·rw [hout j (by exact fun c0=>(linF (Nat.add_le_add j1 c0.1) (by simp +arith)))]
    exact sa i j h1 h2 (by exact linL (Nat.add_le_add j1 hk) (by simp +arith))
   ·have g:=g1 (i - x) (by exact linL (Nat.add_le_add (sbE (i) (x) (lin h1 (by simp +arith))) i1) (by simp +arith))
    rw [show x+(i - x)=i by exact linE (sbE (i) (x) (lin h1 (by simp +arith))) (by simp +arith) (sbA (i) (x)) (by simp +arith)] at g
    by_cases j2:j < x+na+nb'
    ·obtain ⟨t,t1,t2,e⟩:=hmid j (by exact (Nat.le_of_not_gt j1)) j2
     rw [e]
     by_cases t3:t < x+na
     ·exact sa i t h1 (by exact lin (Nat.add_le_add i1 t1) (by simp +arith)) t3
     ·exact KeyOrd.kle_trans g (sb (x+na) t (Nat.le_refl _) (by exact (Nat.le_of_not_gt t3)) (by exact linL (Nat.add_le_add t2 hn2) (by simp +arith)))
    ·rw [hout j (by exact fun c0=>(linF (Nat.add_le_add c0.2 (Nat.le_of_not_gt j2)) (by simp +arith)))]
     exact KeyOrd.kle_trans g (sb (x+na) j (Nat.le_refl _) (by exact lin (Nat.le_of_not_gt j2) (by simp +arith)) (by omega))
  ·by_cases i2:i < x+na+nb'
   ·by_cases j2:j < x+na+nb'
    ·have hj:j - (x+k) < r.toList.length:=by exact linL (Nat.add_le_add (sbE (j) (x+k) (lin (Nat.add_le_add h2 (Nat.le_of_not_gt i1)) (by simp +arith))) (Nat.add_le_add j2 (Nat.add_le_add (sbA (na) (k)) (Nat.le_of_eq hr.symm)))) (by simp +arith only)
     have hi:i - (x+k) < r.toList.length:=by exact linL (Nat.add_le_add (sbE (i) (x+k) (lin (Nat.le_of_not_gt i1) (by simp +arith))) (Nat.add_le_add h2 (Nat.add_le_add (sbA (j) (x+k)) hj))) (by simp +arith only)
     have ei:(wback (x+k) r.toList 0 arr)[i]?=some r.toList[i - (x+k)]:=by rw [hget,if_pos ⟨by exact (Nat.le_of_not_gt i1),i2⟩,List.getElem?_eq_getElem hi]
     have ej:(wback (x+k) r.toList 0 arr)[j]?=some r.toList[j - (x+k)]:=by rw [hget,if_pos ⟨by exact Nat.le_trans (Nat.le_of_not_gt i1) h2,j2⟩,List.getElem?_eq_getElem hj]
     rw [kAt_get ei,kAt_get ej]
     by_cases e:i=j
     ·subst e; exact KeyOrd.kle_refl _
     ·exact List.pairwise_iff_getElem.mp ms _ _ hi hj (by exact linL (Nat.add_le_add (sbE (i) (x+k) (lin (Nat.le_of_not_gt i1) (by simp +arith))) (Nat.add_le_add (Nat.lt_of_le_of_ne (lin h2 (by simp +arith)) e) (sbA (j) (x+k)))) (by simp +arith))
    ·rw [hout j (by exact fun c0=>(linF (Nat.add_le_add c0.2 (Nat.le_of_not_gt j2)) (by simp +arith)))]
     obtain ⟨t,t1,t2,e⟩:=hmid i (by exact (Nat.le_of_not_gt i1)) i2
     rw [e]
     by_cases t3:t < x+na
     ·have g:=g4 (j - (x+na)) (by exact lin (Nat.add_le_add (Nat.le_of_not_gt j2) (sbA (j) (x+na))) (by simp +arith)) (by exact linL (Nat.add_le_add (sbE (j) (x+na) (lin (Nat.le_of_not_gt j2) (by simp +arith))) h3) (by simp +arith))
      rw [show x+na+(j - (x+na))=j by exact linE (sbE (j) (x+na) (lin (Nat.le_of_not_gt j2) (by simp +arith))) (by simp +arith) (sbA (j) (x+na)) (by simp +arith)] at g
      exact KeyOrd.kle_trans (sa t (x+na - 1) (by exact lin t1 (by simp +arith)) (by exact lin (Nat.add_le_add t3 (sbA (x+na) (1))) (by simp +arith)) (by exact (sbE (x+na) (1) (lin hk (by simp +arith))))) g
     ·exact sb t j (by exact (Nat.le_of_not_gt t3)) (by exact lin (Nat.add_le_add t2 (Nat.le_of_not_gt j2)) (by simp +arith)) h3
   ·rw [hout i (by exact fun c0=>(linF (Nat.add_le_add c0.2 (Nat.le_of_not_gt i2)) (by simp +arith))),hout j (by exact fun c0=>(linF (Nat.add_le_add c0.2 (Nat.add_le_add (Nat.le_of_not_gt i2) h2)) (by simp +arith)))]
    exact sb i j (by exact lin (Nat.le_of_not_gt i2) (by simp +arith)) h2 h3
section
variable {prog:Program} {w:World} {A:Around} {E:Value->Shared->Prop} {s:Shared} {κ:KOrd A s} {a₀:Array Keyed}
theorem wpS_set {σ:Type} {M:Model} {st st':σ} {Q:PUnit->σ->Prop} (h:Q ⟨⟩ st'):wpS M A E s (set st':StateT σ Sem PUnit) Q st:=by
 unfold wpS; rw [StateT.run_set]; exact wpAny_pure ⟨rfl,h⟩
theorem wpS_mergeAt {st:SortSt} {i x na nb p p':Nat} {Q:Bool->SortSt->Prop} (S:SSt κ a₀ st) (h0:∀ p∈a₀.toList,κ.Has p) (e1:(pendingOf st)[i]?=some (x,na,p)) (e2:(pendingOf st)[i+1]?=some (x+na,nb,p'))
  (h1:1<=na) (h2:1<=nb) (h3:x+na+nb<=a₀.size) (sa:Srt κ (arrOf st) x (x+na)) (sb:Srt κ (arrOf st) (x+na) (x+na+nb))
  (h:∀ st',ChP st st' x (x+na+nb) (((pendingOf st).setIfInBounds i (x,na+nb,p)).eraseIdxIfInBounds (i+1))->Srt κ (arrOf st') x (x+na+nb)->Q true st'):wpS (model prog w) A E s (mergeAt' i) Q st:=by
 unfold mergeAt'
 refine wpS_bind (wpS_get ?_)
 dsimp only
 rw [e1,e2]
 dsimp only
 refine wpS_bind (wpS_set ?_)
 have S':SSt κ a₀ (SortSt.mk' (kindOf st) (arrOf st) (((pendingOf st).setIfInBounds i (x,na+nb,p)).eraseIdxIfInBounds (i+1)) (gallopOf st) (failedOf st)):=⟨S.perm,S.kind,S.failed⟩
 have hsz:x+na+nb<=(arrOf st).size:=by rw [S.size]; exact h3
 have hhas:=S.has h0
 have stay:(∀ k,k < na->κ.O.kle (kAt κ (arrOf st) (x+k)) (kAt κ (arrOf st) (x+na)))->Srt κ (arrOf st) x (x+na+nb):=fun g u v a1 a2 a3=>by
  by_cases u1:u < x+na
  ·by_cases v1:v < x+na
   ·exact sa u v a1 a2 v1
   ·have:=g (u - x) (by exact linL (Nat.add_le_add (sbE (u) (x) (lin a1 (by simp +arith))) u1) (by simp +arith))
    rw [show x+(u - x)=u by exact linE (sbE (u) (x) (lin a1 (by simp +arith))) (by simp +arith) (sbA (u) (x)) (by simp +arith)] at this
    exact KeyOrd.kle_trans this (sb (x+na) v (Nat.le_refl _) (by exact (Nat.le_of_not_gt v1)) a3)
  ·exact sb u v (by exact (Nat.le_of_not_gt u1)) a2 a3
 refine wpS_bind (wpS_elem (by show x+na < (arrOf st).size; exact linL (Nat.add_le_add hsz h2) (by simp +arith)) fun key hkey=>?_)
 refine wpS_bind (wpS_gallopR (κ:=κ) S'.kind (hhas key (Array.mem_toList_iff.mpr (Array.mem_of_getElem? hkey))) hhas (by show x+na<=(arrOf st).size; exact lin hsz (by simp +arith)) (by exact h1) sa fun k hk1 hk2 hk3=>?_)
 rw [<- kAt_get hkey] at hk2 hk3
 dsimp only
 by_cases hz:na - k=0
 ·rw [if_pos (by simpa using hz)]
  exact wpS_pure (h _ ⟨arrOf st,_,rfl,.refl _,fun _ _=>rfl⟩ (stay fun t ht=>hk2 t (by exact linL (Nat.add_le_add ht (Nat.add_le_add (sbA (na) (k)) (Nat.le_of_eq hz))) (by simp +arith))))
 rw [if_neg (by simpa using hz)]
 rw [show x+k+(na - k) - 1=x+na - 1 by exact linE (Nat.add_le_add (sbE (x+k+(na - k)) (1) (lin (Nat.add_le_add h1 (sbA (na) (k))) (by simp +arith))) (Nat.add_le_add (sbA (x+na) (1)) (sbE (na) (k) (lin hk1 (by simp +arith))))) (by simp +arith) (Nat.add_le_add (sbE (x+na) (1) (lin h1 (by simp +arith))) (Nat.add_le_add (sbA (na) (k)) (sbA (x+k+(na - k)) (1)))) (by simp +arith)]
 refine wpS_bind (wpS_elem (by show x+na - 1 < (arrOf st).size; exact linL (Nat.add_le_add (sbE (x+na) (1) (lin h1 (by simp +arith))) hsz) (by simp +arith)) fun key' hkey'=>?_)
 refine wpS_bind (wpS_gallopL (κ:=κ) S'.kind (hhas key' (Array.mem_toList_iff.mpr (Array.mem_of_getElem? hkey'))) hhas (by show x+na+nb<=(arrOf st).size; omega) (by exact (sbE (nb) (1) (lin h2 (by simp +arith)))) sb fun nb' hb1 hb2 hb3=>?_)
 rw [<- kAt_get hkey'] at hb2 hb3
 dsimp only
 by_cases hz':nb'=0
 ·rw [if_pos (by simpa using hz')]
  refine wpS_pure (h _ ⟨arrOf st,_,rfl,.refl _,fun _ _=>rfl⟩ (stay fun t ht=>?_))
  have g:=hb3 0 (by exact (Nat.le_of_eq hz')) (by exact h2)
  exact KeyOrd.kle_trans (sa (x+t) (x+na - 1) (by simp +arith) (by exact lin (Nat.add_le_add (sbA (x+na) (1)) ht) (by simp +arith)) (by exact (sbE (x+na) (1) (lin h1 (by simp +arith))))) g
 rw [if_neg (by simpa using hz')]
 have hx:((arrOf st).extract (x+k) (x+na)).size=na - k:=by rw [Array.size_extract]; exact linE (Nat.add_le_add (sbE (min (x+na) (arrOf st).size) (x+k) (lin (Nat.add_le_add hk1 (mnL (x+na) ((arrOf st).size) (lin hsz (by simp +arith)))) (by simp +arith))) (Nat.add_le_add (Nat.min_le_left (x+na) ((arrOf st).size)) (sbA (na) (k)))) (by simp +arith) (Nat.add_le_add (sbE (na) (k) (lin hk1 (by simp +arith))) (Nat.add_le_add (mnL (x+na) ((arrOf st).size) (lin hsz (by simp +arith))) (sbA (min (x+na) (arrOf st).size) (x+k)))) (by simp +arith)
 have hy:((arrOf st).extract (x+na) (x+na+nb')).size=nb':=by rw [Array.size_extract]; exact linE (Nat.add_le_add (sbE (min (x+na+nb') (arrOf st).size) (x+na) (lin (mnL (x+na+nb') ((arrOf st).size) (lin (Nat.add_le_add hsz hb1) (by simp +arith))) (by simp +arith))) (Nat.min_le_left (x+na+nb') ((arrOf st).size))) (by simp +arith) (Nat.add_le_add (mnL (x+na+nb') ((arrOf st).size) (lin (Nat.add_le_add hsz hb1) (by simp +arith))) (sbA (min (x+na+nb') (arrOf st).size) (x+na))) (by simp +arith)
 have kx:∀ t,t < na - k->kAt κ ((arrOf st).extract (x+k) (x+na)) t=kAt κ (arrOf st) (x+k+t):=fun t ht=>kAt_congr (by rw [Array.getElem?_extract,if_pos (by exact linL (Nat.add_le_add ht (Nat.add_le_add (sbE (na) (k) (lin hk1 (by simp +arith))) (Nat.add_le_add (mnL (x+na) ((arrOf st).size) (lin hsz (by simp +arith))) (sbA (min (x+na) (arrOf st).size) (x+k))))) (by simp +arith))])
 have ky:∀ t,t < nb'->kAt κ ((arrOf st).extract (x+na) (x+na+nb')) t=kAt κ (arrOf st) (x+na+t):=fun t ht=>kAt_congr (by rw [Array.getElem?_extract,if_pos (by exact linL (Nat.add_le_add ht (Nat.add_le_add (mnL (x+na+nb') ((arrOf st).size) (lin (Nat.add_le_add hsz hb1) (by simp +arith))) (sbA (min (x+na+nb') (arrOf st).size) (x+na)))) (by simp +arith))])
 have hax:∀ p∈((arrOf st).extract (x+k) (x+na)).toList,κ.Has p:=fun p hp=>by
  obtain ⟨j,_,_,_,e⟩:=mem_extract hp
  exact hhas p (Array.mem_toList_iff.mpr (Array.mem_of_getElem? e))
 have hay:∀ p∈((arrOf st).extract (x+na) (x+na+nb')).toList,κ.Has p:=fun p hp=>by
  obtain ⟨j,_,_,_,e⟩:=mem_extract hp
  exact hhas p (Array.mem_toList_iff.mpr (Array.mem_of_getElem? e))
 have sx:Srt κ ((arrOf st).extract (x+k) (x+na)) 0 ((arrOf st).extract (x+k) (x+na)).size:=fun u v _ h5 h6=>by
  rw [hx] at h6
  rw [kx u (by exact linL (Nat.add_le_add h5 h6) (by simp +arith)),kx v h6]
  exact sa _ _ (by simp +arith) (by exact lin h5 (by simp +arith)) (by exact linL (Nat.add_le_add (sbE (na) (k) (lin hk1 (by simp +arith))) h6) (by simp +arith))
 have sy:Srt κ ((arrOf st).extract (x+na) (x+na+nb')) 0 ((arrOf st).extract (x+na) (x+na+nb')).size:=fun u v _ h5 h6=>by
  rw [hy] at h6
  rw [ky u (by exact linL (Nat.add_le_add h5 h6) (by simp +arith)),ky v h6]
  exact sb _ _ (by simp +arith) (by exact lin h5 (by simp +arith)) (by exact linL (Nat.add_le_add h6 hb1) (by simp +arith))
 have hab:κ.O.kle (kAt κ ((arrOf st).extract (x+na) (x+na+nb')) 0) (kAt κ ((arrOf st).extract (x+k) (x+na)) 0):=by
  rw [ky 0 (by exact (Nat.lt_of_le_of_ne (by simp +arith) (Ne.symm hz'))),kx 0 (by exact (Nat.lt_of_le_of_ne (by simp +arith) (Ne.symm hz)))]
  exact KeyOrd.kle_of_klt (hk3 k (Nat.le_refl _) (by exact linL (Nat.add_le_add (sbE (na) (k) (lin hk1 (by simp +arith))) (Nat.lt_of_le_of_ne (by simp +arith) (Ne.symm hz))) (by simp +arith only)))
 have hl:∀ j,j < ((arrOf st).extract (x+na) (x+na+nb')).size->κ.O.kle (kAt κ ((arrOf st).extract (x+na) (x+na+nb')) j) (kAt κ ((arrOf st).extract (x+k) (x+na)) (((arrOf st).extract (x+k) (x+na)).size - 1)):=fun j hj=>by
  rw [hy] at hj
  rw [hx,ky j hj,kx _ (by exact (sbE (na - k) (1) (lin (Nat.lt_of_le_of_ne (by simp +arith) (Ne.symm hz)) (by simp +arith)))),show x+k+(na - k - 1)=x+na - 1 by exact linE (Nat.add_le_add (sbA (x+na) (1)) (Nat.add_le_add (sbE (na) (k) (lin hk1 (by simp +arith))) (sbE (na - k) (1) (lin (Nat.lt_of_le_of_ne (by simp +arith) (Ne.symm hz)) (by simp +arith))))) (by simp +arith) (Nat.add_le_add (sbE (x+na) (1) (lin h1 (by simp +arith))) (Nat.add_le_add (sbA (na) (k)) (sbA (na - k) (1)))) (by simp +arith)]
  exact KeyOrd.kle_of_klt (hb2 j hj)
 have hx1:1<=((arrOf st).extract (x+k) (x+na)).size:=by rw [hx]; exact (Nat.lt_of_le_of_ne (by simp +arith) (Ne.symm hz))
 have hy1:1<=((arrOf st).extract (x+na) (x+na+nb')).size:=by rw [hy]; exact (Nat.lt_of_le_of_ne (by simp +arith) (Ne.symm hz'))
 apply share1 (prog:=prog) (w:=w) (A:=A) (E:=E) (s:=s) (fun (r:Array Keyed) st₂=>GS (SortSt.mk' (kindOf st) (arrOf st) (((pendingOf st).setIfInBounds i (x,na+nb,p)).eraseIdxIfInBounds (i+1)) (gallopOf st) (failedOf st)) st₂ /\
  Mrg κ (((arrOf st).extract (x+k) (x+na)).toList++((arrOf st).extract (x+na) (x+na+nb')).toList) r)
 case h1=>
  intro hd
  by_cases hle:na - k<=nb'
  ·rw [if_pos hle]
   exact wpS_bind (wpS_mergeLo S'.kind hax hay sx sy hx1 hy1 hab hl fun r st' G m=>hd r st' ⟨G,m⟩)
  ·rw [if_neg hle]
   exact wpS_bind (wpS_mergeHi S'.kind hax hay sx sy hx1 hy1 hab hl fun r st' G m=>hd r st' ⟨G,m⟩)
 case h2=>
  rintro r st₂ ⟨⟨g,rfl⟩,m⟩
  obtain ⟨m1,m2,m3⟩:=merge_back hsz sa sb (by exact linL (Nat.add_le_add (sbE (na) (k) (lin hk1 (by simp +arith))) (Nat.add_le_add hx1 (Nat.le_of_eq hx))) (by simp +arith only)) (by exact Nat.le_trans hy1 (Nat.le_of_eq hy)) hb1 hk2 hb3 m
  refine wpS_bind (wpS_modify (wpS_bind (wpS_get ?_)))
  have hfail:(failedOf st).isNone=true:=by rw [S.failed]; rfl
  have fin:=h (SortSt.mk' (kindOf st) (wback (x+k) r.toList 0 (arrOf st)) (((pendingOf st).setIfInBounds i (x,na+nb,p)).eraseIdxIfInBounds (i+1)) g (failedOf st)) ⟨_,g,rfl,m1,m2⟩ m3
  rw [<- hfail] at fin
  exact wpS_pure fin
end
end Mine
end
section
namespace Mine
noncomputable def Runs {A:Around} {s:Shared} (κ:KOrd A s) (arr:Array Keyed):Nat->List (Nat×Nat×Nat)->Nat->Prop
 | lo,[],hi=>lo=hi
 | lo,(x,n,_)::rest,hi=>x=lo/\1<=n/\Srt κ arr lo (lo+n)/\Runs κ arr (lo+n) rest hi
theorem Runs.app {A:Around} {s:Shared} {κ:KOrd A s} {arr:Array Keyed}:∀ {l1 l2:List (Nat×Nat×Nat)} {lo hi:Nat},Runs κ arr lo (l1++l2) hi ↔ ∃ mid,Runs κ arr lo l1 mid/\Runs κ arr mid l2 hi
 := by
 intro l1
 induction l1 with
 | nil=>exact fun {l2 lo hi}=>⟨fun h=>⟨lo,rfl,h⟩,fun oo=>by obtain ⟨mid,h1,h2⟩:=oo; exact by cases h1; exact h2⟩
 | cons t l1 ih=>
  obtain ⟨x,n,p⟩:=t
  intro l2 lo hi
  show (_/\_/\_/\Runs κ arr (lo+n) (l1++l2) hi) ↔ ∃ mid,(_/\_/\_/\Runs κ arr (lo+n) l1 mid)/\_
  rw [ih]
  exact ⟨fun oo=>by obtain ⟨a,b,c,mid,d,e⟩:=oo; exact ⟨mid,⟨a,b,c,d⟩,e⟩,fun oo=>by obtain ⟨mid,⟨a,b,c,d⟩,e⟩:=oo; exact ⟨a,b,c,mid,d,e⟩⟩
theorem Runs.le {A:Around} {s:Shared} {κ:KOrd A s} {arr:Array Keyed}:∀ {l:List (Nat×Nat×Nat)} {lo hi:Nat},Runs κ arr lo l hi->lo+l.length<=hi
 := by
 intro l
 induction l with
 | nil=>intro lo hi h; cases h; exact Nat.le_refl _
 | cons t l ih=>
  intro lo hi ⟨a,b,c,d⟩
  have:=ih d
  rw [List.length_cons]
  exact lin (Nat.add_le_add this b) (by simp +arith)
theorem Runs.keep {A:Around} {s:Shared} {κ:KOrd A s} {arr arr':Array Keyed} {x y:Nat} (hs:Same' arr arr' x y):∀ {l:List (Nat×Nat×Nat)} {lo hi:Nat},Runs κ arr lo l hi->(hi<=x\/y<=lo)->Runs κ arr' lo l hi
 := by
 intro l
 induction l with
 | nil=>intro lo hi h _; exact h
 | cons t l ih=>
  intro lo hi ⟨a,b,c,d⟩ h
  exact ⟨a,b,hs.srt c (h.imp (Nat.le_trans (Nat.le_trans (Nat.le_add_right _ _) d.le)) id),ih d (h.imp id fun h=>Nat.le_trans h (Nat.le_add_right _ _))⟩
structure SR {A:Around} {s:Shared} (κ:KOrd A s) (a₀:Array Keyed) (st:SortSt) (hi:Nat):Prop where
 s:SSt κ a₀ st
 r:Runs κ (arrOf st) 0 (pendingOf st).toList hi
 le:hi<=a₀.size
theorem split2 {α:Type} {l:List α} {i:Nat} (h:i+1 < l.length):∃ a b,l[i]?=some a/\l[i+1]?=some b/\l=l.take i++a::b::l.drop (i+2):=by
 refine ⟨l[i],l[i+1],List.getElem?_eq_getElem (by omega),List.getElem?_eq_getElem h,?_⟩
 have e1:=List.drop_eq_getElem_cons (l:=l) (i:=i) (by omega)
 have e2:=List.drop_eq_getElem_cons (l:=l) (i:=i+1) h
 rw [<- e2,<- e1,List.take_append_drop]
theorem merged_list {α:Type} {P:Array α} {i:Nat} {v:α} (h:i+1 < P.size):((P.setIfInBounds i v).eraseIdxIfInBounds (i+1)).toList=P.toList.take i++v::P.toList.drop (i+2):=by
 have h':i+1 < (P.setIfInBounds i v).size:=by rw [Array.size_setIfInBounds]; exact h
 rw [Array.eraseIdxIfInBounds,dif_pos h',Array.toList_eraseIdx,Array.toList_setIfInBounds]
 have hl:i < P.toList.length:=by simp; exact linL h (by simp +arith)
 rw [List.set_eq_take_append_cons_drop,if_pos hl,List.eraseIdx_append_of_length_le (by rw [List.length_take]; exact lin (Nat.min_le_left (i) (P.toList.length)) (by simp +arith only)),List.length_take,Nat.min_eq_left (Nat.le_of_lt hl),show i+1 - i=0+1 by exact linE (sbE (i+1) (i) (by simp +arith)) (by simp +arith only) (sbA (i+1) (i)) (by simp +arith only),List.eraseIdx_cons_succ]
 congr 2
 have hl':i+1 < P.toList.length:=by simpa using h
 rw [List.drop_eq_getElem_cons hl',List.eraseIdx_cons_zero]
section
variable {prog:Program} {w:World} {A:Around} {E:Value->Shared->Prop} {s:Shared} {κ:KOrd A s} {a₀:Array Keyed}
theorem wpS_mergeR {st:SortSt} {i hi:Nat} {Q:Bool->SortSt->Prop} (R:SR κ a₀ st hi) (h0:∀ p∈a₀.toList,κ.Has p) (hi1:i+1 < (pendingOf st).size)
  (h:∀ st',SR κ a₀ st' hi->(pendingOf st').size+1=(pendingOf st).size->Same' (arrOf st) (arrOf st') 0 hi->Q true st'):wpS (model prog w) A E s (mergeAt' i) Q st:=by
 obtain ⟨⟨x,na,p⟩,⟨y,nb,p'⟩,e1,e2,el⟩:=split2 (l:=(pendingOf st).toList) (i:=i) (by simpa using hi1)
 have r:=R.r
 rw [el] at r
 obtain ⟨mid,r1,rx,rn,rs,ry,rn',rs',r2⟩:=Runs.app.mp r
 subst rx
 subst ry
 have hle:=r2.le
 have hle':=R.le
 refine wpS_mergeAt R.s h0 (by simpa using e1) (by simpa using e2) rn rn' (by exact lin (Nat.add_le_add hle hle') (by simp +arith)) rs rs' fun st' c srt=>?_
 obtain ⟨xs,g,rfl,hp,hsm⟩:=c
 have hml:=merged_list (v:=(x,na+nb,p)) hi1
 refine h _ ⟨⟨hp.trans R.s.perm,R.s.kind,R.s.failed⟩,?_,R.le⟩ ?_ fun j hj=>hsm j (by lia)
 ·show Runs κ xs 0 (((pendingOf st).setIfInBounds i (x,na+nb,p)).eraseIdxIfInBounds (i+1)).toList hi
  rw [hml]
  refine Runs.app.mpr ⟨x,r1.keep hsm (.inl (Nat.le_refl _)),rfl,by exact lin rn (by simp +arith),?_,?_⟩
  ·rw [<- Nat.add_assoc]; exact srt
  ·rw [<- Nat.add_assoc]; exact r2.keep hsm (.inr (Nat.le_refl _))
 ·show (((pendingOf st).setIfInBounds i (x,na+nb,p)).eraseIdxIfInBounds (i+1)).size+1=(pendingOf st).size
  have:=congrArg List.length hml
  rw [Array.length_toList] at this
  rw [this,List.length_append,List.length_take,List.length_cons,List.length_drop,Array.length_toList]
  exact linE (Nat.add_le_add (Nat.min_le_left (i) ((pendingOf st).size)) (sbE ((pendingOf st).size) (i+2) (lin hi1 (by simp +arith)))) (by simp +arith) (Nat.add_le_add (sbA ((pendingOf st).size) (i+2)) (mnL (i) ((pendingOf st).size) (lin hi1 (by simp +arith)))) (by simp +arith)
theorem Runs.power {A:Around} {s:Shared} {κ:KOrd A s} {arr:Array Keyed} {q:Nat}:∀ {l:List (Nat×Nat×Nat)} {lo hi i:Nat},Runs κ arr lo l hi->Runs κ arr lo (l.modify i fun x=>(x.1,x.2.1,q)) hi
 := by
 intro l
 induction l with
 | nil=>intro _ _ i h; cases i <;> exact h
 | cons t l ih=>
  intro _ _ i h
  cases i with
  | zero=>exact h
  | succ i=>exact ⟨h.1,h.2.1,h.2.2.1,ih h.2.2.2⟩
theorem SR.ch {st st':SortSt} {lo hi:Nat} (R:SR κ a₀ st lo) (c:ChS st st' lo hi):SR κ a₀ st' lo:=by
 have S':=c.sst R.s
 obtain ⟨xs,rfl,p,e⟩:=c
 exact ⟨S',R.r.keep e (.inl (Nat.le_refl _)),R.le⟩
theorem wpS_runs {st:SortSt} {Q:Unit->SortSt->Prop} (S:SSt κ a₀ st) (hP:pendingOf st=#[]) (h0:∀ p∈a₀.toList,κ.Has p) (h2:1<=a₀.size)
  (h:∀ st',SSt κ a₀ st'->Srt κ (arrOf st') 0 a₀.size->Q () st'):wpS (model prog w) A E s sortRuns' Q st:=by
 unfold sortRuns'
 refine wpS_bind (wpS_get ?_)
 have hsz:(arrOf st).size=a₀.size:=S.size
 dsimp only
 rw [hsz]
 generalize (sortPriv% PySem.Builtin.minRun) a₀.size a₀.size 0=mr
 refine wpS_bind (wpS_mono (Q:=fun (c:Option Unit×Nat) st'=>c.1=none/\SR κ a₀ st' a₀.size)
  (wpS_forRange (fun x (c:Option Unit×Nat) st'=>c.1=none/\SR κ a₀ st' c.2/\min x a₀.size<=c.2) ?_ ?_ ?_) ?_)
 ·rintro x ⟨r,lo⟩ st₁ _ hx ⟨rfl,R,hl⟩
  simp only at R hl
  dsimp only
  refine iteP (fun hge=>?_) fun hge=>?_
  ·have:lo=a₀.size:=Nat.le_antisymm R.le hge
   subst this
   exact wpS_pure ⟨rfl,R⟩
  have hlo:=Nat.le_of_lt (Nat.lt_of_not_ge hge)
  refine wpS_bind (wpS_count R.s h0 (by exact lin (sbE (a₀.size) (lo) hlo) (by simp +arith)) (by exact lin (Nat.add_le_add (Nat.lt_of_not_ge hge) (sbA (a₀.size) (lo))) (by simp +arith)) fun m st₂ c2 hm1 hm2 s2=>?_)
  have R2:=R.ch c2
  dsimp only
  apply share1 (prog:=prog) (w:=w) (A:=A) (E:=E) (s:=s) (fun n st'=>SR κ a₀ st' lo/\1<=n/\lo+n<=a₀.size/\Srt κ (arrOf st') lo (lo+n))
  case h1=>
   intro hd
   refine iteP (fun hlt=>?_) fun hlt=>?_
   ·refine wpS_bind (wpS_lift (wpAny_rule ⟨rfl,?_⟩))
    generalize hf:min (a₀.size - lo) mr=force
    have hmf:m<=force:=hf ▸ Nat.le_min.mpr ⟨hm2,Nat.le_of_lt hlt⟩
    have hfz:lo+force<=a₀.size:=by exact lin (Nat.add_le_add (sbE (a₀.size) (lo) hlo) (Nat.add_le_add (Nat.le_of_eq hf.symm) (Nat.min_le_left (a₀.size - lo) (mr)))) (by simp +arith)
    refine wpS_bind (wpS_binary R2.s h0 hfz hmf s2 fun st₃ c3 s3=>iteP (fun h=>nomatch h) fun _=>?_)
    exact hd force st₃ ⟨R2.ch c3,Nat.le_trans hm1 hmf,hfz,s3⟩
   ·exact hd m st₂ ⟨R2,hm1,by exact lin (Nat.add_le_add (sbE (a₀.size) (lo) hlo) hm2) (by simp +arith),s2⟩
  case h2=>
   rintro n st₃ ⟨R3,n1,n2,s3⟩
   refine wpS_bind (wpS_get ?_)
   apply share (prog:=prog) (w:=w) (A:=A) (E:=E) (s:=s) (fun st'=>SR κ a₀ st' lo/\Srt κ (arrOf st') lo (lo+n))
   case h1=>
    intro hd
    cases hb:(pendingOf st₃).back? with
    | none=>
     dsimp only
     exact hd st₃ ⟨R3,s3⟩
    | some t=>
     obtain ⟨x1,y1,p1⟩:=t
     dsimp only
     generalize (sortPriv% PySem.Builtin.power) a₀.size (2 * x1+y1) (2 * x1+y1+y1+n) a₀.size=pw
     refine wpS_bind (wpS_mono (Q:=fun (c:Option Unit×Unit) st₄=>c.1=none/\SR κ a₀ st₄ lo/\Srt κ (arrOf st₄) lo (lo+n))
      (wpS_forRange (fun _ (c:Option Unit×Unit) st₄=>c.1=none/\SR κ a₀ st₄ lo/\Srt κ (arrOf st₄) lo (lo+n)) ?_ ?_ ?_) ?_)
     ·rintro y ⟨r,u⟩ st₄ _ _ ⟨rfl,R4,s4⟩
      refine wpS_bind (wpS_get ?_)
      cases hg:(if (pendingOf st₄).size > 1 then (pendingOf st₄)[(pendingOf st₄).size - 2]? else none) with
      | none=>exact wpS_pure ⟨rfl,R4,s4⟩
      | some t=>
       have h1:(pendingOf st₄).size > 1:=Decidable.byContradiction fun hn=>by rw [if_neg hn] at hg; cases hg
       refine iteP (fun ho=>wpS_pure ⟨rfl,R4,s4⟩) fun ho=>?_
       exact wpS_bind (wpS_mergeR R4 h0 (by show (pendingOf st₄).size - 2+1 < (pendingOf st₄).size; exact (sbE ((pendingOf st₄).size) (2) (lin h1 (by simp +arith)))) fun st₅ R5 _ sm=>iteP (fun h=>nomatch h) fun _=>wpS_pure ⟨rfl,R5,sm.srt s4 (.inr (Nat.le_refl _))⟩)
     ·rintro ⟨r,u⟩ st₄ hh
      exact hh
     ·exact ⟨rfl,R3,s3⟩
     ·rintro ⟨r,u⟩ st₄ ⟨hr,R4,s4⟩
      simp only at hr
      subst hr
      dsimp only
      refine wpS_bind (wpS_modify (hd _ ⟨⟨⟨R4.s.perm,R4.s.kind,R4.s.failed⟩,?_,R4.le⟩,s4⟩))
      show Runs κ (arrOf st₄) 0 ((pendingOf st₄).modify ((pendingOf st₄).size - 1) fun x=>(x.1,x.2.1,pw)).toList lo
      rw [Array.toList_modify]
      exact R4.r.power
   case h2=>
    rintro st₄ ⟨R4,s4⟩
    refine wpS_bind (wpS_modify (wpS_pure ⟨rfl,⟨⟨R4.s.perm,R4.s.kind,R4.s.failed⟩,?_,n2⟩,by simp only; exact lin (Nat.add_le_add (Nat.min_le_left (x+1) (a₀.size)) (Nat.add_le_add (mnL (x) (a₀.size) (lin hx (by simp +arith))) (Nat.add_le_add hl n1))) (by simp +arith)⟩))
    show Runs κ (arrOf st₄) 0 ((pendingOf st₄).push (lo,n,0)).toList (lo+n)
    rw [Array.toList_push]
    exact Runs.app.mpr ⟨lo,R4.r,rfl,n1,s4,rfl⟩
 ·rintro ⟨r,lo⟩ st₁ ⟨rfl,R,hl⟩
  simp only at R hl
  have hl2:=R.le
  have:lo=a₀.size:=by simp only [Nat.zero_max,Nat.min_self] at hl; exact linE hl2 (by simp +arith) hl (by simp +arith)
  subst this
  exact ⟨rfl,R⟩
 ·exact ⟨rfl,⟨S,by rw [hP]; rfl,Nat.zero_le _⟩,by simp⟩
 ·rintro ⟨r,lo⟩ st₁ ⟨hr,R⟩
  simp only at hr
  subst hr
  dsimp only
  have hps:(pendingOf st₁).size<=a₀.size:=by
   have:=R.r.le
   simpa using this
  refine wpS_bind (wpS_mono (Q:=fun (c:Option Unit×Unit) st₂=>c.1=none/\SR κ a₀ st₂ a₀.size/\(pendingOf st₂).size<=1)
   (wpS_forRange (fun x (c:Option Unit×Unit) st₂=>c.1=none/\SR κ a₀ st₂ a₀.size/\(pendingOf st₂).size+x<=a₀.size+1) ?_ ?_ ?_) ?_)
  ·rintro x ⟨r,u⟩ st₂ _ hx ⟨rfl,R2,hp⟩
   refine wpS_bind (wpS_get ?_)
   by_cases h1:(pendingOf st₂).size<=1
   ·rw [if_pos h1]
    exact wpS_pure ⟨rfl,R2,h1⟩
   ·rw [if_neg h1]
    have key:∀ i,i+1 < (pendingOf st₂).size->wpS (model prog w) A E s (mergeAt' i) (fun b st₃=>b=true/\SR κ a₀ st₃ a₀.size/\(pendingOf st₃).size+(x+1)<=a₀.size+1) st₂:=fun i hi=>
     wpS_mergeR R2 h0 hi fun st₃ R3 hc _=>⟨rfl,R3,by exact lin (Nat.add_le_add hp (Nat.le_of_eq hc)) (by simp +arith)⟩
    have pick:∀ (c:Prop) [Decidable c],(if c then (pendingOf st₂).size - 2 - 1 else (pendingOf st₂).size - 2)+1 < (pendingOf st₂).size:=fun c _=>by
     by_cases hc:c
     ·rw [if_pos hc]; exact linL (Nat.add_le_add (Nat.sub_le ((pendingOf st₂).size - 2) (1)) (sbE ((pendingOf st₂).size) (2) (lin (Nat.lt_of_not_ge h1) (by simp +arith)))) (by simp +arith)
     ·rw [if_neg hc]; exact (sbE ((pendingOf st₂).size) (2) (lin (Nat.lt_of_not_ge h1) (by simp +arith)))
    exact wpS_bind (wpS_mono (key _ (pick _)) fun b st₃ oo=>by obtain ⟨hb,R3,hc⟩:=oo; exact by subst hb; exact wpS_pure ⟨rfl,R3,hc⟩)
  ·rintro ⟨r,u⟩ st₂ ⟨hr,R2,hp⟩
   exact ⟨hr,R2,by simp only [Nat.zero_max] at hp; exact lin hp (by simp +arith)⟩
  ·exact ⟨rfl,R,by exact lin hps (by simp +arith)⟩
  ·rintro ⟨r,u⟩ st₂ ⟨hr,R2,hp⟩
   simp only at hr
   subst hr
   refine wpS_pure (h _ R2.s ?_)
   have r:=R2.r
   have hlen:(pendingOf st₂).toList.length<=1:=by simpa using hp
   match hq:(pendingOf st₂).toList,hlen with
   | [],_=>
    rw [hq] at r
    have:0=a₀.size:=r
    exact (linF (Nat.add_le_add h2 (Nat.le_of_eq this.symm)) (by simp +arith)).elim
   | [(x,n,p)],_=>
    rw [hq] at r
    obtain ⟨a,b,c,d⟩:=r
    have:0+n=a₀.size:=d
    rw [this] at c
    exact c
   | _::_::_,hl=>simp at hl
end
end Mine
end
section
namespace Mine
noncomputable def srtHeap (h:Heap) (a:Addr) (vs:List Value):Heap:=((h.update a (Obj.mapSeq fun _=>#[])).push (seqObj "tuple" vs.toArray 0)).push (seqObj "list" #[] 0)
section
variable {prog:Program} {w:World} {A:Around} {E:Value->Shared->Prop} {s:Shared}
theorem list_sortG {a:Addr} {vs:List Value} {n:Nat} {P:Fin->Shared->Prop} (κ:KOrd A { s with heap:=srtHeap s.heap a vs }) (ho:s.heap.get? a=some (seqObj "list" vs.toArray n))
  (h0:∀ v∈vs,∃ k,κ.keyOf v=some k) (hkk:∀ Q:SortKind->Shared->Prop,2<=vs.length->Q κ.kd { s with heap:=srtHeap s.heap a vs }->wpAny (model prog w) A (keyKind' vs.toArray) Q E { s with heap:=srtHeap s.heap a vs }) (hz:vs.length<=2 ^ 22)
  (h:∀ xs:Array Keyed,xs.Perm (pairsOf vs)->κ.Sd xs.toList->P (.done (.ret .none)) { s with heap:=sortedHeap s.heap a vs (xs.map (·.2)) }) :
  wpAny (model prog w) A (Builtin.«list.sort» ⟨[.ref a],[]⟩) P E s:=by
 rw [list_sort_plain]
 have ha:a < s.heap.objs.size:=Heap.lt_size ho
 have hz':vs.toArray.size<=sizeLine:=by rw [sizeLine_eq]; simp; exact lin hz (by simp +arith)
 refine wpAny_bind (listItems_at ho rfl ?_)
 refine wpAny_bind (listUpdate_at ho rfl ?_ (hsz:=hz'))
 obtain ⟨e1,ho1⟩:∃ e1,(s.heap.update a (Obj.mapSeq fun _=>#[])).get? a=some (seqObj "list" #[] e1):=⟨_,get?_update_seq ho (fun _=>#[])⟩
 refine wpAny_bind (seqEpoch_at ho1 rfl ?_)
 refine wpAny_bind (wpAny_newTuple ?_ (by first | exact hz' | (rw [sizeLine_eq]; simp; omega)))
 refine wpAny_bind (wpAny_newList ?_)
 refine wpAny_holding ?_
 have ho6:(srtHeap s.heap a vs).get? a=some (seqObj "list" #[] e1):=by
  unfold srtHeap
  rw [Heap.get?_push_ne _ _ _ (by rw [size_push',Heap.size_update]; exact Nat.ne_of_lt (Nat.lt_succ_of_lt ha)),Heap.get?_push_ne _ _ _ (by rw [Heap.size_update]; exact Nat.ne_of_lt ha)]
  exact ho1
 show wpAny (model prog w) A _ P E { s with heap:=srtHeap s.heap a vs }
 dsimp only
 have hp0:∀ p∈(pairsOf vs).toList,κ.Has p:=fun p hp=>by
  rw [pairsOf_toList] at hp
  exact h0 _ (mem_zip_self hp).2
 by_cases h2:vs.toArray.size < 2
 ·rw [if_pos h2,if_pos h2]
  refine wpAny_bind (wpAny_pure ?_)
  rw [StateT.run_pure]
  refine wpAny_bind (wpAny_pure ?_)
  dsimp only
  refine wpAny_bind (seqEpoch_at ho6 rfl ?_)
  refine wpAny_bind (listUpdate_at ho6 rfl ?_ (hsz2:=by rw [Array.size_map]; show (pairsOf vs).size<=_; rw [pairsOf_size,sizeLine_eq]; exact lin hz (by simp +arith)))
  simp only [bne_self_eq_false,Bool.false_eq_true,if_false]
  refine wpAny_pure (h (pairsOf vs) (Array.Perm.refl _) ?_)
  rw [pairsOf_toList]
  match vs,h2 with
  | [],_=>exact .nil
  | [v],_=>exact List.pairwise_singleton _ _
  | _::_::_,h2=>simp at h2; exact (linF h2 (by simp +arith)).elim
 ·rw [if_neg h2,if_neg h2]
  refine wpAny_bind (hkk _ (by simp at h2; omega) ?_)
  refine wpAny_bind (wpAny_mono (wpS_runs (κ:=κ) (a₀:=pairsOf vs) (st:=SortSt.mk' κ.kd (vs.toArray.zip vs.toArray) #[] 7 none)
   (Q:=fun _ st'=>SSt κ (pairsOf vs) st'/\Srt κ (arrOf st') 0 (pairsOf vs).size) ⟨Array.Perm.refl _,rfl,rfl⟩ rfl hp0 (by rw [pairsOf_size]; simp at h2; exact lin h2 (by simp +arith)) fun st' a1 a2=>⟨a1,a2⟩) ?_ fun _ _ e=>e)
  rintro ⟨⟨⟩,st'⟩ s' ⟨rfl,hp,hs⟩
  dsimp only
  refine wpAny_bind (seqEpoch_at ho6 rfl ?_)
  refine wpAny_bind (listUpdate_at ho6 rfl ?_ (hsz2:=by refine Nat.le_trans (Nat.le_of_eq ((Array.size_map ..).trans (hp.size.trans (pairsOf_size _)))) ?_; rw [sizeLine_eq]; exact lin hz (by simp +arith)))
  rw [hp.failed]
  simp only [bne_self_eq_false,Bool.false_eq_true,if_false]
  refine wpAny_pure (h (arrOf st') hp.perm (sd_of ?_))
  rw [hp.size]; exact hs
theorem sortedG {l:Addr} {vs:List Value} {Q:Value->Shared->Prop} (hl:s.heap.IsList l vs.toArray) (hz:vs.length<=2 ^ 22)
  (κ:∀ A' h',(∀ b o,s.heap.get? b=some o->h'.get? b=some o)->KOrd A' { s with heap:=h' }) (h0:∀ A' h' k,∀ v∈vs,∃ x,(κ A' h' k).keyOf v=some x)
  (hkk:∀ A' h' k (Q:SortKind->Shared->Prop) (E:Value->Shared->Prop),2<=vs.length->Q (κ A' h' k).kd { s with heap:=h' }->wpAny (model prog w) A' (keyKind' vs.toArray) Q E { s with heap:=h' })
  (h:∀ A' h' k,∀ xs:Array Keyed,xs.Perm (pairsOf vs)->(κ A' h' k).Sd xs.toList->Q (.ref (s.heap.objs.size+1)) { s with heap:=sortedAll s.heap vs (xs.map (·.2)) }) :
  wpAny (model prog w) A (call (.builtin "sorted") [.ref l]) Q E s:=by
 refine Calls.call_function_entry kind_sorted plain_sorted entry_sorted (args_sorted1 _) ?_
 unfold Builtin.«sorted»
 refine wpAny_bind (m:=checkCount "sorted" 1 1 _) (wpAny_pure ?_)
 refine wpAny_bind (collect_list hl ?_ (by rw [sizeLine_eq]; exact lin hz (by simp +arith)))
 refine wpAny_bind (wpAny_newList ?_ (by rw [sizeLine_eq]; omega))
 have hsz:((s.heap.push (seqObj "list" #[] 0)).update s.heap.objs.size (Obj.mapSeq (·++vs.toArray))).objs.size=s.heap.objs.size+1:=by
  rw [Heap.size_update,size_push']
 have hoL:(((s.heap.push (seqObj "list" #[] 0)).update s.heap.objs.size (Obj.mapSeq (·++vs.toArray))).push (seqObj "list" vs.toArray 0)).get? (s.heap.objs.size+1)=some (seqObj "list" vs.toArray 0):=by
  rw [<- hsz]; exact Heap.get?_push_size _ rfl
 show wpAny _ _ _ _ _ { s with heap:=((s.heap.push (seqObj "list" #[] 0)).update s.heap.objs.size (Obj.mapSeq (·++vs.toArray))).push (seqObj "list" vs.toArray 0) }
 rw [hsz]
 have keep:∀ b o,s.heap.get? b=some o->(srtHeap (((s.heap.push (seqObj "list" #[] 0)).update s.heap.objs.size (Obj.mapSeq (·++vs.toArray))).push (seqObj "list" vs.toArray 0)) (s.heap.objs.size+1) vs).get? b=some o:=fun b o e=>by
  have hlt:b < s.heap.objs.size:=Heap.lt_size e
  unfold srtHeap
  have n1:∀ x:Nat,s.heap.objs.size<=x->b≠x:=fun x hx=>Nat.ne_of_lt (Nat.lt_of_lt_of_le hlt hx)
  rw [Heap.get?_push_ne _ _ _ (n1 _ (by simp only [size_push',Heap.size_update]; exact lin (Nat.le_refl 0) (by simp +arith))),Heap.get?_push_ne _ _ _ (n1 _ (by simp only [size_push',Heap.size_update]; exact lin (Nat.le_refl 0) (by simp +arith))),Heap.get?_update_ne _ _ _ _ (n1 _ (by simp +arith)),
   Heap.get?_push_ne _ _ _ (n1 _ (by simp only [size_push',Heap.size_update]; simp +arith)),Heap.get?_update_ne _ _ _ _ (n1 _ (by simp +arith)),Heap.get?_push_ne _ _ _ (n1 _ (by simp +arith))]
  exact e
 refine wpAny_bind (wpAny_holding (wpAny_call_entry slot_list_sort ⟨_,hoL,rfl⟩ entry_list_sort (list_sortG (κ _ _ keep) hoL (h0 _ _ _) (fun Q hn hq=>hkk _ _ keep Q _ hn hq) hz fun xs a1 a2=>⟨_,rfl,?_⟩) (args_list_sort _)))
 exact wpAny_pure ⟨_,rfl,h _ _ keep xs a1 a2⟩
end
end Mine
end
section
namespace Mine
noncomputable def intO:KeyOrd where
 α:=Int
 blt a b:=decide (a < b)
 irrefl a:=by simp
 trans a b c h1 h2:=by rw [decide_eq_true_iff] at *; exact linZL (Int.add_le_add h1 h2) (by simp +arith)
 negTrans a b c h:=by rw [decide_eq_true_iff] at h; rw [decide_eq_true_iff,decide_eq_true_iff]; omega
 total a b h1 h2:=by rw [decide_eq_false_iff_not] at *; exact linZE (Int.le_of_not_gt h2) (by simp +arith) (Int.le_of_not_gt h1) (by simp +arith)
theorem intO_le {a b:Int} (h:intO.kle a b):a<=b:=Int.not_lt.mp (of_decide_eq_false h)
noncomputable def intKeyOf:Value->Option Int
 | .int n _=>some n
 | _=>none
theorem intKeyOf_some {v:Value} {n:Int} (h:intKeyOf v=some n):∃ t,v=.int n t:=by
 cases v <;> first | cases h; exact ⟨_,rfl⟩ | cases h
noncomputable def ordI (A:Around) (s:Shared):KOrd A s where
 kd:=oneType'
 O:=intO
 keyOf:=intKeyOf
 dflt:=(0:Int)
 cmp prog w E x y a b Q h1 h2 h:=by
  obtain ⟨t,rfl⟩:=intKeyOf_some h1
  obtain ⟨u,rfl⟩:=intKeyOf_some h2
  rw [keyLt'_oneType]
  exact oneLt_int h
noncomputable abbrev T3:=Int×Int×Int
noncomputable def lt3 (x y:T3):Bool:=decide (x.1 < y.1\/(x.1=y.1/\(x.2.1 < y.2.1\/(x.2.1=y.2.1/\x.2.2 < y.2.2))))
theorem lt3_iff {x y:T3}:lt3 x y=true ↔ (x.1 < y.1\/(x.1=y.1/\(x.2.1 < y.2.1\/(x.2.1=y.2.1/\x.2.2 < y.2.2)))):=decide_eq_true_iff
theorem lt3_no {x y:T3}:lt3 x y=false ↔ ¬ (x.1 < y.1\/(x.1=y.1/\(x.2.1 < y.2.1\/(x.2.1=y.2.1/\x.2.2 < y.2.2)))):=decide_eq_false_iff_not
theorem lexT {x y z:Int} {p q r:Prop} (h:p->q->r) (h1:x < y\/(x=y/\p)) (h2:y < z\/(y=z/\q)):x < z\/(x=z/\r):=by
 rcases h1 with h1 | ⟨rfl,h1⟩
 ·rcases h2 with h2 | ⟨rfl,_⟩
  ·exact .inl (Int.lt_trans h1 h2)
  ·exact .inl h1
 ·exact h2.imp id fun h2=>⟨h2.1,h h1 h2.2⟩
theorem lexN {x y z:Int} {p q r:Prop} (h:p->q\/r) (h1:x < y\/(x=y/\p)):(x < z\/(x=z/\q))\/(z < y\/(z=y/\r)):=by
 rcases Int.lt_trichotomy x z with c | rfl | c
 ·exact .inl (.inl c)
 ·rcases h1 with h1 | ⟨rfl,h1⟩
  ·exact .inr (.inl h1)
  ·exact (h h1).imp (fun h=>.inr ⟨rfl,h⟩) fun h=>.inr ⟨rfl,h⟩
 ·exact .inr (.inl (h1.elim (Int.lt_trans c) fun e=>e.1 ▸ c))
theorem lt_split {x y z:Int} (h:x < y):x < z\/z < y:=by
 rcases Int.lt_trichotomy x z with c | rfl | c
 ·exact .inl c
 ·exact .inr h
 ·exact .inr (Int.lt_trans c h)
theorem lexE {x y:Int} {p q:Prop} (h1:¬ (x < y\/(x=y/\p))) (h2:¬ (y < x\/(y=x/\q))):x=y/\¬ p/\¬ q:=
 have e:x=y:=Int.le_antisymm (Int.not_lt.mp fun h=>h2 (.inl h)) (Int.not_lt.mp fun h=>h1 (.inl h))
 ⟨e,fun h=>h1 (.inr ⟨e,h⟩),fun h=>h2 (.inr ⟨e.symm,h⟩)⟩
theorem lexI {x:Int} {p:Prop} (h:¬ p):¬ (x < x\/(x=x/\p)):=fun c=>c.elim (Int.lt_irrefl x) fun c=>h c.2
noncomputable def tupO:KeyOrd where
 α:=T3
 blt a b:=lt3 a b
 irrefl a:=lt3_no.mpr (lexI (lexI (Int.lt_irrefl _)))
 trans a b c h1 h2:=lt3_iff.mpr (lexT (lexT Int.lt_trans) (lt3_iff.mp h1) (lt3_iff.mp h2))
 negTrans a b c h:=by
  rw [lt3_iff,lt3_iff]
  exact lexN (lexN lt_split) (lt3_iff.mp h)
 total a b h1 h2:=by
  obtain ⟨e1,h1,h2⟩:=lexE (lt3_no.mp h1) (lt3_no.mp h2)
  obtain ⟨e2,h1,h2⟩:=lexE h1 h2
  exact Prod.ext e1 (Prod.ext e2 (Int.le_antisymm (Int.not_lt.mp h2) (Int.not_lt.mp h1)))
inductive KeyAt (h:Heap) (v:Value) (k:T3):Prop where
 | mk (a:Addr) (o:Obj) (n:Nat) (t u w:Tok) (e:v=.ref a) (ho:h.get? a=some o) (hd:o.data=.seq #[.int k.1 t,.int k.2.1 u,.int k.2.2 w] n)
theorem KeyAt.uniq {h:Heap} {v:Value} {k l:T3} (x:KeyAt h v k) (y:KeyAt h v l):k=l:=by
 obtain ⟨a,o,n,t,u,w,rfl,ho,hd⟩:=x
 obtain ⟨a',o',n',t',u',w',e,ho',hd'⟩:=y
 cases e
 rw [ho] at ho'
 cases ho'
 rw [hd] at hd'
 injection hd' with e
 injection e with e
 injection e with e1 e
 injection e with e2 e
 injection e with e3 e
 exact Prod.ext (Value.int.inj e1).1 (Prod.ext (Value.int.inj e2).1 (Value.int.inj e3).1)
open Classical in
noncomputable def tupKey (h:Heap) (v:Value):Option T3:=if e:∃ k,KeyAt h v k then some e.choose else none
theorem tupKey_some {h:Heap} {v:Value} {k:T3} (e:tupKey h v=some k):KeyAt h v k:=by
 unfold tupKey at e
 by_cases q:∃ k,KeyAt h v k
 ·rw [dif_pos q] at e; exact Option.some.inj e ▸ q.choose_spec
 ·rw [dif_neg q] at e; cases e
theorem tupKey_of {h:Heap} {a:Addr} {o:Obj} {n:Nat} {k:T3} {t u w:Tok} (ho:h.get? a=some o) (hd:o.data=.seq #[.int k.1 t,.int k.2.1 u,.int k.2.2 w] n):tupKey h (.ref a)=some k:=
 have q:∃ k,KeyAt h (.ref a) k:=⟨k,_,_,_,_,_,_,rfl,ho,hd⟩
 (dif_pos q).trans (congrArg some (q.choose_spec.uniq ⟨_,_,_,_,_,_,rfl,ho,hd⟩))
theorem lexA {x y:Int} {p:Prop} (e:(x==y)=true):(x < y\/(x=y/\p)) ↔ p:=
 ⟨fun h=>h.elim (fun h=>absurd (eq_of_beq e) (Int.ne_of_lt h)) And.right,fun h=>.inr ⟨eq_of_beq e,h⟩⟩
theorem lexB {x y:Int} {p:Prop} (e:(x==y)=false):(x < y\/(x=y/\p)) ↔ x < y:=
 ⟨fun h=>h.elim id fun h=>absurd h.1 (ne_of_beq_false e),.inl⟩
noncomputable def ordT (A:Around) (s:Shared):KOrd A s where
 kd:=tuples' true
 O:=tupO
 keyOf:=tupKey s.heap
 dflt:=((0,0,0):T3)
 cmp prog w E x y k l Q h1 h2 h:=by
  obtain ⟨a,o,n,t,u,v,rfl,ho,hd⟩:=tupKey_some h1
  obtain ⟨a',o',n',t',u',v',rfl,ho',hd'⟩:=tupKey_some h2
  have h':Q (lt3 k l) s:=h
  refine kat_lt ho hd ho' hd' ?_
  refine kat_cons (wpAny_eqBool_int (kat_go (fun e1=>kat_yes ?_) (fun e1=>kat_no ?_)))
  ·refine kat_cons (wpAny_eqBool_int (kat_go (fun e2=>kat_yes ?_) (fun e2=>kat_no ?_)))
   ·refine kat_cons (wpAny_eqBool_int (kat_go (fun e3=>kat_yes (kat_nil ?_)) (fun e3=>kat_no ?_)))
    ·have:lt3 k l=false:=lt3_no.mpr fun c=>Int.ne_of_lt ((lexA e2).mp ((lexA e1).mp c)) (eq_of_beq e3)
     rw [this] at h'
     exact h'
    ·refine kat_one _ _ (wpAny_lt_int ?_)
     have:lt3 k l=decide (k.2.2 < l.2.2):=decide_eq_decide.mpr ((lexA e1).trans (lexA e2))
     rw [this] at h'
     exact h'
   ·refine kat_one _ _ (wpAny_lt_int ?_)
    have:lt3 k l=decide (k.2.1 < l.2.1):=decide_eq_decide.mpr ((lexA e1).trans (lexB e2))
    rw [this] at h'
    exact h'
  ·refine oneLt_int ?_
   have:lt3 k l=decide (k.1 < l.1):=decide_eq_decide.mpr (lexB e1)
   rw [this] at h'
   exact h'
theorem VRels.maps2 {T:Led} {α β:Type} {f:β->V} {k:α->β} {g:α->Value} {l:List α} (h:∀ x∈l,VRel T (f (k x)) (g x)):VRels T ((l.map k).map f) (l.map g):=by
 induction l with
 | nil=>exact .nil
 | cons x l ih=>exact .cons (h _ (.head _)) (ih fun y hy=>h y (.tail _ hy))
theorem sorted_keys {A:Around} {s:Shared} {κ:KOrd A s} {vs:List Value} {xs:Array Keyed} (hp:xs.Perm (pairsOf vs)) (hs:κ.Sd xs.toList) {ks:List κ.O.α} (hk:vs.map (fun v=>(κ.keyOf v).getD κ.dflt)=ks) :
  (xs.toList.map κ.k).Perm ks/\(xs.toList.map κ.k).Pairwise κ.O.kle/\(xs.map (·.2)).toList=xs.toList.map (·.1)/\∀ p∈xs.toList,p.1∈vs:=by
 have hl:xs.toList.Perm (vs.zip vs):=by rw [<- pairsOf_toList]; exact Array.perm_iff_toList_perm.mp hp
 have hmem:∀ p,p∈xs.toList->p.1=p.2/\p.1∈vs:=fun p hp'=>mem_zip_self (hl.mem_iff.mp hp')
 refine ⟨?_,List.pairwise_map.mpr hs,?_,fun p hp=>(hmem p hp).2⟩
 ·have h1:=hl.map κ.k
  refine h1.trans (.of_eq ?_)
  rw [<- hk]
  have:(vs.zip vs).map κ.k=((vs.zip vs).map Prod.fst).map (fun v=>(κ.keyOf v).getD κ.dflt):=by rw [List.map_map]; rfl
  rw [this,List.map_fst_zip (Nat.le_refl _)]
 ·rw [Array.toList_map]; exact List.map_congr_left fun p hp'=>(hmem p hp').1.symm
section
variable {D:Wd} {fm:Fm} {A:Around} {H:HL} {vs:List (Option V)} {T:Led} {s:Shared}
theorem Inv.sorted {ws:List Value} {xs:Array Keyed} {us:List V} (I:Inv D fm T s H vs) (hu:VRels T us (xs.map (·.2)).toList) :
  Inv D fm T { s with heap:=sortedAll s.heap ws (xs.map (·.2)) } ((s.heap.objs.size+1,.list us)::H) vs:=by
 obtain ⟨e,he⟩:=sortedAll_at s.heap ws (xs.map (·.2))
 refine I.new (tk:=s.toks) (.list (n:=e) hu) (fun p hp=>?_) (by simp) fun _ _=>sortedAll_old
 rcases List.mem_cons.mp hp with rfl | hp
 ·exact ⟨he,Nat.le_succ _⟩
 ·cases hp
theorem ints_keys {is:List Int}:∀ {ws:List Value},VRels T (is.map V.int) ws->ws.map (fun v=>(intKeyOf v).getD 0)=is/\∀ v∈ws,∃ n t,v=.int n t:=by
 induction is with
 | nil=>intro ws h; rw [h.nil_inv]; exact ⟨rfl,fun _ h=>by cases h⟩
 | cons i is ih=>
  intro ws h
  obtain ⟨v,us,rfl,r,rs⟩:=h.cons_inv
  obtain ⟨t,rfl⟩:=r.inv
  obtain ⟨a,b⟩:=ih rs
  exact ⟨congrArg (i::·) a,fun v hv=>(List.mem_cons.mp hv).elim (fun e=>⟨_,_,e⟩) (b v)⟩
theorem CL.sortedI {a:Addr} {is:List Int} {Q:V->HL->Prop} (m:(a,.list (is.map .int))∈H) (hz:is.length<=2 ^ 22) (hq:∀ l (js:List Int),js.Perm is->js.Pairwise (·<=·)->Q (.ref l) ((l,.list (js.map .int))::H)) :
  CL D A (.raw (.builtin "sorted")) [.ref a] H Q:=⟨fun fm T s vs fv ws I hf hw=>by
 obtain ⟨_,rfl⟩:=hf.inv
 obtain ⟨v,rfl,h1⟩:=vrels1 hw
 obtain ⟨_,rfl⟩:=h1.inv
 obtain ⟨us,n,g1,g2⟩:=I.listAt m
 have hl:=g2.length
 rw [List.length_map] at hl
 have hi:=g2.ints
 obtain ⟨hk,hmem⟩:=ints_keys g2
 refine sortedG ⟨_,g1,rfl,_,rfl⟩ (by exact Nat.le_trans (Nat.le_of_eq hl) hz) (fun A' h' _=>ordI A' { s with heap:=h' }) (fun A' h' _ v hv=>?_) (fun A' h' _ Q E hn hq=>?_) fun A' h' _ xs hp hs=>?_
 ·obtain ⟨n,t,rfl⟩:=hmem v hv
  exact ⟨n,rfl⟩
 ·match us,hn,hi with
  | v₁::v₂::rest,_,hi=>
   rw [keyKind_ints hi]
   exact wpAny_pure hq
 ·obtain ⟨r1,r2,r3,r4⟩:=sorted_keys hp hs hk
  have hI:=I.sorted (ws:=us) (xs:=xs) (us:=(xs.toList.map (ordI A' { s with heap:=h' }).k).map V.int) (by
   rw [r3]
   refine VRels.maps2 fun p hp=>?_
   obtain ⟨n,t,e⟩:=hmem _ (r4 p hp)
   have:(ordI A' { s with heap:=h' }).k p=n:=by unfold KOrd.k; rw [e]; rfl
   show VRel T (.int ((ordI A' { s with heap:=h' }).k p)) p.1
   rw [this,e]
   exact .int _ _)
  refine ⟨T,_,_,.refl _,hI,.ref _,hq _ _ r1 (r2.imp fun {a b} h=>?_)⟩
  exact intO_le h⟩
noncomputable def tupV (k:T3):V:=.tup [.int k.1,.int k.2.1,.int k.2.2]
inductive TupAt (T:Led) (h:Heap) (k:T3) (v:Value):Prop where
 | mk (a:Addr) (o:Obj) (n:Nat) (t u w:Tok) (e:v=.ref a) (m:(a,o)∈T) (hg:h.get? a=some o) (hc:o.cls=.type "tuple") (hd:o.data=.seq #[.int k.1 t,.int k.2.1 u,.int k.2.2 w] n) (hr:VRel T (tupV k) v)
theorem tup_inv (I:Inv D fm T s H vs) {k:T3} {v:Value} (h:VRel T (tupV k) v):TupAt T s.heap k v:=by
 have h':=h
 cases h with
 | tup m hc hd hr=>
  obtain ⟨_,_,rfl,r1,q1⟩:=hr.cons_inv
  obtain ⟨t,rfl⟩:=r1.inv
  obtain ⟨_,_,rfl,r2,q2⟩:=q1.cons_inv
  obtain ⟨u,rfl⟩:=r2.inv
  obtain ⟨_,_,rfl,r3,q3⟩:=q2.cons_inv
  obtain ⟨w,rfl⟩:=r3.inv
  rw [q3.nil_inv] at hd
  exact ⟨_,_,_,t,u,w,rfl,m,I.tupAt m,hc,hd,h'⟩
theorem tups_keys (I:Inv D fm T s H vs) {ts:List T3}:∀ {ws:List Value},VRels T (ts.map tupV) ws->ws.map (fun v=>(tupKey s.heap v).getD (0,0,0))=ts/\∀ v∈ws,∃ k,TupAt T s.heap k v:=by
 induction ts with
 | nil=>intro ws h; rw [h.nil_inv]; exact ⟨rfl,fun _ h=>by cases h⟩
 | cons i is ih=>
  intro ws h
  obtain ⟨v,us,rfl,r,rs⟩:=h.cons_inv
  obtain ⟨a,b⟩:=ih rs
  have q:=tup_inv I r
  obtain ⟨_,_,_,_,_,_,rfl,_,hg,_,hd,_⟩:=id q
  exact ⟨by rw [List.map_cons,a,tupKey_of (k:=i) hg hd]; rfl,fun v hv=>(List.mem_cons.mp hv).elim (fun e=>⟨i,e ▸ q⟩) (b v)⟩
theorem katTups (I:Inv D fm T s H vs) {ts:List T3} {h':Heap} (k:∀ b o,s.heap.get? b=some o->h'.get? b=some o):∀ {ws:List Value},VRels T (ts.map tupV) ws->∃ fs,KatTups h' ws fs/\fs.length=ws.length/\∀ f∈fs,∃ n t,f=.int n t:=by
 induction ts with
 | nil=>intro ws h; rw [h.nil_inv]; exact ⟨[],.nil,rfl,fun _ h=>by cases h⟩
 | cons i is ih=>
  intro ws h
  obtain ⟨v,us,rfl,r,rs⟩:=h.cons_inv
  obtain ⟨fs,a,b,c⟩:=ih rs
  obtain ⟨_,_,_,t,_,_,rfl,_,hg,hc,hd,_⟩:=tup_inv I r
  exact ⟨.int i.1 t::fs,.cons (k _ _ hg) hc hd rfl a,congrArg Nat.succ b,fun f hf=>(List.mem_cons.mp hf).elim (fun e=>⟨_,_,e⟩) (c f)⟩
theorem CL.sortedT {a:Addr} {ts:List T3} {Q:V->HL->Prop} (m:(a,.list (ts.map tupV))∈H) (hz:ts.length<=2 ^ 22) (hq:∀ l (us:List T3),us.Perm ts->us.Pairwise (fun x y=>lt3 y x=false)->Q (.ref l) ((l,.list (us.map tupV))::H)) :
  CL D A (.raw (.builtin "sorted")) [.ref a] H Q:=⟨fun fm T s vs fv ws I hf hw=>by
 obtain ⟨_,rfl⟩:=hf.inv
 obtain ⟨v,rfl,h1⟩:=vrels1 hw
 obtain ⟨_,rfl⟩:=h1.inv
 obtain ⟨us,n,g1,g2⟩:=I.listAt m
 have hl:=g2.length
 rw [List.length_map] at hl
 obtain ⟨hk,hmem⟩:=tups_keys I g2
 have key:∀ {h':Heap},(∀ b o,s.heap.get? b=some o->h'.get? b=some o)->∀ v∈us,tupKey h' v=tupKey s.heap v/\∃ k,tupKey s.heap v=some k/\VRel T (tupV k) v:=fun {h'} kp v hv=>by
  obtain ⟨k,a,o,n,t,u,w,rfl,_,hg,_,hd,hr⟩:=hmem v hv
  exact ⟨by rw [tupKey_of (k:=k) hg hd,tupKey_of (k:=k) (kp _ _ hg) hd],k,tupKey_of (k:=k) hg hd,hr⟩
 refine sortedG ⟨_,g1,rfl,_,rfl⟩ (by exact Nat.le_trans (Nat.le_of_eq hl) hz) (fun A' h' _=>ordT A' { s with heap:=h' }) (fun A' h' kp v hv=>?_) (fun A' h' kp Q E hn hq=>?_) fun A' h' kp xs hp hs=>?_
 ·obtain ⟨e,k,e',_⟩:=key kp v hv
  exact ⟨k,e.trans e'⟩
 ·obtain ⟨fs,k1,k2,k3⟩:=katTups I kp g2
  refine kat_kind (T:=.type "int") k1 (by exact linL (Nat.add_le_add hn (Nat.le_of_eq k2.symm)) (by simp +arith)) (fun v hv=>?_) rfl hq
  obtain ⟨n,t,rfl⟩:=k3 v hv
  exact Looks.now
 ·have hk':us.map (fun v=>((ordT A' { s with heap:=h' }).keyOf v).getD (ordT A' { s with heap:=h' }).dflt)=ts:=by
   rw [<- hk]
   refine List.map_congr_left fun v hv=>?_
   show (tupKey h' v).getD (0,0,0)=_
   rw [(key kp v hv).1]
  obtain ⟨r1,r2,r3,r4⟩:=sorted_keys hp hs hk'
  have hI:=I.sorted (ws:=us) (xs:=xs) (us:=(xs.toList.map (ordT A' { s with heap:=h' }).k).map tupV) (by
   rw [r3]
   refine VRels.maps2 fun p hp=>?_
   obtain ⟨e,k,e',hr⟩:=key kp _ (r4 p hp)
   have:(ordT A' { s with heap:=h' }).k p=k:=by
    show (tupKey h' p.1).getD (0,0,0)=k
    rw [e,e']; rfl
   show VRel T (tupV ((ordT A' { s with heap:=h' }).k p)) p.1
   rw [this]
   exact hr)
  refine ⟨T,_,_,.refl _,hI,.ref _,hq _ _ r1 (r2.imp fun {a b} h=>?_)⟩
  exact h⟩
end
end Mine
end
section
namespace Mine
section
variable {D:Wd} {fm:Fm} {A:Around} {env:Env} {H R:HL} {vs:List (Option V)} {T:Led} {s:Shared}
theorem get_free {h:Heap} {a:Addr} {o:Obj} (e:h.get? a=some o):o.isFreed=false:=by
 have:=((Heap.get?_eq_some h a o).mp e).2
 obtain ⟨c,d,x,sl⟩:=o
 cases x <;> first | rfl | exact Bool.noConfusion (show false=true from this)
theorem Inv.regen {gs':Array GenState} {s':Shared} (I:Inv D fm T s H vs) (hh:s'.heap=s.heap) (ho:s'.os=s.os) (hg:GOk gs' s'.gens):Inv D ⟨fm.F,fm.L,gs',fm.os,fm.ns,fm.nd⟩ T s' H vs:=by
 obtain ⟨ex,b,g,o⟩:=I
 refine ⟨?_,b,hg,ho.trans o⟩
 rw [hh]; exact ex
theorem Inv.swapIn {C:Addr} {oC:Obj} {mc':Str->Option Value} {ns':List Str} {nd':ns'.Nodup} {vs':List (Option V)} (e:Ext C (.raw oC) H R) (I:Inv D fm T s H vs) (hC:fm.F.objs.size<=C) (hns:s.heap.Ns C mc') (hl:LocRel T mc' ns' vs') (hLs:fm.L≠sysModules) :
  ∃ oL mcL,fm.F.objs.size<=fm.L/\(∀ h:Heap,h.get? fm.L=some oL->h.Ns fm.L mcL)/\LocRel T mcL fm.ns vs/\Inv D ⟨fm.F,C,s.gens,s.os,ns',nd'⟩ T s ((fm.L,.raw oL)::R) vs':=by
 obtain ⟨⟨mc,N,F,l,c,n,nd,lo⟩,b,g,os⟩:=I
 obtain ⟨b1,NR,c1,c2,c3⟩:=c.split e
 cases c1 with
 | raw hfr=>
 have pp:(T++N).Perm ((C,oC)::(T++NR)):=by
  refine (List.Perm.append_left T c3).trans ?_
  rw [<- List.append_assoc]
  exact List.Perm.append_right _ List.perm_append_comm
 have n':=News.perm pp n
 have nd2:=(pp.map (·.1)).nodup_iff.mp nd
 rw [List.map_cons] at nd2
 have nd3:=List.nodup_cons.mp nd2
 obtain ⟨oL,es,ep,hLo,r⟩:=F.ns
 have hCL:C≠fm.L:=(n' _ (.head _)).2.1
 have hFL:fm.F.get? fm.L=none:=Heap.get?_none_of_le F.above
 refine ⟨oL,mc,F.above,fun h e=>⟨oL,es,ep,e,r⟩,l,⟨⟨mc',(fm.L,oL)::NR,⟨hns,F.keep,hC⟩,hl,.cons (b:=[(fm.L,oL)]) (.raw (get_free hLo)) c2,?_,?_,?_⟩,b,GOk.refl _,rfl⟩⟩
 ·intro p hp
  have old:∀ p∈T++NR,s.heap.get? p.1=some p.2/\p.1≠C/\fm.F.get? p.1=none:=fun p hp=>by
   have:=n' p (.tail _ hp)
   exact ⟨this.1,fun q=>nd3.1 (by
    have:=List.mem_map_of_mem (f:=(·.1)) hp
    rw [q] at this; exact this),this.2.2⟩
  rcases List.mem_append.mp hp with hp | hp
  ·exact old p (List.mem_append_left _ hp)
  ·rcases List.mem_cons.mp hp with rfl | hp
   ·exact ⟨hLo,Ne.symm hCL,hFL⟩
   ·exact old p (List.mem_append_right _ hp)
 ·have p2:(T++(fm.L,oL)::NR).Perm ((fm.L,oL)::(T++NR)):=List.perm_middle
  refine (p2.map (·.1)).nodup_iff.mpr ?_
  rw [List.map_cons]
  refine List.nodup_cons.mpr ⟨fun q=>?_,nd3.2⟩
  obtain ⟨p,hp,e⟩:=List.mem_map.mp q
  exact (n' p (.tail _ hp)).2.1 e
 ·intro p hp
  rcases List.mem_cons.mp hp with rfl | hp
  ·exact hLs
  ·exact lo p (c3.mem_iff.mpr (.tail _ hp))
theorem Inv.swapOut {F:Heap} {C L:Addr} {gs gs':Array GenState} {os:OsState} {ns ns':List Str} {nd:ns.Nodup} {nd':ns'.Nodup} {oL:Obj} {mcL:Str->Option Value} {T₀:Led} {vs':List (Option V)} (I:Inv D ⟨F,C,gs,os,ns',nd'⟩ T s H vs') (e:Ext L (.raw oL) H R)
  (hL:F.objs.size<=L) (hns:∀ h:Heap,h.get? L=some oL->h.Ns L mcL) (hl:LocRel T₀ mcL ns vs) (hT:Sub T₀ T) (hg:GOk gs' s.gens):Inv D ⟨F,L,gs',os,ns,nd⟩ T s R vs:=by
 obtain ⟨⟨mc,N,F',l,c,n,nd1,lo⟩,b,g,o⟩:=I
 obtain ⟨b1,NR,c1,c2,c3⟩:=c.split e
 cases c1 with
 | raw hfr=>
 have pp:(T++N).Perm ((L,oL)::(T++NR)):=by
  refine (List.Perm.append_left T c3).trans ?_
  rw [<- List.append_assoc]
  exact List.Perm.append_right _ List.perm_append_comm
 have n':=News.perm pp n
 have nd2:=(pp.map (·.1)).nodup_iff.mp nd1
 rw [List.map_cons] at nd2
 have nd3:=List.nodup_cons.mp nd2
 refine ⟨⟨mcL,NR,⟨hns _ (n' _ (.head _)).1,F'.keep,hL⟩,hl.mono hT,c2,fun p hp=>?_,nd3.2,fun p hp=>lo p (c3.mem_iff.mpr (.tail _ hp))⟩,b,hg,o⟩
 have:=n' p (.tail _ hp)
 exact ⟨this.1,fun q=>nd3.1 (by
  have:=List.mem_map_of_mem (f:=(·.1)) hp
  rw [q] at this; exact this),this.2.2⟩
end
end Mine
end
section
namespace Mine
noncomputable def GG (gs₀:Array GenState) (g:Nat) (gens:Array GenState):Prop:=g < gens.size/\GOk gs₀ (gens.setIfInBounds g .finished)
theorem GG.step {gs₀ gens gens':Array GenState} {g:Nat} (h:GG gs₀ g gens) (k:GOk gens gens'):GG gs₀ g gens':=by
 obtain ⟨h1,h2,h3⟩:=h
 have hlt:∀ i,i < gens.size->i < gens'.size:=fun i hi=>by
  have:=k.1 i _ (Array.getElem?_eq_getElem hi)
  exact (Array.getElem?_eq_some_iff.mp this).1
 refine ⟨hlt g h1,fun i x e=>?_,fun i x hi e=>?_⟩
 ·have e':=h2 i x e
  rw [Array.getElem?_setIfInBounds] at e' ⊢
  by_cases hg:g=i
  ·rw [if_pos hg] at e' ⊢
   rw [if_pos (by omega)] at e'
   rw [if_pos (by have:=hlt g h1; omega)]
   exact e'
  ·rw [if_neg hg] at e' ⊢
   exact k.1 i x e'
 ·rw [Array.getElem?_setIfInBounds] at e
  by_cases hg:g=i
  ·rw [if_pos hg] at e
   split at e
   ·cases e; rfl
   ·cases e
  ·rw [if_neg hg] at e
   by_cases hi2:i < gens.size
   ·have e1:gens[i]?=some gens[i]:=Array.getElem?_eq_getElem hi2
    have e2:=k.1 i _ e1
    rw [e] at e2
    have e3:x=gens[i]:=Option.some.inj e2
    refine h3 i x hi ?_
    rw [Array.getElem?_setIfInBounds,if_neg hg,e1,e3]
   ·exact k.2 i x (Nat.not_lt.mp hi2) e
theorem GG.setGen {gs₀:Array GenState} {g:Nat} {s:Shared} (h:GG gs₀ g s.gens) (z:GenState):GG gs₀ g (s.setGen g z).gens:=by
 obtain ⟨h1,h2⟩:=h
 have hs:(s.setGen g z).gens=s.gens.setIfInBounds g z:=rfl
 rw [hs]
 refine ⟨by rw [Array.size_setIfInBounds]; exact h1,?_⟩
 have:(s.gens.setIfInBounds g z).setIfInBounds g .finished=s.gens.setIfInBounds g .finished:=by
  apply Array.ext_getElem?
  intro i
  rw [Array.getElem?_setIfInBounds,Array.getElem?_setIfInBounds,Array.size_setIfInBounds,Array.getElem?_setIfInBounds]
  by_cases hg:g=i
  ·rw [if_pos hg,if_pos hg]
  ·rw [if_neg hg,if_neg hg,if_neg hg]
 rw [this]; exact h2
noncomputable abbrev genFm (F:Heap) (C:Addr) (gs:Array GenState) (os:OsState) (x:Str) (nd:[(".0":Str),x].Nodup):Fm:=⟨F,C,gs,os,[".0",x],nd⟩
structure Gn where
 D:Wd
 gs₀:Array GenState
 g:Nat
 F:Heap
 os:OsState
 C:Addr
 x:Str
 nd:[(".0":Str),x].Nodup
 T₀:Led
 S:Addr
 it:Addr
 L:Addr
 oL:Obj
 ga:Addr
 oga:Obj
 n:Nat
 P:Nat->HL->Prop
 cenv:Env
 elt:Expr
 iter:Expr
 px:Pos
 scope:Scope
 pos:Pos
noncomputable def Gn.e (γ:Gn):Expr:=.GeneratorExp γ.elt [⟨.Name γ.x γ.px,γ.iter,[],0⟩] γ.scope γ.pos
noncomputable def Gn.loop (γ:Gn):Code:=.compLoop γ.e 0 (.ref γ.it) .none γ.cenv
noncomputable def Gn.start (γ:Gn):Code:=.compStart γ.e 0 (.ref γ.it) .none γ.cenv
noncomputable abbrev Gn.fm (γ:Gn) (gs:Array GenState):Fm:=genFm γ.F γ.C gs γ.os γ.x γ.nd
noncomputable def smallS (l:List Str):Prop:=∀ y∈l,y.cps.size<=3
inductive Gn.St (γ:Gn) (i a:Nat) (s:Shared):Prop where
 | mk (T:Led) (acc:List Str) (H:HL) (xv:Option V) (h1:Sub γ.T₀ T) (h2:acc.length<=a) (h3:smallS acc) (h4:γ.P i H) (h5:GG γ.gs₀ γ.g s.gens)
  (I:Inv γ.D (γ.fm s.gens) T s ((γ.it,.io (.riter i (γ.n - i:Int) 1))::(γ.S,.list (acc.map .str))::(γ.L,.raw γ.oL)::(γ.ga,.raw γ.oga)::H) [some (.ref γ.it),xv])
inductive Gn.StE (γ:Gn) (s:Shared):Prop where
 | mk (T:Led) (acc:List Str) (H:HL) (xv:Option V) (h1:Sub γ.T₀ T) (h2:acc.length<=γ.n) (h3:smallS acc) (h4:γ.P γ.n H) (h5:GG γ.gs₀ γ.g s.gens)
  (I:Inv γ.D (γ.fm s.gens) T s ((γ.S,.list (acc.map .str))::(γ.L,.raw γ.oL)::(γ.ga,.raw γ.oga)::H) [some (.ref γ.it),xv])
noncomputable def Gn.Y (γ:Gn):Protocol:=fun m _ v s κ=>(∃ y t,v=.str y t/\y.cps.size<=3)/\m+1<=γ.n/\γ.St (γ.n - m) (γ.n - m - 1) s/\∀ s'',γ.St (γ.n - m) (γ.n - m) s''->κ (.send .none) s''
noncomputable def Gn.R (γ:Gn):GenEnd:=fun m _ r s'=>r=.ok .next/\(m=0/\γ.StE s')
inductive JoinQ (X:HL) (J:HL->Prop) (y:V) (H:HL):Prop where
 | mk (t:Str) (H₅:HL) (e:y=.str t) (l:t.cps.size<=3) (p:H.Perm (X++H₅)) (j:J H₅)
structure Gn.Ok (γ:Gn) (k:Nat):Prop where
 gen:∀ h:Heap,h.get? γ.ga=some γ.oga->h.IsGen γ.ga γ.g
 env:∀ gs,EnvOk (γ.fm gs) γ.cenv
 cor:γ.cenv.scope.isCoroutine=false
 loc:γ.cenv.scope.names.lookup γ.x=some .local
 elt:∀ (A':Around) (gs:Array GenState) (i:Nat) (H X:HL),Rm k A'->i < γ.n->γ.P i H->EV γ.D (γ.fm gs) A' γ.cenv γ.elt (X++H) [some (.ref γ.it),some (.int i)] (JoinQ X (γ.P (i+1)))
theorem Gn.St.le {γ:Gn} {i a b:Nat} {s:Shared} (h:γ.St i a s) (hab:a<=b):γ.St i b s:=by
 obtain ⟨T,acc,H,xv,h1,h2,h3,h4,h5,I⟩:=h
 exact ⟨T,acc,H,xv,h1,Nat.le_trans h2 hab,h3,h4,h5,I⟩
theorem Gn.St.setGen {γ:Gn} {i a:Nat} {s:Shared} (h:γ.St i a s) (z:GenState):γ.St i a (s.setGen γ.g z):=by
 obtain ⟨T,acc,H,xv,h1,h2,h3,h4,h5,I⟩:=h
 exact ⟨T,acc,H,xv,h1,h2,h3,h4,h5.setGen z,I.regen (s':=s.setGen γ.g z) rfl rfl (GOk.refl _)⟩
section
variable {γ:Gn} {A:Around}
theorem Gn.seg_loop {k:Nat} (ok:γ.Ok k) (hr:Rm k (A.over γ.loop [])):∀ (m i:Nat) (s₀ s:Shared),γ.n - i=m->i<=γ.n->γ.St i i s->
  Seg (model γ.D.prog γ.D.w) A γ.R γ.Y m s₀ γ.loop ((model γ.D.prog γ.D.w).den γ.loop) [] s:=by
 intro m
 induction m with
 | zero=>
  rintro i s₀ s hm hi ⟨T,acc,H,xv,h1,h2,h3,h4,h5,I⟩
  have:i=γ.n:=by exact linE hi (by simp +arith) (Nat.add_le_add (sbA (γ.n) (i)) (Nat.le_of_eq hm)) (by simp +arith)
  subst this
  show Seg _ A _ _ _ s₀ _ ((compTurn γ.e 0 (.ref γ.it) .none γ.cenv).onRaise (leaving γ.cenv)) [] s
  unfold Gn.e
  rw [compTurn_gen,Sem.onRaise_eq_wrap]
  refine seg_bind_wrap (wpAny_standAt ?_)
  have nx:NX γ.D (A.over γ.loop []) γ.it ((γ.it,.io (.riter γ.n (γ.n - γ.n:Int) 1))::(γ.S,.list (acc.map .str))::(γ.L,.raw γ.oL)::(γ.ga,.raw γ.oga)::H) fun o H'=>o=none/\H'=(γ.S,.list (acc.map .str))::(γ.L,.raw γ.oL)::(γ.ga,.raw γ.oga)::H:=
   NX.range hr.handled .head (fun h=>by exact (linZF h (by simp +arith)).elim) fun _=>⟨rfl,rfl⟩
  refine seg_bind_wrap (wpAny_mono (nx.run _ T s _ I) (fun o s' ho=>?_) noE)
  cases o with
  | some v=>obtain ⟨_,_,_,_,_,_,hx,_⟩:=ho; cases hx
  | none=>
   obtain ⟨T',H',hs,I',_,rfl⟩:=ho
   exact seg_end (.ok .next) ⟨rfl,rfl,T',acc,H,xv,h1.trans hs,h2,h3,h4,h5.step I'.gens,I'.regen (s':=s') rfl rfl (GOk.refl _)⟩
 | succ m ih=>
  rintro i s₀ s hm hi ⟨T,acc,H,xv,h1,h2,h3,h4,h5,I⟩
  have hlt:i < γ.n:=by exact linL (Nat.add_le_add (sbE (γ.n) (i) (lin hi (by simp +arith))) (Nat.le_of_eq hm.symm)) (by simp +arith)
  show Seg _ A _ _ _ s₀ _ ((compTurn γ.e 0 (.ref γ.it) .none γ.cenv).onRaise (leaving γ.cenv)) [] s
  unfold Gn.e
  rw [compTurn_gen,Sem.onRaise_eq_wrap]
  refine seg_bind_wrap (wpAny_standAt ?_)
  have nx:NX γ.D (A.over γ.loop []) γ.it ((γ.it,.io (.riter i (γ.n - i:Int) 1))::(γ.S,.list (acc.map .str))::(γ.L,.raw γ.oL)::(γ.ga,.raw γ.oga)::H) fun o H'=>o=some (.int i)/\H'=(γ.it,.io (.riter (i+1:Nat) (γ.n - (i+1:Nat):Int) 1))::(γ.S,.list (acc.map .str))::(γ.L,.raw γ.oL)::(γ.ga,.raw γ.oga)::H:=
   NX.range hr.handled .head (fun h=>⟨rfl,by
    have e1:((i:Int)+1)=((i+1:Nat):Int):=by simp +arith
    have e2:(γ.n - i:Int) - 1=(γ.n - (i+1:Nat):Int):=by exact linZE (Int.le_of_eq e1.symm) (by simp +arith only) (Int.le_of_eq e1) (by simp +arith only)
    rw [e1,e2]⟩) fun h=>by lia
  refine seg_bind_wrap (wpAny_mono (nx.run _ T s _ I) (fun o s₁ ho=>?_) noE)
  cases o with
  | none=>obtain ⟨_,_,_,_,hx,_⟩:=ho; cases hx
  | some v=>
   obtain ⟨T₁,y,H₁,st₁,I₁,hv,hy,rfl⟩:=ho
   cases hy
   have as:=AS.loc (D:=γ.D) (fm:=γ.fm s.gens) (A:=A.over γ.loop []) (env:=γ.cenv) (p:=γ.px) (it:=γ.it) (y:=.int i) (i:=1) (H:=(γ.it,.io (.riter (i+1:Nat) (γ.n - (i+1:Nat):Int) 1))::(γ.S,.list (acc.map .str))::(γ.L,.raw γ.oL)::(γ.ga,.raw γ.oga)::H)
    (vs:=[some (.ref γ.it),xv]) (Q:=fun H' vs'=>H'=(γ.it,.io (.riter (i+1:Nat) (γ.n - (i+1:Nat):Int) 1))::(γ.S,.list (acc.map .str))::(γ.L,.raw γ.oL)::(γ.ga,.raw γ.oga)::H/\vs'=[some (.ref γ.it),some (.int i)]) ok.loc rfl ⟨rfl,rfl⟩
   refine seg_bind_wrap (wpAny_mono (as.run (ok.env _) T₁ s₁ v I₁ hv) (fun _ s₂ h₂=>?_) noE)
   refine seg_bind_wrap (wpAny_mono h₂ (fun _ s₃ h₃=>?_) noE)
   obtain ⟨T₃,H₃,vs₃,st₃,I₃,rfl,rfl⟩:=h₃
   refine seg_bind_wrap (wpAny_pure ?_)
   simp only [if_true]
   have hy:∀ v,yieldOut γ.cenv v=yieldValue v:=fun v=>by simp only [yieldOut,ok.cor,Bool.false_eq_true,if_false]
   simp only [hy]
   rw [Sem.bind_eq_wrap',Sem.bind_eq_wrap',Sem.wrap_wrap,Sem.wrap_wrap]
   have el:=ok.elt (A.over γ.loop []) s.gens i H [(γ.it,.io (.riter (i+1:Nat) (γ.n - (i+1:Nat):Int) 1)),(γ.S,.list (acc.map .str)),(γ.L,.raw γ.oL),(γ.ga,.raw γ.oga)] hr hlt h4
   refine seg_wrap (wpAny_mono (el.run (ok.env _) T₃ s₃ I₃) (fun y s₄ h₄=>?_) noE)
   obtain ⟨T₄,yv,H₄,st₄,I₄,hyv,t,H₅,rfl,ht,hp,hP⟩:=h₄
   obtain ⟨_,rfl⟩:=hyv.inv
   have I₅:=(I₄.perm hp).regen (s':=s₄) (gs':=s₄.gens) rfl rfl (GOk.refl _)
   have g4:=h5.step I₄.gens
   have em:γ.n - m=i+1:=by exact linE (Nat.add_le_add (sbE (γ.n) (m) (lin (Nat.add_le_add (Nat.le_of_eq hm.symm) (Nat.sub_le (γ.n) (i))) (by simp +arith))) (Nat.add_le_add (sbA (γ.n) (i)) (Nat.le_of_eq hm))) (by simp +arith) (Nat.add_le_add (sbE (γ.n) (i) (lin hi (by simp +arith))) (Nat.add_le_add (sbA (γ.n) (m)) (Nat.le_of_eq hm.symm))) (by simp +arith)
   refine seg_at (seg_yield rfl rfl rfl ⟨⟨_,_,rfl,ht⟩,by exact Nat.le_trans (Nat.le_of_eq hm.symm) (Nat.sub_le (γ.n) (i)),?_,fun s'' hs''=>?_⟩)
   ·rw [em]
    exact ⟨T₄,acc,H₅,_,h1.trans (st₁.trans (st₃.trans st₄)),h2,h3,hP,g4,I₅⟩
   ·rw [em] at hs''
    exact seg_again rfl (ih (i+1) s'' s'' (by exact linE (Nat.add_le_add (sbE (γ.n) (i+1) (lin hlt (by simp +arith))) (Nat.add_le_add (sbA (γ.n) (i)) (Nat.le_of_eq hm))) (by simp +arith) (Nat.add_le_add (Nat.le_of_eq hm.symm) (Nat.add_le_add (sbE (γ.n) (i) (lin hi (by simp +arith))) (sbA (γ.n) (i+1)))) (by simp +arith)) (by exact hlt) hs'')
theorem Gn.seg_start {k:Nat} (ok:γ.Ok k) (hr:Rm k (A.over γ.loop [])) (s₀ s:Shared) (h:γ.St 0 0 s) :
  Seg (model γ.D.prog γ.D.w) A γ.R γ.Y γ.n s₀ γ.start ((model γ.D.prog γ.D.w).den γ.start) [] s:=by
 have loop:=fun s h=>γ.seg_loop ok hr γ.n 0 s₀ s (Nat.sub_zero _) (Nat.zero_le _) h
 show Seg _ A _ _ _ s₀ _ ((compStart γ.e 0 (.ref γ.it) .none γ.cenv).onRaise (leaving γ.cenv)) [] s
 unfold compStart
 rw [Sem.onRaise_eq_wrap]
 show Seg _ A _ _ _ s₀ _ ((ask >>= _).wrap _ _ _ _) [] s
 refine seg_bind_wrap (wpAny_askSetting ?_)
 split
 ·exact seg_again rfl (loop s h)
 ·refine seg_bind_wrap (wpAny_rule ?_)
  show Seg _ A _ _ _ s₀ _ ((standAt γ.iter.pos >>= _).wrap _ _ _ _) [] s
  refine seg_bind_wrap (wpAny_standAt ?_)
  obtain ⟨T,acc,H,xv,h1,h2,h3,h4,h5,I⟩:=h
  have pi:=PI.self (D:=γ.D) (A:=A.over γ.start []) (H:=(γ.it,.io (.riter (0:Nat) (γ.n - (0:Nat):Int) 1))::(γ.S,.list (acc.map .str))::(γ.L,.raw γ.oL)::(γ.ga,.raw γ.oga)::H) (it:=γ.it) (k:=.riter (0:Nat) (γ.n - (0:Nat):Int) 1) (.head _) trivial
  refine seg_bind_wrap (wpAny_mono (pi.run _ T s _ _ I (.ref _)) (fun v s' h'=>?_) noE)
  obtain ⟨T',a,H',rfl,st,I',rfl,rfl⟩:=h'
  exact seg_again rfl (loop s' ⟨T',acc,H,xv,h1.trans st,h2,h3,h4,h5.step I'.gens,I'.regen (s':=s') rfl rfl (GOk.refl _)⟩)
noncomputable def Gn.Wait (γ:Gn) (A:Around) (j:Nat) (s:Shared):Prop:=γ.St j j s/\∃ gs,s.gens[γ.g]?=some gs/\∀ s'',γ.St j j s''->gs.Goes (model γ.D.prog γ.D.w) A γ.R γ.Y (γ.n - j) (.send .none) s''
theorem Gn.next {k:Nat} (ok:γ.Ok k) (hh:A.handled=none) (hd:A.depth < recursionLimit) {j:Nat} {s:Shared} (hj:j<=γ.n) (h:γ.Wait A.in1 j s) :
  wpAny (model γ.D.prog γ.D.w) A (pyNext (.ref γ.ga)) (fun o s'=>match o with
   | some v=>j < γ.n/\(∃ y t,v=.str y t/\y.cps.size<=3)/\γ.St (j+1) j s'/\∃ gs,s'.gens[γ.g]?=some gs/\∀ s'',γ.St (j+1) (j+1) s''->gs.Goes (model γ.D.prog γ.D.w) A.in1 γ.R γ.Y (γ.n - (j+1)) (.send .none) s''
   | none=>γ.StE s'/\s'.gens[γ.g]?=some .finished) NoE s:=by
 obtain ⟨hs,gs,hg,hgo⟩:=h
 have hs':=hs
 obtain ⟨T,acc,H,xv,h1,h2,h3,h4,h5,I⟩:=hs'
 have hgen:=ok.gen _ (I.rawAt m_3)
 have hat:∀ (s₁:Shared) z,GG γ.gs₀ γ.g s₁.gens->(s₁.setGen γ.g z).gens[γ.g]?=some z:=fun s₁ z hgg=>by
  show (s₁.gens.setIfInBounds γ.g z)[γ.g]?=some z
  rw [Array.getElem?_setIfInBounds,if_pos rfl,if_pos hgg.1]
 refine wpAny_pyNext_genexp (P:=fun m _ s₁=>m=0/\γ.StE s₁) hh I.nolimit hd hgen hg (hgo _ (hs.setGen .running)) (fun v s₁ gs' hv=>?_) (fun s₁ hp h' hk=>?_)
 ·obtain ⟨hv,hm,hst,hκ⟩:=hv
  by_cases hj2:j=γ.n
  ·rw [show γ.n - j=0 by exact linE (Nat.add_le_add (sbE (γ.n) (j) (lin hj (by simp +arith))) (Nat.le_of_eq hj2.symm)) (by simp +arith only) (Nat.le_refl 0) (by simp +arith only)] at hκ hst
   exact (hκ s₁ (hst.le (by exact (Nat.sub_le (γ.n - (0 - 1)) (1))))).elim
  ·obtain ⟨m,hm'⟩:∃ m,γ.n - j=m+1:=⟨γ.n - j - 1,by exact linE (sbA (γ.n - j) (1)) (by simp +arith) (sbE (γ.n - j) (1) (lin (sbE (γ.n - j) (1) (lin (Nat.add_le_add (sbA (γ.n) (j)) (Nat.lt_of_le_of_ne (lin hj (by simp +arith)) hj2)) (by simp +arith))) (by simp +arith))) (by simp +arith)⟩
   rw [hm'] at hκ hst
   simp only [Nat.add_sub_cancel] at hκ hst
   have em:γ.n - m=j+1:=by exact linE (Nat.add_le_add (sbE (γ.n) (m) (lin (Nat.add_le_add (Nat.le_of_eq hm'.symm) (Nat.sub_le (γ.n) (j))) (by simp +arith))) (Nat.add_le_add (sbA (γ.n) (j)) (Nat.le_of_eq hm'))) (by simp +arith) (Nat.add_le_add (sbE (γ.n) (j) (lin hj (by simp +arith))) (Nat.add_le_add (sbA (γ.n) (m)) (Nat.le_of_eq hm'.symm))) (by simp +arith)
   rw [em] at hκ hst
   have hgg:=hst
   obtain ⟨_,_,_,_,_,_,_,_,hgg,_⟩:=hgg
   refine ⟨by exact Nat.le_trans (Nat.le_of_eq em.symm) (Nat.sub_le (γ.n) (m)),hv,hst.setGen gs',gs',hat _ _ hgg,?_⟩
   rw [show γ.n - (j+1)=m by exact linE (Nat.add_le_add (sbE (γ.n) (j+1) (lin (Nat.add_le_add (Nat.le_of_eq hm'.symm) (sbE (γ.n) (j) (lin hj (by simp +arith)))) (by simp +arith))) (Nat.add_le_add (sbA (γ.n) (j)) (Nat.le_of_eq hm'))) (by simp +arith) (Nat.add_le_add (Nat.le_of_eq hm'.symm) (Nat.add_le_add (sbE (γ.n) (j) (lin hj (by simp +arith))) (sbA (γ.n) (j+1)))) (by simp +arith)]
   exact hκ
 ·obtain ⟨_,hE⟩:=hp
  obtain ⟨T',acc',H',xv',k1,k2,k3,k4,k5,I'⟩:=hE
  refine ⟨⟨T',acc',H',xv',k1,k2,k3,k4,k5.setGen .finished,?_⟩,hat _ _ k5⟩
  exact (I'.grow (tk:=s₁.toks) hk).regen (s':={ s₁.setGen γ.g .finished with heap:=h' }) rfl rfl (GOk.refl _)
end
end Mine
end
section
namespace Mine
section
variable {γ:Gn} {A:Around}
inductive Gn.End (γ:Gn) (vs:List Value) (s:Shared):Prop where
 | mk (T:Led) (acc:List Str) (H:HL) (xv:Option V) (h1:Sub γ.T₀ T) (h2:acc.length<=γ.n) (h3:smallS acc) (h4:γ.P γ.n H) (h5:GG γ.gs₀ γ.g s.gens) (h6:s.gens[γ.g]?=some .finished) (h7:VRels T (acc.map .str) vs)
  (I:Inv γ.D (γ.fm s.gens) T s ((γ.L,.raw γ.oL)::(γ.ga,.raw γ.oga)::H) [some (.ref γ.it),xv])
inductive Gn.Jn (γ:Gn) (v:Value) (s:Shared):Prop where
 | mk (y:Str) (t:Tok) (vs:List Value) (e:v=.str y t) (l:y.cps.size<=3 * γ.n) (h:γ.End vs s)
theorem Gn.extend {k:Nat} (ok:γ.Ok k) (hh:A.handled=none) (hd:A.depth < recursionLimit) (hn:γ.n<=1000) (res:Value) {Rr:Result->Shared->Prop}:∀ (m j:Nat) (s:Shared),γ.n - j=m->j<=γ.n->γ.Wait A.in1.in1 j s->
  (∀ s',γ.StE s'->s'.gens[γ.g]?=some .finished->Rr (.ok (.ret res)) s')->codeAny (model γ.D.prog γ.D.w) A (.builtin "list.extend.loop" ⟨[.ref γ.S,.ref γ.ga,res],[]⟩) Rr s:=by
 have hline:(1000:Nat) < sizeLine:=by rw [sizeLine_eq]; decide
 intro m
 induction m with
 | zero=>
  intro j s hm hj hw hR
  refine codeAny_builtin PySem.F.entry_extend_loop ?_
  rw [Around.under_plainId PySem.F.plain_extend_loop _]
  show wpAny _ A.in1 (pyNext (.ref γ.ga) >>= _) _ _ s
  refine wpAny_bind (wpAny_mono (Gn.next (A:=A.in1) ok hh hd hj hw) (fun o s' ho=>?_) noE)
  cases o with
  | some v=>exact absurd ho.1 (by exact Nat.not_lt_of_ge (lin (Nat.add_le_add (sbA (γ.n) (j)) (Nat.le_of_eq hm)) (by simp +arith)))
  | none=>exact wpAny_pure (hR s' ho.1 ho.2)
 | succ m ih=>
  intro j s hm hj hw hR
  refine codeAny_builtin PySem.F.entry_extend_loop ?_
  rw [Around.under_plainId PySem.F.plain_extend_loop _]
  show wpAny _ A.in1 (pyNext (.ref γ.ga) >>= _) _ _ s
  refine wpAny_bind (wpAny_mono (Gn.next (A:=A.in1) ok hh hd hj hw) (fun o s' ho=>?_) noE)
  cases o with
  | none=>exact wpAny_pure (hR s' ho.1 ho.2)
  | some v=>
   obtain ⟨hlt,⟨y,t,rfl,hy⟩,hst,gs,hg,hgo⟩:=ho
   show wpAny _ A.in1 (updateSeq γ.S (·.push (.str y t)) >>= _) _ _ _
   obtain ⟨T,acc,H,xv,h1,h2,h3,h4,h5,I⟩:=hst
   obtain ⟨ws,nn,hS,hrel⟩:=I.listAt (a:=γ.S) (xs:=acc.map .str) m_1
   have hl:ws.length<=γ.n:=by rw [hrel.length,List.length_map]; exact Nat.le_trans h2 hj
   have I':=I.listAs (ys:=(acc++[y]).map .str) (f:=(·.push (.str y t))) (tk:=s'.toks) Ext.at1 hS (by
    rw [List.map_append,Array.toList_push]
    exact hrel.append (.cons (.str _ _) .nil))
   refine wpAny_bind (wpAny_updateSeq hS rfl (wpAny_pure ⟨plainId_quiet PySem.F.plain_extend_loop _,ih (j+1) _ (by exact linE (Nat.add_le_add (sbE (γ.n) (j+1) (lin hlt (by simp +arith))) (Nat.add_le_add (sbA (γ.n) (j)) (Nat.le_of_eq hm))) (by simp +arith) (Nat.add_le_add (Nat.le_of_eq hm.symm) (Nat.add_le_add (sbE (γ.n) (j) (lin hj (by simp +arith))) (sbA (γ.n) (j+1)))) (by simp +arith)) hlt ⟨⟨T,acc++[y],H,xv,h1,by simp; omega,?_,h4,h5,?_⟩,gs,hg,hgo⟩ hR⟩) (by simp; exact lin (Nat.add_le_add hl (Nat.add_le_add hn hline)) (by simp +arith)) (by simp; exact lin (Nat.add_le_add hl (Nat.add_le_add hn hline)) (by simp +arith)))
   ·intro z hz
    rcases List.mem_append.mp hz with hz | hz
    ·exact h3 z hz
    ·rw [List.mem_singleton.mp hz]; exact hy
   ·exact (I'.perm (Ext.perm Ext.at1).symm).regen (gs':=s'.gens) rfl rfl (GOk.refl _)
theorem Gn.collect {k:Nat} (ok:γ.Ok k) (hh:A.handled=none) (hd:A.depth < recursionLimit) (hn:γ.n<=1000) (hr:Rm k (A.in1.in1.over γ.loop [])) {s:Shared} {T:Led} {H:HL} {xv:Option V} (hT:Sub γ.T₀ T) (hP:γ.P 0 H) (hgg:GG γ.gs₀ γ.g s.gens)
  (hg:s.gens[γ.g]?=some (.fresh γ.start)) (hS:γ.S=s.heap.objs.size)
  (I:Inv γ.D (γ.fm s.gens) T s ((γ.it,.io (.riter (0:Nat) (γ.n - (0:Nat):Int) 1))::(γ.L,.raw γ.oL)::(γ.ga,.raw γ.oga)::H) [some (.ref γ.it),xv]) :
  wpAny (model γ.D.prog γ.D.w) A (collect (.ref γ.ga)) γ.End NoE s:=by
 have hgen:=ok.gen _ (I.rawAt m_2)
 have hga:γ.ga < s.heap.objs.size:=let ⟨_,_,_,e,_⟩:=hgen; Heap.lt_size e
 have hSI:s.heap.objs.size≠γ.ga:=Nat.ne_of_gt hga
 unfold PySem.collect
 refine wpAny_bind (wpAny_runValue (codeAny_builtin PySem.F.entry_proto_collect ?_))
 rw [Around.under_plainId PySem.F.plain_proto_collect _]
 show wpAny _ A.in1 (newList [] >>= fun l=>again (.builtin "list.__iadd__" ⟨[l,.ref γ.ga],[]⟩)) _ _ s
 refine wpAny_bind (wpAny_newObj_type ?_)
 refine wpAny_pure ⟨plainId_quiet PySem.F.plain_list_iadd _,codeAny_builtin PySem.F.entry_list_iadd ?_⟩
 rw [Around.under_plainId PySem.F.plain_list_iadd _]
 have hgen₁:(s.heap.push { cls:=.type "list",data:=.seq ([]:List Value).toArray }).IsGen γ.ga γ.g:=hgen.push _
 have hT₁:∀ s₁:Shared,s₁.heap.IsGen γ.ga γ.g->s₁.TypeIs (.ref γ.ga) "generator":=fun s₁ h=>h.typeIs
 show wpAny _ A.in1 (Builtin.List.listExtendWith (.ref s.heap.objs.size) (.ref γ.ga) (.ref s.heap.objs.size)) _ _ _
 unfold Builtin.List.listExtendWith
 refine wpAny_bind (wpAny_typeOf (hT₁ _ hgen₁) ?_)
 have h1:Builtin.List.listSameRef (.ref s.heap.objs.size) (.ref γ.ga)=false:=by show (s.heap.objs.size==γ.ga)=false; exact beq_eq_false_iff_ne.mpr hSI
 rw [h1]
 refine wpAny_ite_false (c:=(false || Value.type "generator"==Value.type "list" || Value.type "generator"==Value.type "tuple")=true) (by decide) ?_
 refine wpAny_bind (wpAny_pyIter_gen hgen₁ ?_)
 refine wpAny_bind (wpAny_holding ?_)
 unfold Builtin.List.listLengthHint
 refine wpAny_bind (wpAny_specialOf (hT₁ _ hgen₁) PySem.F.gen_no_len ?_)
 show wpAny _ A.in1 (specialOf (Value.ref γ.ga) (Str.ofString "__length_hint__") >>= _) _ _ _
 refine wpAny_bind (wpAny_specialOf (hT₁ _ hgen₁) PySem.F.gen_no_hint ?_)
 refine wpAny_pure ?_
 show wpAny _ A.in1 (rule "list.extend.makes-room" >>= fun _=>Builtin.List.listTouch (.ref s.heap.objs.size) >>= fun _=>
  again (.builtin "list.extend.loop" ⟨[.ref s.heap.objs.size,.ref γ.ga,.ref s.heap.objs.size],[]⟩)) _ _ _
 refine wpAny_bind (wpAny_rule ?_)
 have I₁:=I.pushList (xs:=[]) (ws:=[]) .nil
 have hS₁:(s.heap.push { cls:=.type "list",data:=.seq ([]:List Value).toArray }).get? s.heap.objs.size=some (lObj [] 0):=Heap.get?_push_size _ rfl
 refine wpAny_bind ?_
 show wpAny _ A.in1 (updateSeq s.heap.objs.size (·.push .none) >>= fun _=>updateSeq s.heap.objs.size (·.pop)) _ _ _
 refine wpAny_bind (wpAny_updateSeq hS₁ rfl ?_)
 have I₂:=I₁.listAs (ys:=[.none]) (f:=(·.push Value.none)) (tk:=s.toks) Ext.at0 hS₁ (by exact .cons .none .nil)
 have hS₂:=Heap.get?_update_self (Obj.mapSeq (·.push Value.none)) hS₁ rfl
 refine wpAny_updateSeq hS₂ rfl ?_
 obtain ⟨ws₂,n₂,e₂,r₂⟩:=I₂.listAt (.head _)
 have I₃:=I₂.listAs (ys:=[]) (f:=(·.pop)) (tk:=s.toks) Ext.at0 e₂ (by cases r₂ with | cons _ r=>cases r; exact .nil)
 rw [<- hS] at I₃ ⊢
 refine wpAny_pure ⟨plainId_quiet PySem.F.plain_extend_loop _,Gn.extend (A:=A) ok hh hd hn _ γ.n 0 _ (Nat.sub_zero _) (Nat.zero_le _) ⟨⟨T,[],H,xv,hT,Nat.zero_le _,(fun _ h=>by cases h),hP,hgg,?_⟩,_,hg,fun s'' hs''=>⟨rfl,?_⟩⟩ fun s' hE hfin=>?_⟩
 ·exact (I₃.perm (.swap _ _ _)).regen (gs':=s.gens) rfl rfl (GOk.refl _)
 ·exact Gn.seg_start (A:=A.in1.in1) ok hr s'' s'' hs''
 ·obtain ⟨T',acc,H',xv',k1,k2,k3,k4,k5,I'⟩:=hE
  obtain ⟨ws,nn,e,r⟩:=I'.listAt (.head _)
  show wpAny _ A (load γ.S >>= _) _ _ s'
  refine wpAny_bind (wpAny_load e ?_)
  exact wpAny_pure ⟨T',acc,H',xv',k1,k2,k3,k4,k5,hfin,by simpa using r,I'.forget .head⟩
theorem strs_of {T:Led} {acc:List Str}:∀ {vs:List Value},VRels T (acc.map .str) vs->∃ l:List (Str×Tok),strValues l=vs/\l.map (·.1)=acc:=by
 induction acc with
 | nil=>intro vs h; exact ⟨[],h.nil_inv.symm,rfl⟩
 | cons y acc ih=>
  intro vs h
  obtain ⟨v,us,rfl,r,rs⟩:=h.cons_inv
  obtain ⟨t,rfl⟩:=r.inv
  obtain ⟨l,e1,e2⟩:=ih rs
  exact ⟨(y,t)::l,congrArg (_::·) e1,congrArg (y::·) e2⟩
theorem small_sum {acc:List Str} (h:smallS acc):(acc.map (·.length)).sum<=3 * acc.length:=by
 induction acc with
 | nil=>simp
 | cons y acc ih=>
  have h1:y.length<=3:=h y (.head _)
  have:=ih fun z hz=>h z (.tail _ hz)
  simp only [List.map_cons,List.sum_cons,List.length_cons]
  exact lin (Nat.add_le_add h1 this) (by simp +arith)
theorem Gn.join {k:Nat} (ok:γ.Ok k) (hh:A.handled=none) (hd:A.depth < recursionLimit) (hn:γ.n<=1000) (hr:Rm k (A.in1.in1.in1.over γ.loop [])) {s:Shared} {T:Led} {H:HL} {xv:Option V} {t:Tok} (hT:Sub γ.T₀ T) (hP:γ.P 0 H) (hgg:GG γ.gs₀ γ.g s.gens)
  (hg:s.gens[γ.g]?=some (.fresh γ.start)) (hS:γ.S=s.heap.objs.size)
  (I:Inv γ.D (γ.fm s.gens) T s ((γ.it,.io (.riter (0:Nat) (γ.n - (0:Nat):Int) 1))::(γ.L,.raw γ.oL)::(γ.ga,.raw γ.oga)::H) [some (.ref γ.it),xv]) :
  wpAny (model γ.D.prog γ.D.w) A (call (.builtin "str.join") [.str "" t,.ref γ.ga]) γ.Jn NoE s:=by
 have hgen:=ok.gen _ (I.rawAt m_2)
 refine wpAny_call (codeAny_call_builtin PySem.F.slot_str_join.plain PySem.F.entry_str_join (PySem.F.slot_str_join.check _ _ _ _ _ _ _ _ (typeIs_str _ _ _) (PySem.F.args_str_join_2 _ _) ?_))
 rw [join_tree_other]
 refine wpAny_bind (wpAny_typeOf hgen.typeIs ?_)
 show wpAny _ A.in1 ((pyIter (.ref γ.ga)).tryCatch _ >>= fun it=>PySem.collect it >>= fun items=>PySem.joinTail "" items) _ _ s
 refine wpAny_bind (wpAny_tryCatch (wpAny_pyIter_gen hgen ?_))
 refine wpAny_bind (wpAny_mono (Gn.collect (A:=A.in1) ok hh hd hn hr hT hP hgg hg hS I) (fun vs s' hE=>?_) noE)
 obtain ⟨T',acc,H',xv',k1,k2,k3,k4,k5,k6,k7,I'⟩:=hE
 obtain ⟨l,rfl,el⟩:=strs_of k7
 have hsum:=small_sum k3
 have hline:(3000:Nat)<=sizeLine:=by rw [sizeLine_eq]; decide
 have hok:Builtin.Str.tooLong ((l.map (·.1)).toArray.foldl (·+·.length+(Str.length "")) 0)=false:=by
  rw [StrLaws.joinTotal,el]
  have:(Str.length ("":Str))=0:=rfl
  rw [this,Nat.mul_zero,Nat.add_zero]
  unfold Builtin.Str.tooLong
  simp only [decide_eq_false_iff_not,Nat.not_lt]
  exact lin (Nat.add_le_add hsum (Nat.add_le_add (Nat.mul_le_mul_left 3 k2) (Nat.add_le_add (Nat.mul_le_mul_left 3 hn) hline))) (by simp +arith only)
 have hlen:(Txt.join "" (l.map (·.1))).length<=3 * γ.n:=by
  show (Builtin.Str.glued "" (l.map (·.1))).length<=_
  rw [StrLaws.glued_eq_join]
  refine Nat.le_trans (StrLaws.join_length_le _ _) ?_
  have:(Str.length ("":Str))=0:=rfl
  rw [el,this,Nat.mul_zero,Nat.add_zero]
  exact lin (Nat.add_le_add hsum (Nat.add_le_add k2 (Nat.add_le_add k2 k2))) (by simp +arith)
 have g:Gives (PySem.joinTail "" (strValues l)) (joinMade "" l):=by
  have g0:=gives_joinTail "" l hok
  cases l with
  | nil=>exact g0
  | cons p r=>cases r with
   | nil=>exact g0
   | cons q r'=>exact g0
 refine g γ.D.prog γ.D.w A (wants γ.Jn NoE) s' (post_join l ⟨joinFit_length hok,fun t' kk=>?_⟩)
 refine ⟨_,t',_,rfl,hlen,T',acc,H',xv',k1,k2,k3,k4,k5,k6,k7,?_⟩
 exact (I'.toks (tk:=kk)).regen (gs':=s'.gens) rfl rfl (GOk.refl _)
end
end Mine
end
section
set_option maxHeartbeats 4000000
namespace Mine
theorem GOk.push {g₀ g:Array GenState} {x:GenState} (h:GOk g₀ g) (hx:x.bare=true):GOk g₀ (g.push x):=by
 refine ⟨fun i y e=>?_,fun i y hi e=>?_⟩
 ·have e':=h.1 i y e
  have hi:=(Array.getElem?_eq_some_iff.mp e').1
  rw [Array.getElem?_push,if_neg (Nat.ne_of_lt hi)]
  exact e'
 ·rw [Array.getElem?_push] at e
  split at e
  ·cases e; exact hx
  ·exact h.2 i y hi e
theorem GG.new {g₀ g:Array GenState} {x:GenState} (h:GOk g₀ g) (hx:x.bare=true):GG g₀ g.size (g.push x):=by
 have hk:=h.push (x:=x) hx
 refine ⟨by simp,fun i y e=>?_,fun i y hi e=>?_⟩
 ·have e':=h.1 i y e
  have hi:=(Array.getElem?_eq_some_iff.mp e').1
  rw [Array.getElem?_setIfInBounds,if_neg (by exact Nat.ne_of_gt (linL hi (by simp +arith)))]
  exact hk.1 i y e
 ·rw [Array.getElem?_setIfInBounds] at e
  by_cases hg:g.size=i
  ·rw [if_pos hg] at e
   split at e
   ·cases e; rfl
   ·cases e
  ·rw [if_neg hg] at e
   exact hk.2 i y hi e
theorem GG.ended {gs₀ gens:Array GenState} {g:Nat} (h:GG gs₀ g gens) (hf:gens[g]?=some .finished):GOk gs₀ gens:=by
 have e:gens.setIfInBounds g .finished=gens:=by
  apply Array.ext_getElem?
  intro i
  rw [Array.getElem?_setIfInBounds]
  by_cases hg:g=i
  ·rw [if_pos hg,if_pos (by have:=h.1; omega),<- hg,hf]
  ·rw [if_neg hg]
 have:=h.2
 rw [e] at this
 exact this
noncomputable def TabO (o:Obj):Prop:=∃ ps,o=tabObj ps/\TriplesOk ps.toList
theorem Rm.gen {k:Nat} {A:Around} {e:Expr} {it acc:Value} {env:Env} {b:Expr} {g:List Comprehension} {sc:Scope} {p:Pos} (he:e=.GeneratorExp b g sc p) (h:Rm (k+1) A):Rm k (A.in1.in1.in1.over (.compLoop e 0 it acc env) []):=by
 subst he
 obtain ⟨h1,h2,h3,h4⟩:=h
 refine ⟨?_,?_,h3,?_⟩
 ·show A.depth+0+1+5 * k<=900
  exact lin h1 (by simp +arith)
 ·show A.units+1+1+1+0+3+60 * k<=9000
  exact lin h2 (by simp +arith)
 ·exact h4
section
variable {D:Wd} {fm:Fm} {A:Around} {env:Env} {H R:HL} {vs:List (Option V)} {T:Led} {s:Shared}
theorem Inv.below (I:Inv D fm T s H vs):fm.F.objs.size<=fm.L/\fm.L < s.heap.objs.size:=by
 obtain ⟨mc,N,F,_⟩:=I.ex
 exact ⟨F.above,F.ns.lt⟩
theorem Inv.table {c P:Addr} {op:Obj} (hC:∀ h,D.K.In h->CodeHd h c P) (m:(P,.raw op)∈H) (ht:TabO op) (I:Inv D fm T s H vs):∃ ps,s.heap.IsCode c P ps/\s.heap.TableAt c P ps:=by
 obtain ⟨ps,rfl,ht⟩:=ht
 refine ⟨ps,?_,(hC _ I.k).tab (I.rawAt m)⟩
 obtain ⟨o,vs',file,tf,flags,tg,inF,text,tt,e1,_,e3,_,f3,f4,f5,f6,f7,f11⟩:=hC _ I.k
 exact ⟨o,vs',file,tf,flags,tg,inF,text,tt,_,e1,e3,f3,f4,f5,f6,f7,I.rawAt m,rfl,ht,f11⟩
theorem genexprCodeT {M:Model} {A:Around} {E:Value->Shared->Prop} {s:Shared} {env:Env} {c P:Addr} {ps:Array Value} {pos:Pos} {qualname:Str} {scope:Scope} {Q:Value->Shared->Prop} (hc:env.code=.ref c) (hok:s.heap.IsCode c P ps) (htab:s.heap.TableAt c P ps)
  (hQ:∀ code h' tk ps',Heap.ExtBut P s.heap h'->h'.IsCode c P ps'->h'.TableAt c P ps'->Q code { s with heap:=h',toks:=tk }):wpAny M A (genexprCode env pos qualname scope) Q E s:=by
 cases hf:codeAmong pos ps.toList with
 | some c'=>exact wpAny_genexprCode_hit hc hok hf (hQ c' s.heap s.toks ps (.refl _ _) hok htab)
 | none=>exact wpAny_genexprCodeX hc hok htab hf fun c' h' tk hx _ _ h1 _ h2 _=>hQ _ h' tk _ hx h1 h2
theorem callJoin {prog:Program} {w:World} {E:Expr} {pos:Pos} {t:Tok} {Q:Value->Shared->Prop} (hs:starEach [E] env=(false,eval E env)::starEach [] env) (hp:(backTo pos (starEach [E] env)).any (·.1)=false)
  (h:wpAny (model prog w) A (eval E env) (fun v s₁=>wpAny (model prog w) A (call (.builtin "str.join") [.str "" t,v]) Q NoE s₁) NoE s) :
  wpAny (model prog w) A (callWith pos (.builtin "str.join") [.str "" t] (backTo pos (starEach [E] env)) []) Q NoE s:=by
 have run:wpAny (model prog w) A (spliced (backTo pos (starEach [E] env))) (fun vs s₁=>(∃ k,(k=Keeper.frame\/k=Keeper.machine\/k=Keeper.boundFrame)/\Looks (model prog w) s₁.heap (keeperOf (.builtin "str.join")) k) /\
   wpAny (model prog w) A (call (.builtin "str.join") ([.str "" t]++vs) []) Q NoE s₁) NoE s:=
  wpAny_items_cons (wpAny_mono h (fun v s₁ h₁=>wpAny_items_nil ⟨⟨.machine,.inr (.inl rfl),Looks.of_pure rfl⟩,h₁⟩) noE) hs
 refine callWith_of (P:=fun h=>∃ k,(k=Keeper.frame\/k=Keeper.machine\/k=Keeper.boundFrame)/\Looks (model prog w) h (keeperOf (.builtin "str.join")) k) (by rw [hp]; rfl) (fun h x=>x) ?_
 rw [hs] at run ⊢
 exact evalArgs_plain run
inductive JoinI (D:Wd) (k:Nat) (scope:Scope) (cl:List (Str×Addr)) (x:Str) (P:Addr) (elt:Expr) (Q:V->HL->Prop) (it:Addr) (H:HL):Prop where
 | mk (n:Nat) (op:Obj) (R:HL) (J:Nat->HL->Prop) (hn:n<=1000) (ht:TabO op) (p:H.Perm ((it,.io (.riter (0:Nat) (n - (0:Nat):Int) 1))::(P,.raw op)::R)) (j:J 0 R)
  (turn:∀ (fm':Fm) (env':Env) (A':Around),fm'.ns=[(".0":Str),x]->env'.scope=scope->env'.cells=cl->Rm k A'->∀ (i:Nat) (H₃ X:HL),i < n->J i H₃->
    EV D fm' A' env' elt (X++H₃) [some (.ref it),some (.int i)] (JoinQ X (J (i+1))))
  (fin:∀ y H₃ op',y.cps.size<=3 * n->J n H₃->TabO op'->Q (.str y) ((P,.raw op')::H₃))
theorem EV.joinGen {elt iter:Expr} {x:Str} {px gpos apos pos cpos:Pos} {k0:Nat} {pl:Sem Bool} {scope:Scope} {cl:List (Str×Addr)} {c P:Addr} {k:Nat} {Q:V->HL->Prop} (nd:[(".0":Str),x].Nodup)
  (hr:Rm (k+1) A) (hLs:fm.L≠sysModules) (hcode:env.code=.ref c) (hC:∀ h,D.K.In h->CodeHd h c P)
  (hco:scope.isCoroutine=false) (hclos:closureFor scope env=pure cl) (hcell:∀ y∈scope.names,y.2≠.cell) (h0:scope.names.lookup (".0":Str)=some .local) (hx:scope.names.lookup x=some .local) (hkind:scope.kind=.function)
  (h:EV D fm A env iter H vs (itP D A (JoinI D k scope cl x P elt Q)))
  (hs:∀ x,genFold iter env x=pure x:=by intro _; rfl)
  (he:eval (.Call (.Attribute (.Constant (.str "") k0 cpos) "join" apos) [.GeneratorExp elt [⟨.Name x px,iter,[],0⟩] scope gpos] [] pos) env=(do
   let ov <- eval (.Constant (.str "") k0 cpos) env
   standAt apos.atName
   let (f,first) <- holding [ov] (getMethod ov "join" pl)
   callWith pos f first (backTo pos (starEach [.GeneratorExp elt [⟨.Name x px,iter,[],0⟩] scope gpos] env)) (backToKw pos (keywordEach [] env))):=by rfl) :
  EV D fm A env (.Call (.Attribute (.Constant (.str "") k0 cpos) "join" apos) [.GeneratorExp elt [⟨.Name x px,iter,[],0⟩] scope gpos] [] pos) H vs Q:=⟨fun hE T s I=>by
 have hroom:A.depth < recursionLimit:=Nat.lt_of_le_of_lt (Nat.le_trans (Nat.le_add_right _ _) hr.depth) (by decide)
 refine methodCall_KW (wpAny_Constant_str ?_) he
 have I0:Inv D fm T { s with toks:=s.toks+1 } H vs:=I.toks
 refine getMethod_builtin (typeIs_str _ _ _) PySem.F.plainAttrs_str PySem.F.slot_str_join PySem.F.type_str_join (fun _ e=>nomatch e) ?_
 refine callJoin rfl rfl ?_
 refine wpAny_GeneratorExp_make hco hclos hcell h0 hkind hroom (wpNoE (h.run hE T _ I0) fun xv s₁ ⟨T₁,x1,H₁,st₁,I₁,hx1,h₁⟩=>wpNoE (h₁.run _ _ _ _ _ I₁ hx1) fun itv s₂ ⟨T₂,it,H₂,hit,st₂,I₂,n,op,R,J,hn,hop,hp,hJ,helt,hq⟩=>⟨I₂.nolimit,?_⟩) hs
 subst hit
 have I₂':=I₂.perm hp
 obtain ⟨ps,hcd,htab⟩:=I₂'.table hC m_1 hop
 refine genexprCodeT hcode hcd htab fun code h₃ tk₃ ps' hx₃ hcd₃ htab₃=>?_
 obtain ⟨_,_,_,_,_,_,_,_,_,op',_,_,_,_,_,_,_,hop₃,hopd,hopt,_⟩:=hcd₃
 have hPold:=I₂'.rawAt m_1
 have I₃:Inv D fm T₂ { s₂ with heap:=h₃,toks:=tk₃ } ((P,.raw op')::(it,.io (.riter (0:Nat) (n - (0:Nat):Int) 1))::R) vs:=by
  refine I₂'.change (b:=[(P,op)]) (b':=[(P,op')]) Ext.at1 (fun b₀ h _=>by cases h; rfl) (.raw (get_free hop₃)) (fun p hp=>?_) (by simp) (fun z ob e hz=>?_) fun p hp e=>?_
  ·cases hp with
   | head=>exact ⟨hop₃,.inl (by simp)⟩
   | tail _ h=>cases h
  ·exact hx₃ z ob (fun q=>hz (by simp [q])) e
  ·cases hp with
   | head=>rw [hPold] at e; cases e
   | tail _ h=>cases h
 have hop':TabO op':=⟨ps',Option.some.inj (hop₃.symm.trans htab₃.2),hopt⟩
 obtain ⟨bm,ob,b1,b2,b3,b4,b5,b6⟩:=I₃.base.t.bmain
 refine wpAny_builtinsFor (bm:=bm) (hE.glob ▸ I₃.base.t.g.keeps I₃.keep) b1 b2 (I₃.keep _ _ b3) b4 b5 b6 fun h₄ hns hsb=>?_
 have hCh:=hns
 obtain ⟨oC,es,ep,hC₄,hCr⟩:=hCh
 have keep₄:∀ b o,h₃.get? b=some o->h₄.get? b=some o:=fun b o e=>hsb.extBut b o (Nat.ne_of_lt (Heap.lt_size e)) (Heap.get?_push_of_some _ e)
 have I₄:=I₃.new (tk:=tk₃) (a':=h₃.objs.size) (o':=.raw oC) (b':=[(h₃.objs.size,oC)]) (.raw (get_free hC₄)) (fun p hp=>by
  cases hp with
  | head=>exact ⟨hC₄,Nat.le_refl _⟩
  | tail _ h=>cases h) (by simp) keep₄
 have eC:∀ h:Heap,h.get? h₃.objs.size=some oC->h.Ns h₃.objs.size (fun y=>if y=(".0":Str) then some (.ref it) else none):=fun h e=>⟨oC,es,ep,e,hCr⟩
 generalize hga:h₄.objs.size=ga
 obtain ⟨oga,hoga⟩:∃ oga:Obj,oga={ cls:=.type "generator",data:=.fields #[.int s₂.gens.size 0,.str "<genexpr>" (tk₃+1),.str (env.qual++"<genexpr>") (tk₃+1+1)] }:=⟨_,rfl⟩
 have I₅:=I₄.new1 (tk:=tk₃+1+1+1) (ob:=oga) (o':=.raw oga) (by rw [hoga]; rfl) (.raw (by rw [hoga]; rfl))
 rw [<- hoga]
 have hga':({ s₂ with heap:=h₄,toks:=tk₃ }:Shared).heap.objs.size=ga:=hga
 rw [hga'] at I₅
 have hisgen:∀ h:Heap,h.get? ga=some oga->h.IsGen ga s₂.gens.size:=fun h e=>⟨oga,_,_,e,by rw [hoga],by rw [hoga],by rw [hoga]⟩
 have hbare:(GenState.fresh (.compStart (.GeneratorExp elt [⟨.Name x px,iter,[],0⟩] scope gpos) 0 (.ref it) .none (genEnv scope cl h₃.objs.size code builtinsNs env))).bare=true:=rfl
 obtain ⟨oL,mcL,hFL,hLns,hLrel,I₆⟩:=I₅.swapIn (C:=h₃.objs.size) (ns':=[(".0":Str),x]) (nd':=nd) (vs':=[some (.ref it),none]) Ext.at1 (Nat.le_trans I₃.below.1 (Nat.le_of_lt I₃.below.2)) (eC _ (I₅.rawAt m_1))
  (.cons (fun y e=>by cases e; exact ⟨_,by simp,.ref it⟩) (.cons (fun y e=>by cases e) .nil)) hLs
 have hI₆:=I₆.gens
 let γ:Gn:=⟨D,fm.gs,s₂.gens.size,fm.F,s₂.os,h₃.objs.size,x,nd,T₂,(h₄.push oga).objs.size,it,fm.L,oL,ga,oga,n,fun i H=>∃ H₃,H=(P,.raw op')::H₃/\J i H₃,genEnv scope cl h₃.objs.size code builtinsNs env,elt,iter,px,scope,gpos⟩
 have ok:γ.Ok k:=by
  refine ⟨hisgen,fun gs=>⟨hkind,rfl,hE.glob,rfl⟩,hco,hx,fun A' gs i H X hr' hi hPi=>?_⟩
  ·obtain ⟨H₃,e,hJ'⟩:=hPi
   subst e
   refine EV.perm (List.perm_middle (l₁:=X) (a:=(P,AObj.raw op')) (l₂:=H₃)) ?_
   refine EV.mono (helt (γ.fm gs) _ A' rfl rfl rfl hr' i H₃ ((P,.raw op')::X) hi hJ') fun y H₄ ⟨t,H₅,e1,e2,e3,e4⟩=>⟨t,(P,.raw op')::H₅,e1,e2,?_,H₅,rfl,e4⟩
   exact e3.trans (List.perm_middle (l₁:=X) (a:=(P,AObj.raw op')) (l₂:=H₅)).symm
 have I₇:Inv D (γ.fm (s₂.gens.push (.fresh γ.start))) T₂ { s₂ with heap:=h₄.push oga,toks:=tk₃+1+1+1,gens:=s₂.gens.push (.fresh γ.start) } ((it,.io (.riter (0:Nat) (n - (0:Nat):Int) 1))::(fm.L,.raw oL)::(ga,.raw oga)::(P,.raw op')::R) [some (.ref it),none]:=
  (I₆.perm (Ext.perm Ext.at3)).regen rfl rfl (GOk.refl _)
 refine wpNoE (Gn.join (γ:=γ) (A:=A) ok hr.handled hroom hn (Rm.gen rfl hr) (Sub.refl _) ⟨R,rfl,hJ⟩ (GG.new I₃.gens hbare) (by show (s₂.gens.push _)[s₂.gens.size]?=_; simp; rfl) rfl I₇) fun v s' oo=>?_
 obtain ⟨y,t,vs',e,hy,T',acc,H',xv',k1,k2,k3,⟨H₃,e',hJ'⟩,k5,k6,k7,I'⟩:=oo
 subst e
 subst e'
 have I₈:=I'.swapOut (gs':=fm.gs) (ns:=fm.ns) (nd:=fm.nd) (vs:=vs) .head hFL hLns hLrel k1 (k5.ended k6)
 have hos:s₂.os=fm.os:=I₃.os
 have I₉:Inv D fm T' s' ((ga,.raw oga)::(P,.raw op')::H₃) vs:=by
  rw [show fm=⟨fm.F,fm.L,fm.gs,fm.os,fm.ns,fm.nd⟩ from rfl,<- hos]
  exact I₈
 exact ⟨T',.str y,_,(st₁.trans st₂).trans k1,I₉.forget .head,.str _ _,hq y H₃ op' hy hJ' hop'⟩⟩
end
end Mine
end
section
namespace Mine
section
variable {D:Wd} {fm:Fm} {A:Around} {env:Env} {H R:HL} {vs:List (Option V)} {T:Led} {s:Shared}
theorem Inv.turn {a:Addr} {o:AObj} {ob:Obj} {h':Heap} {tk:Tok} {X:HL} {NX:Led} (e:Ext a o H R) (I:Inv D fm T s H vs) (hb:∀ b₀,Conc D T a o b₀->b₀=[(a,ob)]) (hget:s.heap.get? a=some ob) (c':Concs D T X NX)
  (h1:∀ p∈NX,h'.get? p.1=some p.2/\(p.1=a\/s.heap.objs.size<=p.1)) (hnd:(NX.map (·.1)).Nodup) (h2:∀ x ob,s.heap.get? x=some ob->x≠a->h'.get? x=some ob) :
  Inv D fm T { s with heap:=h',toks:=tk } (X++R) vs:=by
 have hlo:=I.low
 obtain ⟨⟨mc,N,F,l,c,n,nd,lo⟩,B,g,os⟩:=I
 obtain ⟨b1,NR,c1,c2,c3⟩:=c.split e
 have hb1:=hb _ c1
 subst hb1
 have pp:(T++N).Perm ((a,ob)::(T++NR)):=by
  refine (List.Perm.append_left T c3).trans ?_
  rw [<- List.append_assoc]
  exact List.Perm.append_right _ List.perm_append_comm
 have n':=News.perm pp n
 have nd':=(pp.map (·.1)).nodup_iff.mp nd
 rw [List.map_cons] at nd'
 obtain ⟨nd1,nd2⟩:=List.nodup_cons.mp nd'
 have ha:=n' _ (.head _)
 have hlow:a≠sysModules:=lo (a,ob) (c3.mem_iff.mpr (.head _))
 obtain ⟨oL,es,ep,hLo,r⟩:=F.ns
 have none_of:∀ x,s.heap.objs.size<=x->s.heap.get? x=none:=fun x hx=>Heap.get?_none_of_le hx
 refine ⟨⟨mc,NX++NR,⟨⟨oL,es,ep,h2 _ _ hLo (Ne.symm ha.2.1),r⟩,fun x ob e=>h2 _ _ (F.keep x ob e) (fun q=>by rw [q] at e; rw [ha.2.2] at e; cases e),F.above⟩,l,c'.append c2,?_,?_,?_⟩,B,g,os⟩
 ·intro p hp
  have old:p∈T++NR->h'.get? p.1=some p.2/\p.1≠fm.L/\fm.F.get? p.1=none:=fun hq=>by
   have:=n' p (.tail _ hq)
   refine ⟨h2 _ _ this.1 fun q=>nd1 ?_,this.2⟩
   have:=List.mem_map_of_mem (f:=(·.1)) hq
   rw [q] at this; exact this
  rcases List.mem_append.mp hp with hp | hp
  ·exact old (List.mem_append_left _ hp)
  ·rcases List.mem_append.mp hp with hp | hp
   ·obtain ⟨e1,e2⟩:=h1 p hp
    refine ⟨e1,?_⟩
    rcases e2 with e2 | e2
    ·rw [e2]; exact ha.2
    ·have e3:=none_of _ e2
     refine ⟨fun q=>?_,?_⟩
     ·rw [q,hLo] at e3; cases e3
     ·cases q:fm.F.get? p.1 with
      | none=>rfl
      | some ob=>rw [F.keep _ _ q] at e3; cases e3
   ·exact old (List.mem_append_right _ hp)
 ·have:(T++(NX++NR)).Perm (NX++(T++NR)):=by
   rw [<- List.append_assoc,<- List.append_assoc]
   exact List.Perm.append_right _ List.perm_append_comm
  refine (this.map (·.1)).nodup_iff.mpr ?_
  rw [List.map_append]
  refine List.nodup_append.mpr ⟨hnd,nd2,fun x hx y hy q=>?_⟩
  subst q
  obtain ⟨p,hp,rfl⟩:=List.mem_map.mp hx
  rcases (h1 p hp).2 with e2 | e2
  ·rw [e2] at hy; exact nd1 hy
  ·obtain ⟨q,hq,e⟩:=List.mem_map.mp hy
   have:=(n' q (.tail _ hq)).1
   rw [show q.1=p.1 from e,none_of _ e2] at this; cases this
 ·intro p hp
  rcases List.mem_append.mp hp with hp | hp
  ·rcases (h1 p hp).2 with e2 | e2
   ·rw [e2]; exact hlow
   ·exact Nat.ne_of_gt (Nat.lt_of_lt_of_le hlo e2)
  ·exact lo p (c3.mem_iff.mpr (.tail _ hp))
theorem EX.nestDef {name:Str} {params:Arguments} {body:List Stmt} {scope:Scope} {pos:Pos} {cl:List (Str×Addr)} {c P:Addr} {i:Nat} {Q:Fl->HL->List (Option V)->Prop}
  (hd0:params.defaults=[]) (hk0:params.kw_defaults=[]) (ha:annTrees params none env=[]) (hcode:env.code=.ref c) (hC:∀ h,D.K.In h->CodeHd h c P) (hcl:closureFor scope env=pure cl)
  (hk:env.scope.names.lookup name=some .local) (hi:fm.ns[i]?=some name) (e:Ext P (.raw (tabObj #[])) H R)
  (hq:∀ f c' qual oc cvs t doc pm ctv op,TabO op->oc.data=.fields cvs->cvs[1]?=some (.str qual t)->
   Q .next ((f,.raw (fnMade name qual params body scope cl doc pm c' ctv))::(c',.raw oc)::(P,.raw op)::R) (vs.set i (some (.ref f)))) :
  EX D fm A env (.FunctionDef name params body [] none [] scope none name pos) H vs Q:=⟨fun hE T s I=>by
 have hP:=I.rawAt e.mem
 have hg:=I.base.t.g.keeps I.keep
 obtain ⟨bm,ob,b1,b2,b3,b4,b5,b6⟩:=I.base.t.bmain
 have hne:∀ a o,fm.F.get? a=some o->a≠P:=fun a o ea q=>by
  obtain ⟨b,hc,hb⟩:=I.read e.mem
  cases hc with
  | raw _=>
   have:=(hb _ (.head _)).2.2.1
   rw [q] at ea
   rw [show (P,tabObj #[]).1=P from rfl] at this
   rw [this] at ea; cases ea
 have hgP:mainGlobals≠P:=by
  obtain ⟨o,es,ep,eg,hd,_⟩:=I.base.t.g
  exact hne _ o eg
 have hbG:bm≠mainGlobals:=fun q=>by
  obtain ⟨o,es,ep,e,hd,_⟩:=I.base.t.g
  rw [q,e] at b3; cases b3; rw [hd] at b6; cases b6
 refine nestDef_K hd0 hk0 ha ?_
 refine makeFunction_K hcl hE.glob hg hcode (hC _ I.k) hP (by exact trivial) rfl hgP ⟨bm,ob,b1,b2,hbG,hne _ _ b3,I.keep _ _ b3,b4,b5,b6⟩ fun c' ctv doc h' tk hx hge hlt hrec htb=>?_
 obtain ⟨c₂,oc,cvs,t,e2,hoc,hd,hv⟩:=hrec
 cases e2
 have hcP:c'≠P:=fun q=>by
  have:=Heap.lt_size hP
  rw [<- q] at this
  exact Nat.lt_irrefl _ (Nat.lt_of_lt_of_le this hge)
 have I₂:=I.turn (tk:=tk) (h':=h') (X:=[(c',.raw oc),(P,.raw (tabObj (#[]++#[rawInt pos.line,rawInt pos.col,.ref c'])))]) (NX:=[(c',oc),(P,tabObj (#[]++#[rawInt pos.line,rawInt pos.col,.ref c']))]) e
  (fun b₀ h=>by cases h; rfl) hP (.cons (b:=[_]) (.raw (get_free hoc)) (.cons (b:=[_]) (.raw rfl) .nil)) (fun p hp=>by
   rcases List.mem_cons.mp hp with rfl | hp
   ·exact ⟨hoc,.inr hge⟩
   ·rcases List.mem_cons.mp hp with rfl | hp
    ·exact ⟨htb,.inl rfl⟩
    ·cases hp) (by simp [hcP]) fun x ob e hx'=>hx x ob hx' e
 have I₃:=I₂.new1 (tk:=tk) (ob:=fnMade name (qualnameIn env name name) params body scope cl doc ((D.mg "__name__").getD .none) c' ctv) (o':=.raw _) rfl (.raw rfl)
 refine storeL hE hk hi I₃ (.ref _) fun s' I'=>⟨T,_,_,_,.refl _,I',.next,hq _ c' _ oc cvs t doc _ ctv _ ⟨_,rfl,?_⟩ hd hv⟩
 exact TriplesOk_snoc pos.line pos.col (.ref c') [] trivial⟩
end
end Mine
end
section
namespace Mine
section
variable {D:Wd} {fm:Fm} {A:Around} {env:Env} {H R:HL} {vs:List (Option V)} {T:Led} {s:Shared}
noncomputable def cellEnts (l:List (Str×Addr)):HL:=l.map fun q=>(q.2,.cell none)
end
end Mine
end
section
namespace Mine
section
variable {D:Wd} {fm:Fm} {A:Around} {env:Env} {H R:HL} {vs:List (Option V)} {T:Led} {s:Shared}
theorem EB.mono {e:Expr} {Q Q':Bool->HL->Prop} (h:EB D fm A env e H vs Q) (hq:∀ b H,Q b H->Q' b H):EB D fm A env e H vs Q':=
 ⟨fun he T s I=>wpNoE (h.run he T s I) fun _ _ oo=>by obtain ⟨T',H',h1,h2,h3⟩:=oo; exact ⟨T',H',h1,h2,hq _ _ h3⟩⟩
theorem Conc.front {a:Addr} {o:AObj} {b:Led} (c:Conc D T a o b):∃ ob r,b=(a,ob)::r:=by
 cases c <;> exact ⟨_,_,rfl⟩
theorem Concs.sub {H:HL} {N:Led} (h:Concs D T H N):(H.map (·.1)).Sublist (N.map (·.1)):=by
 induction h with
 | nil=>exact .slnil
 | cons c _ ih=>
  obtain ⟨ob,r,rfl⟩:=c.front
  rw [List.map_cons,List.cons_append,List.map_cons,List.map_append]
  exact .cons_cons _ (ih.trans (List.sublist_append_right _ _))
theorem Inv.nodupH (I:Inv D fm T s H vs):(H.map (·.1)).Nodup:=by
 obtain ⟨mc,N,F,l,c,n,nd,lo⟩:=I.ex
 rw [List.map_append] at nd
 exact (List.nodup_append.mp nd).2.1.sublist c.sub
theorem XS.nodup {st:List Stmt} {Q:Fl->HL->List (Option V)->Prop} (h:(H.map (·.1)).Nodup->XS D fm A env st H vs Q):XS D fm A env st H vs Q:=⟨fun he T s I=>(h I.nodupH).run he T s I⟩
end
end Mine
end
section
namespace Mine
section
variable {D:Wd} {fm:Fm} {A:Around} {env:Env} {H R:HL} {vs:List (Option V)} {T:Led} {s:Shared}
inductive SliR (D:Wd) (Q:V->HL->Prop) (x k:V) (H:HL):Prop where
 | mk (a:Addr) (o:Obj) (ws:List Value) (n:Nat) (xs:List V) (i:Int) (ex:x=.ref a) (ek:k=.int i) (hK:D.K.lookup a=some o) (hc:o.cls=.type "list") (hd:o.data=.seq ws.toArray n) (hr:∀ T,VRels T xs ws) (hz:xs.length<=sizeLine) (q:∀ r,Q (.ref r) ((r,.list (xs.take (clipTo i xs.length)))::H))
theorem EV.sliceToR {o u:Expr} {p pos:Pos} {Q:V->HL->Prop} (h:EV D fm A env o H vs (thenE D fm A env u vs (SliR D Q)))
  (ht:∀ v r,letTemporaryGo o v r=pure ():=by intro _ _; rfl):EV D fm A env (.Subscript o (.Slice none (some u) none p) pos) H vs Q:=⟨fun he T s I=>wpAny_Subscript_list_slice (wpNoE (h.run he T s I) fun ov s₁ oo=>by
  obtain ⟨T₁,x,H₁,st₁,I₁,hx,h₁⟩:=oo
  rw [evalPart_none]
  refine wpAny_pure ?_
  rw [evalPart_some]
  refine wpNoE (h₁.run he _ _ I₁) fun uv s₂ ⟨T₂,k,H₂,st₂,I₂,hk,a,o,ws,n,xs,i,e1,e2,m,hoc,hod,g,hz,hq⟩=>?_
  subst e1; subst e2; obtain ⟨_,rfl⟩:=hx.inv; obtain ⟨_,rfl⟩:=hk.inv
  have g1:=I₂.k _ _ m
  have g2:=g T₂
  refine ⟨a,ws.toArray,none,some i,rfl,⟨_,g1,hoc,_,hod⟩,by show ws.length<=_; rw [g2.length]; exact hz,.none,.int _ _,T₂,.ref _,_,st₁.trans st₂,?_,.ref _,hq _⟩
  have key:∀ so:Obj,Inv D fm T₂ { s₂ with heap:=(s₂.heap.push so).push (lObj (ws.take (clipTo i xs.length)) 0) } ((s₂.heap.objs.size+1,.list (xs.take (clipTo i xs.length)))::H₂) vs:=fun so=>by
   have:=(I₂.grow (h':=s₂.heap.push so) (tk:=s₂.toks) fun b ob e=>Heap.get?_push_of_some _ e).pushList (g2.take (clipTo i xs.length))
   rw [show ({ s₂ with heap:=s₂.heap.push so }:Shared).heap.objs.size=s₂.heap.objs.size+1 from Heap.size_push _ _] at this
   exact this
  rw [slicePick_clip,show ws.toArray.size=xs.length from g2.length]
  exact key _) ht⟩
end
end Mine
end
section
namespace Mine
noncomputable def stmtAt (n:Nat):Stmt:=PySem.Challenge.pw_pb0341_01.main.body.getD n (.Pass default)
structure Pt where
 n:Str
 a:Arguments
 b:List Stmt
 sc:Scope
 o:List Stmt
 e:Expr
noncomputable def ptOf (b o:List Stmt) (e:Expr):Pt:=⟨default,default,b,default,o,e⟩
noncomputable def pt:Stmt->Pt
 | .FunctionDef n a b _ _ _ sc _ _ _=>⟨n,a,b,sc,[],.Constant .none 0 default⟩
 | .ClassDef _ _ _ b _ _ _ _ _ _ _=>ptOf b [] (.Constant .none 0 default)
 | .For _ e b o _=>ptOf b o e
 | .While e b o _=>ptOf b o e
 | .If e b o _=>ptOf b o e
 | .Assign _ e _=>ptOf [] [] e
 | _=>ptOf [] [] (.Constant .none 0 default)
@[reducible] noncomputable def clsBody (s:Stmt):List Stmt:=(pt s).b
noncomputable def methAt (n k:Nat):Stmt:=(clsBody (stmtAt n)).getD k (.Pass default)
@[reducible] noncomputable def fnName (s:Stmt):Str:=(pt s).n
@[reducible] noncomputable def fnParams (s:Stmt):Arguments:=(pt s).a
@[reducible] noncomputable def fnBody (s:Stmt):List Stmt:=(pt s).b
@[reducible] noncomputable def fnScope (s:Stmt):Scope:=(pt s).sc
structure FnK (K:Frag) (f:Addr) (qual:Str) (st:Stmt):Prop where
 ex:∃ oc od osl doc pm an cdv ct,K.lookup f=some ⟨oc,od,.func (fnOf (fnName st) qual (fnParams st) (fnBody st) (fnScope st) .none .none doc pm an cdv ct),osl⟩/\codeIn K cdv qual=true
 keep:keepIn K (.ref f)=true
structure Ads where
 alignment:Addr
 align:Addr
 whole_words:Addr
 place_fields:Addr
 pointer_offsets:Addr
 record_pointers:Addr
 distinct:Addr
 base_chain:Addr
 string_words:Addr
 law_row:Addr
 law_next:Addr
 law_pointers:Addr
 law_inside:Addr
 cDA:Addr
 cType:Addr
 cObj:Addr
 cTypes:Addr
 da_init:Addr
 da_add_word:Addr
 da_string_address:Addr
 da_descriptor:Addr
 da_own_descriptor:Addr
 da_make_descriptor:Addr
 da_add_reference:Addr
 ty_init:Addr
 ob_init:Addr
 ts_init:Addr
 ts_new:Addr
noncomputable def tyNames:List Str:=["number","form","size","base","length","fields","level","params","module","label","hidden","exno"]
noncomputable def obNames:List Str:=["name","kind","type","place","exported","readonly","level","module","value","slot","offset","number","isparam","narrowed"]
noncomputable def tsNames:List Str:=["counter","known","boolean","char","byte","integer","mask","nil","none"]
noncomputable def daNames:List Str:=["module","import_index","size","words","fixups","strings","descriptors"]
structure FnKD (K:Frag) (f:Addr) (qual:Str) (st:Stmt):Prop where
 ex:∃ oc od osl doc pm an cdv ct Td ot n t1 t2,K.lookup f=some ⟨oc,od,.func (fnOf (fnName st) qual (fnParams st) (fnBody st) (fnScope st) (.ref Td) .none doc pm an cdv ct),osl⟩/\codeIn K cdv qual=true /\
  K.lookup Td=some ot/\ot.data=.seq #[.str "" t1,.str "" t2] n
 keep:keepIn K (.ref f)=true
structure MethK (K:Frag) (C f:Addr) (name:Str):Prop where
 get:plainGet K C name=true
 find:findIn K (.ref C) name=some (some (.ref f))
 fn:isFn K (.ref f)=true
structure KF (D:Wd) (ad:Ads):Prop where
 alignment:FnK D.K ad.alignment "alignment" (stmtAt 1)
 align:FnK D.K ad.align "align" (stmtAt 2)
 whole_words:FnK D.K ad.whole_words "whole_words" (stmtAt 3)
 place_fields:FnK D.K ad.place_fields "place_fields" (stmtAt 4)
 pointer_offsets:FnK D.K ad.pointer_offsets "pointer_offsets" (stmtAt 5)
 record_pointers:FnK D.K ad.record_pointers "record_pointers" (stmtAt 6)
 distinct:FnK D.K ad.distinct "distinct" (stmtAt 7)
 base_chain:FnK D.K ad.base_chain "base_chain" (stmtAt 12)
 string_words:FnK D.K ad.string_words "string_words" (stmtAt 13)
 law_row:FnK D.K ad.law_row "_law_row" (stmtAt 19)
 law_next:FnK D.K ad.law_next "_law_next" (stmtAt 20)
 law_pointers:FnK D.K ad.law_pointers "_law_pointers" (stmtAt 21)
 law_inside:FnK D.K ad.law_inside "_law_inside" (stmtAt 22)
 da_init:FnK D.K ad.da_init "DataArea.__init__" (methAt 11 0)
 da_add_word:FnK D.K ad.da_add_word "DataArea.add_word" (methAt 11 1)
 da_string_address:FnK D.K ad.da_string_address "DataArea.string_address" (methAt 11 2)
 da_descriptor:FnK D.K ad.da_descriptor "DataArea.descriptor" (methAt 11 3)
 da_own_descriptor:FnK D.K ad.da_own_descriptor "DataArea.own_descriptor" (methAt 11 4)
 da_make_descriptor:FnK D.K ad.da_make_descriptor "DataArea.make_descriptor" (methAt 11 5)
 da_add_reference:FnK D.K ad.da_add_reference "DataArea.add_reference" (methAt 11 6)
 ty_init:FnK D.K ad.ty_init "Type.__init__" (methAt 15 0)
 ob_init:FnK D.K ad.ob_init "Obj.__init__" (methAt 16 0)
 ts_init:FnK D.K ad.ts_init "Types.__init__" (methAt 17 0)
 m_da_add_word:MethK D.K ad.cDA ad.da_add_word "add_word"
 m_da_string_address:MethK D.K ad.cDA ad.da_string_address "string_address"
 m_da_descriptor:MethK D.K ad.cDA ad.da_descriptor "descriptor"
 m_da_own_descriptor:MethK D.K ad.cDA ad.da_own_descriptor "own_descriptor"
 m_da_make_descriptor:MethK D.K ad.cDA ad.da_make_descriptor "make_descriptor"
 m_da_add_reference:MethK D.K ad.cDA ad.da_add_reference "add_reference"
 ts_new:FnKD D.K ad.ts_new "Types.new" (methAt 17 1)
 m_ts_new:MethK D.K ad.cTypes ad.ts_new "new"
 n_alignment:nsIn D.K mainGlobals "alignment"=some (some (.ref ad.alignment))
 n_align:nsIn D.K mainGlobals "align"=some (some (.ref ad.align))
 n_whole_words:nsIn D.K mainGlobals "whole_words"=some (some (.ref ad.whole_words))
 n_place_fields:nsIn D.K mainGlobals "place_fields"=some (some (.ref ad.place_fields))
 n_pointer_offsets:nsIn D.K mainGlobals "pointer_offsets"=some (some (.ref ad.pointer_offsets))
 n_record_pointers:nsIn D.K mainGlobals "record_pointers"=some (some (.ref ad.record_pointers))
 n_distinct:nsIn D.K mainGlobals "distinct"=some (some (.ref ad.distinct))
 n_base_chain:nsIn D.K mainGlobals "base_chain"=some (some (.ref ad.base_chain))
 n_string_words:nsIn D.K mainGlobals "string_words"=some (some (.ref ad.string_words))
 n_law_row:nsIn D.K mainGlobals "_law_row"=some (some (.ref ad.law_row))
 n_law_next:nsIn D.K mainGlobals "_law_next"=some (some (.ref ad.law_next))
 n_law_pointers:nsIn D.K mainGlobals "_law_pointers"=some (some (.ref ad.law_pointers))
 n_law_inside:nsIn D.K mainGlobals "_law_inside"=some (some (.ref ad.law_inside))
 n_DataArea:nsIn D.K mainGlobals "DataArea"=some (some (.ref ad.cDA))
 n_Type:nsIn D.K mainGlobals "Type"=some (some (.ref ad.cType))
 n_Obj:nsIn D.K mainGlobals "Obj"=some (some (.ref ad.cObj))
 n_Types:nsIn D.K mainGlobals "Types"=some (some (.ref ad.cTypes))
 n_LEVELS:∃ t,nsIn D.K mainGlobals "LEVELS"=some (some (.int 4 t))
 n_END:∃ t,nsIn D.K mainGlobals "END_OF_POINTERS"=some (some (.int 4294967295 t))
 n_len:nsIn D.K mainGlobals "len"=some none
 n_range:nsIn D.K mainGlobals "range"=some none
 n_max:nsIn D.K mainGlobals "max"=some none
 n_sorted:nsIn D.K mainGlobals "sorted"=some none
 n_ord:nsIn D.K mainGlobals "ord"=some none
 n_chr:nsIn D.K mainGlobals "chr"=some none
 n_list:nsIn D.K mainGlobals "list"=some none
 n_str:nsIn D.K mainGlobals "str"=some none
 n_sum:nsIn D.K mainGlobals "sum"=some none
 tyAttr:∀ n∈tyNames,ClsAttr D.K ad.cType n
 tyMake:ClsMake D.K ad.cType ad.ty_init
 tyKeep:keepIn D.K (.ref ad.cType)=true
 obAttr:∀ n∈obNames,ClsAttr D.K ad.cObj n
 obMake:ClsMake D.K ad.cObj ad.ob_init
 obKeep:keepIn D.K (.ref ad.cObj)=true
 tsAttr:∀ n∈tsNames,ClsAttr D.K ad.cTypes n
 tsMake:ClsMake D.K ad.cTypes ad.ts_init
 tsKeep:keepIn D.K (.ref ad.cTypes)=true
 daAttr:∀ n∈daNames,ClsAttr D.K ad.cDA n
 daMake:ClsMake D.K ad.cDA ad.da_init
 daKeep:keepIn D.K (.ref ad.cDA)=true
 daHook:findIn D.K (.ref ad.cDA) "__getattribute__"=some (some (.builtin "object.__getattribute__"))
 daNoHook:findIn D.K (.ref ad.cDA) "__getattr__"=some none
section
variable {D:Wd} {A:Around} {H:HL}
theorem CL.fnK {k:Nat} {f:Addr} {qual:Str} {st:Stmt} {ps os:List Str} {xs:List V} {Q:V->HL->Prop} (hf:FnK D.K f qual st) (hroom:Rm (k+1) A)
  (hb:∀ (doc pm cdv ct:Value) (an:Option Addr) (ws:List Value),ws.length=xs.length->bindArgs (fnOf (fnName st) qual (fnParams st) (fnBody st) (fnScope st) .none .none doc pm an cdv ct) ⟨ws,[]⟩=pure (ps.zip ws)) (hl:ps.length=xs.length)
  (hloc:(ps.all fun x=>(fnScope st).names.lookup x==some .local)=true) (nd:(ps++os).Nodup) (hcell:((fnScope st).names.all fun x=>x.2 != .cell)=true)
  (h:∀ (fm:Fm) (env:Env) (A':Around),fm.ns=ps++os->env.scope=fnScope st->Rm k A'->XS D fm A' env (fnBody st) H (xs.map some++List.replicate os.length none) (outQ Q))
  (hco:(fnScope st).isCoroutine=false:=by rfl) (hgen:(fnScope st).isGenerator=false:=by rfl) (hk:(fnScope st).kind=.function:=by rfl):CL D A (.ref f) xs H Q:=by
 obtain ⟨oc,od,osl,doc,pm,an,cdv,ct,h1,h2⟩:=hf.ex
 refine CL.fn h1 h2 hroom (hb doc pm cdv ct an) hl (fun x hx=>?_) nd (fun fm hns A' hr=>h fm _ A' hns rfl hr) (fun x hx=>?_) hco hgen hk
 ·simpa using List.all_eq_true.mp hloc x hx
 ·simpa using List.all_eq_true.mp hcell x hx
end
end Mine
namespace Mine
theorem bl1 {α:Type} {P:List α->Prop} (h:∀ a,P [a]):∀ ws:List α,ws.length=1->P ws
 | [a],_=>h a
theorem bl2 {α:Type} {P:List α->Prop} (h:∀ a b,P [a,b]):∀ ws:List α,ws.length=2->P ws
 | a::r,e=>bl1 (P:=fun r=>P (a::r)) (h a) r (Nat.succ.inj e)
theorem bl3 {α:Type} {P:List α->Prop} (h:∀ a b c,P [a,b,c]):∀ ws:List α,ws.length=3->P ws
 | a::r,e=>bl2 (P:=fun r=>P (a::r)) (h a) r (Nat.succ.inj e)
theorem bl4 {α:Type} {P:List α->Prop} (h:∀ a b c d,P [a,b,c,d]):∀ ws:List α,ws.length=4->P ws
 | a::r,e=>bl3 (P:=fun r=>P (a::r)) (h a) r (Nat.succ.inj e)
theorem bl5 {α:Type} {P:List α->Prop} (h:∀ a b c d e,P [a,b,c,d,e]):∀ ws:List α,ws.length=5->P ws
 | a::r,e=>bl4 (P:=fun r=>P (a::r)) (h a) r (Nat.succ.inj e)
structure LocN (fm:Fm) (env:Env) (n:String) (i:Nat):Prop where
 l:env.scope.names.lookup (Str.ofString n)=some .local
 i:fm.ns[i]?=some (Str.ofString n)
 d:(Str.ofString n==("__debug__":Str))=false
theorem LocN.of {fm:Fm} {env:Env} {n:String} {i:Nat} {S:Scope} {N:List Str} (hsc:env.scope=S) (hns:fm.ns=N) (h1:S.names.lookup (Str.ofString n)=some .local) (h2:N[i]?=some (Str.ofString n)) (d:(Str.ofString n==("__debug__":Str))=false):LocN fm env n i:=⟨hsc ▸ h1,hns ▸ h2,d⟩
structure KpA (D:Wd) (v:V):Prop where
 k:∀ H,Kp D H v
theorem KpA.at {D:Wd} {v:V} {H:HL} (h:KpA D v):Kp D H v:=h.k H
theorem KpA.of {D:Wd} {a:Addr} (h:keepIn D.K (.ref a)=true):KpA D (.ref a):=⟨fun _=>.k h⟩
structure GlbN (D:Wd) (env:Env) (n:String) (y:V):Prop where
 ev:∀ (fm:Fm) (A:Around) (H:HL) (vs:List (Option V)) (pos:Pos) (Q:V->HL->Prop),Q y H->EV D fm A env (.Name (Str.ofString n) pos) H vs Q
section
variable {D:Wd} {fm:Fm} {A:Around} {env:Env} {H:HL} {vs:List (Option V)} {n:String} {i:Nat} {pos:Pos}
theorem GlbN.k {a:Addr} (h:env.scope.names.lookup (Str.ofString n)=some .globalImplicit) (e:nsIn D.K mainGlobals (Str.ofString n)=some (some (.ref a))) (hd:(Str.ofString n==("__debug__":Str))=false:=by rfl):GlbN D env n (.ref a):=
 ⟨fun fm A H vs pos Q hq=>EV.glob h e (fun _=>.ref _) hq hd⟩
theorem GlbN.int {k:Int} (h:env.scope.names.lookup (Str.ofString n)=some .globalImplicit) (e:∃ t,nsIn D.K mainGlobals (Str.ofString n)=some (some (.int k t))) (hd:(Str.ofString n==("__debug__":Str))=false:=by rfl):GlbN D env n (.int k):=
 ⟨fun fm A H vs pos Q hq=>let ⟨_,e⟩:=e; EV.glob h e (fun _=>.int _ _) hq hd⟩
theorem GlbN.b {u:Value} (h:env.scope.names.lookup (Str.ofString n)=some .globalImplicit) (e:nsIn D.K mainGlobals (Str.ofString n)=some none) (hv:bootBuiltins (Str.ofString n)=some u) (hn:(Str.ofString n)≠"__name__":=by decide) (hd:(Str.ofString n==("__debug__":Str))=false:=by rfl):GlbN D env n (.raw u):=
 ⟨fun fm A H vs pos Q hq=>EV.bltn h e hv hn hq hd⟩
theorem GlbN.k' {a:Addr} {S:Scope} (hsc:env.scope=S) (h:S.names.lookup (Str.ofString n)=some .globalImplicit) (e:nsIn D.K mainGlobals (Str.ofString n)=some (some (.ref a))) (hd:(Str.ofString n==("__debug__":Str))=false:=by rfl):GlbN D env n (.ref a):=.k (hsc ▸ h) e hd
theorem GlbN.b' {u:Value} {S:Scope} (hsc:env.scope=S) (h:S.names.lookup (Str.ofString n)=some .globalImplicit) (e:nsIn D.K mainGlobals (Str.ofString n)=some none) (hv:bootBuiltins (Str.ofString n)=some u) (hn:(Str.ofString n)≠"__name__":=by decide) (hd:(Str.ofString n==("__debug__":Str))=false:=by rfl):GlbN D env n (.raw u):=.b (hsc ▸ h) e hv hn hd
theorem EV.locN {v:V} {Q:V->HL->Prop} (h:LocN fm env n i) (hv:vs[i]?=some (some v)) (hq:Q v H):EV D fm A env (.Name (Str.ofString n) pos) H vs Q:=EV.loc h.l h.i hv hq h.d
theorem EV.glbN {y:V} {Q:V->HL->Prop} (h:GlbN D env n y) (hq:Q y H):EV D fm A env (.Name (Str.ofString n) pos) H vs Q:=h.ev _ _ _ _ _ _ hq
theorem EX.assignN {p:Pos} {e:Expr} {Q:Fl->HL->List (Option V)->Prop} (hl:LocN fm env n i) (h:EV D fm A env e H vs (asgQ vs i Q))
  (hs:swapsWith e (some (.Name (Str.ofString n) p)) pos.line env=pure false:=by rfl):EX D fm A env (.Assign [.Name (Str.ofString n) p] e pos) H vs Q:=EX.assign hl.l hl.i h hs
theorem EX.augN {p:Pos} {op:Operator} {e:Expr} {y:V} {Q:Fl->HL->List (Option V)->Prop} (h:LocN fm env n i) (hv:vs[i]?=some (some y))
  (he:EV D fm A env e H vs (ipP D A op y (asgQ vs i Q))):EX D fm A env (.AugAssign (.Name (Str.ofString n) p) op e pos) H vs Q:=EX.aug h.l h.i hv he
theorem AS.locN {it:Addr} {y:V} {Q:HL->List (Option V)->Prop} (h:LocN fm env n i) (hq:Q H (vs.set i (some y))):AS D fm A env (.Name (Str.ofString n) pos) it y H vs Q:=AS.loc h.l h.i hq
end
theorem boot_len:bootBuiltins "len"=some (.builtin "len"):=by rfl
theorem boot_max:bootBuiltins "max"=some (.builtin "max"):=by rfl
theorem boot_sorted:bootBuiltins "sorted"=some (.builtin "sorted"):=by rfl
theorem boot_ord:bootBuiltins "ord"=some (.builtin "ord"):=by rfl
theorem boot_chr:bootBuiltins "chr"=some (.builtin "chr"):=by rfl
theorem boot_sum:bootBuiltins "sum"=some (.builtin "sum"):=by rfl
theorem boot_range:bootBuiltins "range"=some (.type "range"):=by rfl
theorem boot_list:bootBuiltins "list"=some (.type "list"):=by rfl
theorem boot_str:bootBuiltins "str"=some (.type "str"):=by rfl
class ListM (n:String) (id:outParam String):Prop where
 gm:∀ {D:Wd} {A:Around} {H:HL} {a:Addr} {xs:List V} {Q:V->List V->HL->Prop},(a,.list xs)∈H->Q (.raw (.builtin id)) [.ref a] H->GM D A (Str.ofString n) (.ref a) H Q
noncomputable instance:ListM "append" "list.append":=⟨GM.append⟩
noncomputable instance:ListM "pop" "list.pop":=⟨GM.pop⟩
noncomputable instance:ListM "insert" "list.insert":=⟨GM.insert⟩
noncomputable instance:ListM "extend" "list.extend":=⟨GM.extend⟩
noncomputable instance:ListM "reverse" "list.reverse":=⟨GM.reverse⟩
noncomputable instance:ListM "index" "list.index":=⟨GM.index⟩
theorem GM.listN {D:Wd} {A:Around} {H:HL} {n:String} {id:String} [h:ListM n id] {a:Addr} {xs:List V} {Q:V->List V->HL->Prop} (m:(a,.list xs)∈H) (hq:Q (.raw (.builtin id)) [.ref a] H):GM D A (Str.ofString n) (.ref a) H Q:=h.gm m hq
end Mine
namespace Mine
structure CelN (env:Env) (n:String) (c:Addr):Prop where
 l:env.scope.names.lookup (Str.ofString n)=some .cell
 c:env.cells.lookup (Str.ofString n)=some c
 d:(Str.ofString n==("__debug__":Str))=false
noncomputable def relS (S S0:Scope):Scope:={ S with names:=S.names.map fun (n,k)=>if (k==.free && S0.kind==.function && S0.names.lookup n==some .cell) then (n,.cell) else (n,k) }
theorem rel_scope {env env':Env} {S S0:Scope} {cl:List (Str×Addr)} {L:Addr} (he:env'=compEnvC S cl L env) (hsc:env.scope=S0):env'.scope=relS S S0:=by
 subst he hsc; rfl
theorem rel_cells {env env':Env} {S:Scope} {cl:List (Str×Addr)} {L:Addr} (he:env'=compEnvC S cl L env):env'.cells=cl:=by
 subst he; rfl
theorem CelN.of {env:Env} {n:String} {c:Addr} {S:Scope} {C:List (Str×Addr)} (hsc:env.scope=S) (hcl:env.cells=C) (h1:S.names.lookup (Str.ofString n)=some .cell) (h2:C.lookup (Str.ofString n)=some c) (d:(Str.ofString n==("__debug__":Str))=false):CelN env n c:=⟨hsc ▸ h1,hcl ▸ h2,d⟩
theorem lN {fm:Fm} {env:Env} {S:Scope} {N:List Str} (hsc:env.scope=S) (hns:fm.ns=N) (n:String) (i:Nat) (h1:S.names.lookup (Str.ofString n)=some .local:=by rfl) (h2:N[i]?=some (Str.ofString n):=by rfl) (d:(Str.ofString n==("__debug__":Str))=false:=by rfl):LocN fm env n i:=.of hsc hns h1 h2 d
theorem gN {D:Wd} {env:Env} {a:Addr} {S:Scope} (hsc:env.scope=S) (n:String) (e:nsIn D.K mainGlobals (Str.ofString n)=some (some (.ref a))) (h:S.names.lookup (Str.ofString n)=some .globalImplicit:=by rfl) (hd:(Str.ofString n==("__debug__":Str))=false:=by rfl):GlbN D env n (.ref a):=.k' hsc h e hd
theorem gB {D:Wd} {env:Env} {u:Value} {S:Scope} (hsc:env.scope=S) (n:String) (e:nsIn D.K mainGlobals (Str.ofString n)=some none) (hv:bootBuiltins (Str.ofString n)=some u) (h:S.names.lookup (Str.ofString n)=some .globalImplicit:=by rfl) (hn:(Str.ofString n)≠"__name__":=by decide) (hd:(Str.ofString n==("__debug__":Str))=false:=by rfl):GlbN D env n (.raw u):=.b' hsc h e hv hn hd
theorem gI {D:Wd} {env:Env} {k:Int} {S:Scope} (hsc:env.scope=S) (n:String) (e:∃ t,nsIn D.K mainGlobals (Str.ofString n)=some (some (.int k t))) (h:S.names.lookup (Str.ofString n)=some .globalImplicit:=by rfl) (hd:(Str.ofString n==("__debug__":Str))=false:=by rfl):GlbN D env n (.int k):=.int (hsc ▸ h) e hd
theorem cN {env:Env} {c:Addr} {S:Scope} {C:List (Str×Addr)} (hsc:env.scope=S) (hcl:env.cells=C) (n:String) (h1:S.names.lookup (Str.ofString n)=some .cell:=by rfl) (h2:C.lookup (Str.ofString n)=some c:=by rfl) (d:(Str.ofString n==("__debug__":Str))=false:=by rfl):CelN env n c:=.of hsc hcl h1 h2 d
section
variable {D:Wd} {ad:Ads} {fm:Fm} {A:Around} {env:Env} {H R:HL} {vs:List (Option V)} {n:String} {c:Addr} {pos:Pos}
theorem EV.celN {v:V} {Q:V->HL->Prop} (h:CelN env n c) (hm:(c,.cell (some v))∈H) (hq:Q v H):EV D fm A env (.Name (Str.ofString n) pos) H vs Q:=EV.cell h.l h.c hm hq h.d
theorem EX.assignCN {p:Pos} {e:Expr} {Q:Fl->HL->List (Option V)->Prop} (h:CelN env n c)
  (hv:EV D fm A env e H vs (AsgC vs c Q))
  (hs:swapsWith e (some (.Name (Str.ofString n) p)) pos.line env=pure false:=by rfl):EX D fm A env (.Assign [.Name (Str.ofString n) p] e pos) H vs Q:=EX.assignC h.l h.c hv hs
theorem AS.celN {it:Addr} {y:V} {o₀:Option V} {Q:HL->List (Option V)->Prop} (h:CelN env n c) (hm:Ext c (.cell o₀) H R) (hq:Q ((c,.cell (some y))::R) vs):AS D fm A env (.Name (Str.ofString n) pos) it y H vs Q:=AS.cell h.l h.c hm hq
theorem CL.fnKC {k:Nat} {f:Addr} {qual:Str} {st:Stmt} {p y:Str} {os:List Str} {x:V} {Q:V->HL->Prop} (hf:FnK D.K f qual st) (hroom:Rm (k+1) A)
  (hb:∀ (doc pm cdv ct:Value) (an:Option Addr) (w:Value),bindArgs (fnOf (fnName st) qual (fnParams st) (fnBody st) (fnScope st) .none .none doc pm an cdv ct) ⟨[w],[]⟩=pure [(p,w)])
  (hp:(fnScope st).names.lookup p=some .local) (nd:(p::os).Nodup) (hcs:∀ n,cellsFrom n (fnScope st).names []=[(y,n)])
  (h:∀ (fm:Fm) (env:Env) (c:Addr),fm.ns=p::os->env.scope=fnScope st->env.cells=[(y,c)]->∀ A':Around,Rm k A'->XS D fm A' env (fnBody st) ((c,.cell none)::H) (some x::List.replicate os.length none) (outQ Q))
  (hco:(fnScope st).isCoroutine=false:=by rfl) (hgen:(fnScope st).isGenerator=false:=by rfl) (hk:(fnScope st).kind=.function:=by rfl):CL D A (.ref f) [x] H Q:=by
 obtain ⟨oc,od,osl,doc,pm,an,cdv,ct,h1,h2⟩:=hf.ex
 exact .ofCC (CC.fnC h1 h2 hroom (hb doc pm cdv ct an) hp nd hcs (fun fm env c e1 e2 e3 A' hr=>h fm env c e1 e2 e3 A' hr) hco hgen hk)
theorem CL.fnKP {k:Nat} {f:Addr} {qual:Str} {st:Stmt} {y:Str} {os:List Str} {x:V} {Q:V->HL->Prop} (hf:FnK D.K f qual st) (hroom:Rm (k+1) A)
  (hb:∀ (doc pm cdv ct:Value) (an:Option Addr) (w:Value),bindArgs (fnOf (fnName st) qual (fnParams st) (fnBody st) (fnScope st) .none .none doc pm an cdv ct) ⟨[w],[]⟩=pure [(y,w)])
  (hp:(fnScope st).names.lookup y=some .cell) (nd:os.Nodup) (hcs:∀ n,cellsFrom n (fnScope st).names []=[(y,n)])
  (h:∀ (fm:Fm) (env:Env) (c:Addr),fm.ns=os->env.scope=fnScope st->env.cells=[(y,c)]->∀ A':Around,Rm k A'->XS D fm A' env (fnBody st) ((c,.cell (some x))::H) (List.replicate os.length none) (outQ Q))
  (hco:(fnScope st).isCoroutine=false:=by rfl) (hgen:(fnScope st).isGenerator=false:=by rfl) (hk:(fnScope st).kind=.function:=by rfl):CL D A (.ref f) [x] H Q:=by
 obtain ⟨oc,od,osl,doc,pm,an,cdv,ct,h1,h2⟩:=hf.ex
 exact .ofCC (CC.fnP h1 h2 hroom (hb doc pm cdv ct an) hp nd hcs (fun fm env c e1 e2 e3 A' hr=>h fm env c e1 e2 e3 A' hr) hco hgen hk)
end
end Mine
end
section
namespace Mine
section
variable {D:Wd} {ad:Ads} {A:Around} {H:HL}
theorem whole_words_ok (kf:KF D ad) {k:Nat} (hr:Rm (k+1) A) {n:Int} {Q:V->HL->Prop} (hq:Q (.int ((n+3).fdiv 4 * 4)) H):CL D A (.ref ad.whole_words) [.int n] H Q:=by
 refine CL.fnK (ps:=["size"]) (os:=[]) kf.whole_words hr (fun doc pm cdv ct an ws h=>?_) rfl (by rfl) (by decide) (by rfl) fun fm env A' hns hsc hr'=>?_
 ·revert ws h; refine bl1 ?_; intros; rfl
 ·have l0:env.scope.names.lookup ("size":Str)=some NameKind.local:=by rw [hsc]; rfl
  have i0:fm.ns[0]?=some ("size":Str):=by rw [hns]; rfl
  refine XS.cons (EX.ret (EV.bin (EV.bin (EV.bin (EV.loc l0 i0 rfl (EV.int ⟨_,.add,EV.int ⟨_,.fdiv (by decide) rfl,EV.int ⟨_,.mul ?_,?_⟩⟩⟩))))))
  ·exact IntMulOk.of_right (by decide)
  ·exact hq
end
end Mine
end
section
namespace Mine
structure TyD where
 number:Int
 form:Str
 size:Int
 base:V
 length:Int
 fields:Addr
 level:Int
 params:Addr
 module:Str
 label:Str
 hidden:Addr
 exno:Int
noncomputable def TyD.at (d:TyD):List (Str×V):=[("number",.int d.number),("form",.str d.form),("size",.int d.size),("base",d.base),("length",.int d.length),("fields",.ref d.fields),("level",.int d.level),("params",.ref d.params),("module",.str d.module),("label",.str d.label),("hidden",.ref d.hidden),("exno",.int d.exno)]
noncomputable def obAt (name kind:Str) (ty:V) (off:Int):List (Str×V):=[("name",.str name),("kind",.str kind),("type",ty),("place",.int 0),("exported",.bool false),("readonly",.bool false),("level",.int 0),("module",.str ""),("value",.none),("slot",.int 0),("offset",.int off),("number",.int 0),("isparam",.bool false),("narrowed",.none)]
class TyGet (n:String) (d:TyD) (x:outParam V):Prop where
 get:d.at.lookup (Str.ofString n)=some x
 mem:Str.ofString n∈tyNames
noncomputable instance (d:TyD):TyGet "number" d (.int d.number):=⟨by rfl,by decide⟩
noncomputable instance (d:TyD):TyGet "form" d (.str d.form):=⟨by rfl,by decide⟩
noncomputable instance (d:TyD):TyGet "size" d (.int d.size):=⟨by rfl,by decide⟩
noncomputable instance (d:TyD):TyGet "base" d d.base:=⟨by rfl,by decide⟩
noncomputable instance (d:TyD):TyGet "length" d (.int d.length):=⟨by rfl,by decide⟩
noncomputable instance (d:TyD):TyGet "fields" d (.ref d.fields):=⟨by rfl,by decide⟩
noncomputable instance (d:TyD):TyGet "level" d (.int d.level):=⟨by rfl,by decide⟩
noncomputable instance (d:TyD):TyGet "params" d (.ref d.params):=⟨by rfl,by decide⟩
noncomputable instance (d:TyD):TyGet "module" d (.str d.module):=⟨by rfl,by decide⟩
noncomputable instance (d:TyD):TyGet "label" d (.str d.label):=⟨by rfl,by decide⟩
noncomputable instance (d:TyD):TyGet "hidden" d (.ref d.hidden):=⟨by rfl,by decide⟩
noncomputable instance (d:TyD):TyGet "exno" d (.int d.exno):=⟨by rfl,by decide⟩
class ObGet (n:String) (nm k:Str) (ty:V) (off:Int) (x:outParam V):Prop where
 get:(obAt nm k ty off).lookup (Str.ofString n)=some x
 mem:Str.ofString n∈obNames
noncomputable instance (nm k:Str) (ty:V) (off:Int):ObGet "type" nm k ty off ty:=⟨by rfl,by decide⟩
noncomputable instance (nm k:Str) (ty:V) (off:Int):ObGet "offset" nm k ty off (.int off):=⟨by rfl,by decide⟩
section
variable {D:Wd} {ad:Ads} {A:Around} {H R:HL}
theorem GA.ty {a:Addr} {d:TyD} {n:String} {x:V} {Q:V->HL->Prop} [g:TyGet n d x] (kf:KF D ad) (m:(a,.inst ad.cType d.at)∈H) (hv:handV x=true:=by rfl) (hq:Q x H) :
  GA D A (Str.ofString n) (.ref a) H Q:=GA.own m (kf.tyAttr _ g.mem) g.get hv hq
theorem GA.ob {a:Addr} {nm k:Str} {ty:V} {off:Int} {n:String} {x:V} {Q:V->HL->Prop} [g:ObGet n nm k ty off x] (kf:KF D ad) (m:(a,.inst ad.cObj (obAt nm k ty off))∈H) (hv:handV x=true:=by rfl) (hq:Q x H) :
  GA D A (Str.ofString n) (.ref a) H Q:=GA.own m (kf.obAttr _ g.mem) g.get hv hq
theorem alignment_ok (kf:KF D ad) {k:Nat} (hr:Rm (k+1) A) {a:Addr} {d:TyD} {Q:V->HL->Prop} (m:(a,.inst ad.cType d.at)∈H) (hf:d.form≠"array") (hq:∀ n:Int,n=1\/n=4->Q (.int n) H) :
  CL D A (.ref ad.alignment) [.ref a] H Q:=by
 refine CL.fnK (ps:=["t"]) (os:=[]) kf.alignment hr (fun doc pm cdv ct an ws h=>?_) rfl (by rfl) (by decide) (by rfl) fun fm env A' hns hsc hr'=>?_
 ·revert ws h; refine bl1 ?_; intros; rfl
 ·
  have n0:=lN hsc hns "t" 0
  refine XS.cons (EX.while_ (fun n H₁ vs₁=>H₁=H/\vs₁=[some (.ref a)]) ⟨0,rfl,rfl⟩ fun n H₁ vs₁ ⟨e1,e2⟩=>?_)
  subst e1 e2
  refine EB.cmp (EV.attr (EV.locN n0 rfl (GA.ty kf m (hq:=EV.str (CP.of .eqS ⟨_,.bool _,?_⟩)))))
  refine ⟨fun hb=>absurd (by simpa using hb) hf,fun _=>?_⟩
  refine XS.nil (XS.cons (EX.ret ?_))
  refine EV.ife ?_
  refine EB.cmp (EV.attr (EV.locN n0 rfl (GA.ty kf m (hq:=EV.tuple (EL.cons (EV.str (EL.cons (EV.str (EL.cons (EV.str (EL.nil (leAnd rfl ?_))))))))))))
  refine CP.inTup (ys:=["boolean","char","byte"]) ?_
  refine ⟨_,.bool _,fun _=>?_,fun _=>?_⟩
  ·refine EV.int ?_
   exact hq _ (.inl rfl)
  ·refine EV.int ?_
   exact hq _ (.inr rfl)
theorem alignmentA_ok (kf:KF D ad) {k:Nat} (hr:Rm (k+1) A) {a b:Addr} {d e:TyD} {Q:V->HL->Prop} (m:(a,.inst ad.cType d.at)∈H) (mb:(b,.inst ad.cType e.at)∈H) (hf:d.form="array") (hb:d.base=.ref b) (hf':e.form≠"array")
  (hq:∀ n:Int,n=1\/n=4->Q (.int n) H):CL D A (.ref ad.alignment) [.ref a] H Q:=by
 refine CL.fnK (ps:=["t"]) (os:=[]) kf.alignment hr (fun doc pm cdv ct an ws h=>?_) rfl (by rfl) (by decide) (by rfl) fun fm env A' hns hsc hr'=>?_
 ·revert ws h; refine bl1 ?_; intros; rfl
 ·
  have n0:=lN hsc hns "t" 0
  refine XS.cons (EX.while_ (fun n H₁ vs₁=>H₁=H/\((n=1/\vs₁=[some (.ref a)])\/n=0/\vs₁=[some (.ref b)])) ⟨1,rfl,.inl ⟨rfl,rfl⟩⟩ fun n H₁ vs₁ ⟨e1,e2⟩=>?_)
  subst e1
  rcases e2 with ⟨e2,e3⟩ | ⟨e2,e3⟩
  ·subst e2 e3
   refine EB.cmp (EV.attr (EV.locN n0 rfl (GA.ty kf m (hq:=EV.str (CP.of .eqS ⟨_,.bool _,?_⟩)))))
   refine ⟨fun _=>?_,fun h=>absurd h (by simp [hf])⟩
   refine XS.cons (EX.assignN n0 (EV.attr (EV.locN n0 rfl ?_)))
   refine GA.ty kf m (hv:=by rw [hb]; rfl) (hq:=?_)
   rw [hb]
   refine XS.nil ?_
   exact ⟨0,by decide,rfl,.inr ⟨rfl,rfl⟩⟩
  ·subst e2 e3
   refine EB.cmp (EV.attr (EV.locN n0 rfl (GA.ty kf mb (hq:=EV.str (CP.of .eqS ⟨_,.bool _,?_⟩)))))
   refine ⟨fun hb=>absurd (by simpa using hb) hf',fun _=>?_⟩
   refine XS.nil (XS.cons (EX.ret ?_))
   refine EV.ife ?_
   refine EB.cmp (EV.attr (EV.locN n0 rfl (GA.ty kf mb (hq:=EV.tuple (EL.cons (EV.str (EL.cons (EV.str (EL.cons (EV.str (EL.nil (leAnd rfl ?_))))))))))))
   refine CP.inTup (ys:=["boolean","char","byte"]) ?_
   refine ⟨_,.bool _,fun _=>?_,fun _=>?_⟩
   ·refine EV.int ?_
    exact hq _ (.inl rfl)
   ·refine EV.int ?_
    exact hq _ (.inr rfl)
end
end Mine
end
section
namespace Mine
section
variable {D:Wd} {ad:Ads} {A:Around} {H R:HL}
theorem SA.ty_size {a:Addr} {d:TyD} {y:Int} {Q:HL->Prop} (kf:KF D ad) (m:Ext a (.inst ad.cType d.at) H R) (hq:Q ((a,.inst ad.cType { d with size:=y }.at)::R)):SA D A "size" (.ref a) (.int y) H Q:=
 SA.own m (kf.tyAttr _ (by decide)) (by show (12:Nat) < 1000; decide) hq
theorem SA.ty_base {a:Addr} {d:TyD} {y:V} {Q:HL->Prop} (kf:KF D ad) (m:Ext a (.inst ad.cType d.at) H R) (hq:Q ((a,.inst ad.cType { d with base:=y }.at)::R)):SA D A "base" (.ref a) y H Q:=
 SA.own m (kf.tyAttr _ (by decide)) (by show (12:Nat) < 1000; decide) hq
theorem SA.ty_length {a:Addr} {d:TyD} {y:Int} {Q:HL->Prop} (kf:KF D ad) (m:Ext a (.inst ad.cType d.at) H R) (hq:Q ((a,.inst ad.cType { d with length:=y }.at)::R)):SA D A "length" (.ref a) (.int y) H Q:=
 SA.own m (kf.tyAttr _ (by decide)) (by show (12:Nat) < 1000; decide) hq
theorem SA.ty_level {a:Addr} {d:TyD} {y:Int} {Q:HL->Prop} (kf:KF D ad) (m:Ext a (.inst ad.cType d.at) H R) (hq:Q ((a,.inst ad.cType { d with level:=y }.at)::R)):SA D A "level" (.ref a) (.int y) H Q:=
 SA.own m (kf.tyAttr _ (by decide)) (by show (12:Nat) < 1000; decide) hq
theorem SA.ty_module {a:Addr} {d:TyD} {y:Str} {Q:HL->Prop} (kf:KF D ad) (m:Ext a (.inst ad.cType d.at) H R) (hq:Q ((a,.inst ad.cType { d with module:=y }.at)::R)):SA D A "module" (.ref a) (.str y) H Q:=
 SA.own m (kf.tyAttr _ (by decide)) (by show (12:Nat) < 1000; decide) hq
theorem SA.ty_label {a:Addr} {d:TyD} {y:Str} {Q:HL->Prop} (kf:KF D ad) (m:Ext a (.inst ad.cType d.at) H R) (hq:Q ((a,.inst ad.cType { d with label:=y }.at)::R)):SA D A "label" (.ref a) (.str y) H Q:=
 SA.own m (kf.tyAttr _ (by decide)) (by show (12:Nat) < 1000; decide) hq
theorem SA.ty_hidden {a:Addr} {d:TyD} {y:Addr} {Q:HL->Prop} (kf:KF D ad) (m:Ext a (.inst ad.cType d.at) H R) (hq:Q ((a,.inst ad.cType { d with hidden:=y }.at)::R)):SA D A "hidden" (.ref a) (.ref y) H Q:=
 SA.own m (kf.tyAttr _ (by decide)) (by show (12:Nat) < 1000; decide) hq
theorem SA.ty_exno {a:Addr} {d:TyD} {y:Int} {Q:HL->Prop} (kf:KF D ad) (m:Ext a (.inst ad.cType d.at) H R) (hq:Q ((a,.inst ad.cType { d with exno:=y }.at)::R)):SA D A "exno" (.ref a) (.int y) H Q:=
 SA.own m (kf.tyAttr _ (by decide)) (by show (12:Nat) < 1000; decide) hq
theorem SA.ob_offset {a:Addr} {nm k:Str} {ty:V} {off y:Int} {Q:HL->Prop} (kf:KF D ad) (m:Ext a (.inst ad.cObj (obAt nm k ty off)) H R) (hq:Q ((a,.inst ad.cObj (obAt nm k ty y))::R)):SA D A "offset" (.ref a) (.int y) H Q:=
 SA.own m (kf.obAttr _ (by decide)) (by show (14:Nat) < 1000; decide) hq
noncomputable def AlT (ad:Ads) (H:HL) (t:Addr):Prop:=(∃ d:TyD,(t,.inst ad.cType d.at)∈H/\d.form≠"array") \/
 ∃ (d e:TyD) (b:Addr),(t,.inst ad.cType d.at)∈H/\(b,.inst ad.cType e.at)∈H/\d.form="array"/\d.base=.ref b/\e.form≠"array"
theorem AlT.mono {H H':HL} {t:Addr} (h:AlT ad H t) (hs:∀ q,q∈H->q∈H'):AlT ad H' t:=by
 rcases h with ⟨d,m,f⟩ | ⟨d,e,b,m,m',r⟩
 ·exact .inl ⟨d,hs _ m,f⟩
 ·exact .inr ⟨d,e,b,hs _ m,hs _ m',r⟩
theorem alignmentT_ok (kf:KF D ad) {k:Nat} (hr:Rm (k+1) A) {a:Addr} {Q:V->HL->Prop} (h:AlT ad H a) (hq:∀ n:Int,n=1\/n=4->Q (.int n) H):CL D A (.ref ad.alignment) [.ref a] H Q:=by
 rcases h with ⟨d,m,f⟩ | ⟨d,e,b,m,m',f,hb,f'⟩
 ·exact alignment_ok kf hr m f hq
 ·exact alignmentA_ok kf hr m m' f hb f' hq
theorem align_ok (kf:KF D ad) {k:Nat} (hr:Rm (k+2) A) {a:Addr} {n:Int} {Q:V->HL->Prop} (h:AlT ad H a) (hq:∀ m:Int,n<=m->m<=n+3->Q (.int m) H):CL D A (.ref ad.align) [.int n,.ref a] H Q:=by
 refine CL.fnK (k:=k+1) (ps:=["offset","t"]) (os:=["step"]) kf.align hr (fun doc pm cdv ct an ws h=>?_) rfl (by rfl) (by decide) (by rfl) fun fm env A' hns hsc hr'=>?_
 ·revert ws h; refine bl2 ?_; intros; rfl
 ·
  have n0:=lN hsc hns "offset" 0
  have n1:=lN hsc hns "t" 1
  have n2:=lN hsc hns "step" 2
  have kp_alignment:=KpA.of kf.alignment.keep
  have g_alignment:=gN hsc "alignment" kf.n_alignment
  refine XS.cons (EX.assignN n2 (EV.call (EV.glbN g_alignment (EL.cons (EV.locN n1 rfl (EL.nil (kpAnd kp_alignment.at ?_)))))))
  refine alignmentT_ok kf hr' h fun s hs=>?_
  refine XS.cons (EX.ret (EV.bin (EV.bin (EV.bin (EV.bin (EV.locN n0 rfl (EV.locN n2 rfl ?_)))))))
  refine ⟨_,.add,?_⟩
  refine EV.int ?_
  refine ⟨_,.sub,?_⟩
  refine EV.locN n2 rfl ?_
  rcases hs with rfl | rfl
  ·refine ⟨_,.fdiv (by decide) rfl,?_⟩
   refine EV.locN n2 rfl ?_
   refine ⟨_,.mul (IntMulOk.of_right (by decide)),?_⟩
   exact hq _ (by simp <;> omega) (by simp <;> simp +arith)
  ·refine ⟨_,.fdiv (by decide) rfl,?_⟩
   refine EV.locN n2 rfl ?_
   refine ⟨_,.mul (IntMulOk.of_right (by decide)),?_⟩
   have:=Int.fdiv_eq_ediv_of_nonneg (n+4 - 1) (b:=4) (by decide)
   refine hq _ ?_ ?_ <;> rw [this] <;> lia
end
end Mine
end
section
namespace Mine
structure Fd where
 o:Addr
 nm:Str
 t:Addr
 size:Int
noncomputable def obEnt (ad:Ads) (f:Fd) (off:Int):Addr×AObj:=(f.o,.inst ad.cObj (obAt f.nm "field" (.ref f.t) off))
inductive Plc:Int->List Fd->List Int->Int->Prop where
 | nil {s:Int}:Plc s [] [] s
 | cons {s off e:Int} {f:Fd} {fs:List Fd} {offs:List Int}:s<=off->off<=s+3->Plc (off+f.size) fs offs e->Plc s (f::fs) (off::offs) e
theorem Plc.snoc {s e off:Int} {fs:List Fd} {offs:List Int} {f:Fd} (h:Plc s fs offs e) (h1:e<=off) (h2:off<=e+3):Plc s (fs++[f]) (offs++[off]) (off+f.size):=by
 induction h with
 | nil=>exact .cons h1 h2 .nil
 | cons a b _ ih=>exact .cons a b (ih h1 h2)
theorem Plc.length {s e:Int} {fs:List Fd} {offs:List Int} (h:Plc s fs offs e):offs.length=fs.length:=by
 induction h with
 | nil=>rfl
 | cons _ _ _ ih=>simp [ih]
section
variable {D:Wd} {ad:Ads} {A:Around} {H R:HL}
noncomputable def pfN (ad:Ads) (q:Addr×AObj) (fs:List Fd) (R:HL) (i:Nat) (offs:List Int):HL:=q::(List.zipWith (obEnt ad) (fs.take i) offs++((fs.drop i).map (obEnt ad · 0)++R))
theorem pfN_open {q:Addr×AObj} {fs:List Fd} {i:Nat} {offs:List Int} {f:Fd} (h:fs[i]?=some f) :
  (pfN ad q fs R i offs).Perm (obEnt ad f 0::q::(List.zipWith (obEnt ad) (fs.take i) offs++((fs.drop (i+1)).map (obEnt ad · 0)++R))):=by
 have hd:fs.drop i=f::fs.drop (i+1):=by
  obtain ⟨h1,h2⟩:=List.getElem?_eq_some_iff.mp h
  rw [<- h2]; exact List.drop_eq_getElem_cons h1
 unfold pfN
 rw [hd,List.map_cons,List.cons_append]
 exact (List.Perm.cons _ List.perm_middle).trans (.swap _ _ _)
theorem pfN_close {q:Addr×AObj} {fs:List Fd} {i:Nat} {offs:List Int} {f:Fd} {off:Int} (h:fs[i]?=some f) (hl:offs.length=(fs.take i).length) :
  (obEnt ad f off::q::(List.zipWith (obEnt ad) (fs.take i) offs++((fs.drop (i+1)).map (obEnt ad · 0)++R))).Perm (pfN ad q fs R (i+1) (offs++[off])):=by
 have ht:fs.take (i+1)=fs.take i++[f]:=by rw [List.take_add_one,h]; rfl
 unfold pfN
 rw [ht,List.zipWith_append hl.symm]
 refine (List.Perm.swap _ _ _).trans (.cons _ ?_)
 rw [List.append_assoc]
 exact List.perm_middle.symm
theorem place_fields_ok (kf:KF D ad) {k:Nat} (hr:Rm (k+4) A) {ra:Addr} {rd:TyD} {fs:List Fd} {s0 lv:Int} {Q:V->HL->Prop}
  (hfl:(rd.fields,.list (fs.map fun f=>.ref f.o))∈R) (hty:∀ f∈fs,AlT ad R f.t/\∃ d:TyD,(f.t,.inst ad.cType d.at)∈R/\d.size=f.size)
  (hb:(rd.base=.none/\s0=0/\lv=0)\/∃ b bd,rd.base=.ref b/\(b,.inst ad.cType (TyD.at bd))∈R/\s0=bd.size/\lv=bd.level+1)
  (hq:∀ offs e H',Plc s0 fs offs e->H'.Perm ((ra,.inst ad.cType { rd with level:=lv,size:=if (e+3).fdiv 4 * 4 > 4 then (e+3).fdiv 4 * 4 else 4 }.at)::(List.zipWith (obEnt ad) fs offs++R))->Q .none H') :
  CL D A (.ref ad.place_fields) [.ref ra] ((ra,.inst ad.cType rd.at)::(fs.map (obEnt ad · 0)++R)) Q:=by
 refine CL.fnK (k:=k+3) (ps:=["record"]) (os:=["offset","field"]) kf.place_fields hr (fun doc pm cdv ct an ws h=>?_) rfl (by rfl) (by decide) (by rfl) fun fm env A' hns hsc hr'=>?_
 ·revert ws h; refine bl1 ?_; intros; rfl
 ·
  have n0:=lN hsc hns "record" 0
  have n1:=lN hsc hns "offset" 1
  have n2:=lN hsc hns "field" 2
  have kp_align:=KpA.of kf.align.keep
  have g_align:=gN hsc "align" kf.n_align
  have kp_whole_words:=KpA.of kf.whole_words.keep
  have g_whole_words:=gN hsc "whole_words" kf.n_whole_words
  have g_max:=gB hsc "max" kf.n_max boot_max
  have sub:∀ {q:Addr×AObj},q∈R->q∈fs.map (obEnt ad · 0)++R:=fun h=>List.mem_append_right _ h
  refine XS.cons (EX.assignN n1 (EV.int (XS.cons (EX.setAttr (EV.int (EV.locN n0 rfl ?_))))))
  refine SA.ty_level kf .head ?_
  refine XS.cons ?_
  refine (EX.mono (Q:=fun fl H' vs'=>fl=.next/\H'=(ra,.inst ad.cType { rd with level:=lv }.at)::(fs.map (obEnt ad · 0)++R)/\vs'=[some (.ref ra),some (.int s0),none]) (EX.ifs ?_) ?_)
  ·refine EB.cmp (EV.attr (EV.loc n0.l n0.i rfl (GA.ty kf (.head _) (hv:=?_) (hq:=EV.cnone ?_))))
   ·rcases hb with ⟨h,_⟩ | ⟨b,bd,h,_⟩ <;> rw [h] <;> rfl
   rcases hb with ⟨h,h1,h2⟩ | ⟨b,bd,h,hm,h1,h2⟩
   ·rw [h]
    refine CP.of .notN ⟨_,.bool _,fun h=>Bool.noConfusion h,fun _=>XS.nil ⟨rfl,?_,?_⟩⟩
    ·rw [h2]
    ·rw [h1]; rfl
   ·rw [h]
    refine CP.of .notRN ⟨_,.bool _,fun _=>?_,fun h=>Bool.noConfusion h⟩
    have hm':=sub hm
    refine XS.cons (EX.assign n1.l n1.i (EV.attr (EV.attr (EV.loc n0.l n0.i rfl (GA.ty kf (.head _) (hv:=by first | rfl | (rw [h]; rfl)) (hq:=?_))))))
    try rw [h]
    refine GA.ty kf (.tail _ hm') (hq:=XS.cons (EX.setAttr (EV.bin (EV.attr (EV.attr (EV.locN n0 rfl (GA.ty kf m_0 (hq:=GA.ty kf (.tail _ hm') (hq:=EV.int ?_)))))))))
    refine ⟨_,.add,?_⟩
    refine EV.locN n0 rfl ?_
    refine SA.ty_level kf .head ?_
    refine XS.nil ?_
    exact ⟨rfl,by rw [h2],by rw [h1]; rfl⟩
  ·rintro fl H' vs' ⟨rfl,rfl,rfl⟩
   refine XS.cons (EX.forL hr'.handled (EV.attr (EV.loc n0.l n0.i rfl (GA.ty kf (.head _) (hq:=⟨rd.fields,fs.map fun f=>.ref f.o,rfl,
    fun i H vs=>∃ offs cur x,Plc s0 (fs.take i) offs cur/\H.Perm (pfN ad (ra,.inst ad.cType { rd with level:=lv }.at) fs R i offs)/\vs=[some (.ref ra),some (.int cur),x],?_,?_,?_,?_⟩)))))
   ·exact ⟨[],s0,none,.nil,by simp [pfN],rfl⟩
   ·rintro i H vs ⟨offs,cur,x,_,p,_⟩
    exact p.mem_iff.mpr (by simp [pfN,hfl])
   ·rintro it i x H₃ vs₃ N hN hx ⟨offs,cur,y,hp,p,rfl⟩
    rw [List.getElem?_map,Option.map_eq_some_iff] at hx
    obtain ⟨f,hf,rfl⟩:=hx
    obtain ⟨hal,d,md,hd⟩:=hty f (List.mem_of_getElem? hf)
    have hmem:∀ {q:Addr×AObj} {u v:Addr×AObj},q∈R->q∈u::v::(ra,.inst ad.cType (TyD.at { rd with level:=lv }))::(List.zipWith (obEnt ad) (fs.take i) offs++((fs.drop (i+1)).map (obEnt ad · 0)++R)):=fun h=>t_3 (List.mem_append_right _ (List.mem_append_right _ h))
    refine AS.loc n2.l n2.i (XS.perm (.cons _ (p.trans (pfN_open hf))) ?_)
    have md':=fun u v=>hmem (u:=u) (v:=v) md
    refine XS.cons (EX.assign n1.l n1.i (EV.call ?_))
    refine EV.glbN g_align (EL.cons (EV.locN n1 rfl (EL.cons (EV.attr (EV.locN n2 rfl (GA.ob kf m_1 (hq:=EL.nil (kpAnd kp_align.at ?_))))))))
    refine align_ok kf (k:=k+1) hr' (hal.mono fun q hq=>hmem hq) fun off h1 h2=>?_
    refine XS.cons (EX.setAttr (EV.locN n1 rfl (EV.locN n2 rfl ?_)))
    refine SA.ob_offset kf (.tail .head) ?_
    refine XS.cons (EX.augN n1 rfl (EV.attr (EV.attr (EV.locN n2 rfl (GA.ob kf m_0 (hq:=?_))))))
    refine GA.ty kf (hmem md) (hq:=?_)
    rw [hd]
    refine IP.add ?_
    refine XS.nil ?_
    refine hN ⟨_,.at1,offs++[off],off+f.size,some (.ref f.o),?_,pfN_close hf hp.length,rfl⟩
    rw [List.take_add_one,hf]
    exact hp.snoc h1 h2
   ·rintro H₃ vs₃ ⟨offs,cur,x,hp,p,rfl⟩
    have hlen:(fs.map fun f=>V.ref f.o).length=fs.length:=by simp
    rw [hlen,List.take_length] at hp
    rw [hlen] at p
    refine XS.nil (XS.cons (EX.setAttr (EV.call (EV.glbN g_max (EL.cons (EV.int (EL.cons (EV.call (EV.glbN g_whole_words (EL.cons (EV.locN n1 rfl (EL.nil (kpAnd kp_whole_words.at ?_)))))))))))))
    refine whole_words_ok kf (k:=k+2) hr' ?_
    refine EL.nil (kpAnd .blt ?_)
    refine CL.max2 hr'.handled ?_
    refine EV.perm p ?_
    refine EV.locN n0 rfl ?_
    refine SA.ty_size kf .head ?_
    refine XS.nil ?_
    refine hq offs cur _ hp ?_
    simp [pfN]
end
end Mine
end
section
namespace Mine
theorem mulOk {a b:Int} (h:b.natAbs < 2 ^ 64):IntMulOk a b:=.of_right (intBits_le_iff.mpr h)
noncomputable def arrPs (n:Nat) (sz:Int) (ps:List Int):List Int:=(List.range n).flatMap fun (i:Nat)=>ps.map fun p=>(i:Int) * sz+p
theorem arrPs_succ (n:Nat) (sz:Int) (ps:List Int):arrPs (n+1) sz ps=arrPs n sz ps++ps.map fun p=>(n:Int) * sz+p:=by
 unfold arrPs; rw [List.range_succ,List.flatMap_append]; simp
theorem arrPs_length (n:Nat) (sz:Int) (ps:List Int):(arrPs n sz ps).length=n * ps.length:=by
 induction n with
 | zero=>simp [arrPs]
 | succ n ih=>rw [arrPs_succ,List.length_append,ih,List.length_map,Nat.add_one_mul]
theorem arrPs_nil (n:Nat) (sz:Int):arrPs n sz []=[]:=by simp [arrPs]
section
variable {D:Wd} {ad:Ads} {A:Around} {H R:HL}
noncomputable def PO (D:Wd) (ad:Ads) (W:HL) (k:Nat) (a:Addr) (ps:List Int):Prop:=
 ∀ (A:Around) (H:HL) (Q:V->HL->Prop),Rm k A->(∀ q∈W,q∈H)->(∀ l,Q (.ref l) ((l,.list (ps.map .int))::H))->CL D A (.ref ad.pointer_offsets) [.ref a] H Q
theorem PO.mono {W W':HL} {k k':Nat} {a:Addr} {ps:List Int} (h:PO D ad W k a ps) (hk:k<=k') (hs:∀ q∈W,q∈W'):PO D ad W' k' a ps:=fun A H Q r m q=>h A H Q (r.le hk) (fun x hx=>m x (hs x hx)) q
theorem po_plain (kf:KF D ad) {W:HL} {a:Addr} {d:TyD} (m:(a,.inst ad.cType d.at)∈W) (h1:d.form≠"pointer") (h2:d.form≠"array") (h3:d.form≠"record"):PO D ad W 1 a []:=fun A H Q hr hW hq=>by
 refine CL.fnK (k:=0) (ps:=["t"]) (os:=["inner","found","place","offset"]) kf.pointer_offsets hr (fun doc pm cdv ct an ws h=>?_) rfl (by rfl) (by decide) (by rfl) fun fm env A' hns hsc hr'=>?_
 ·revert ws h; refine bl1 ?_; intros; rfl
 ·
  have n0:=lN hsc hns "t" 0
  have n1:=lN hsc hns "inner" 1
  have n2:=lN hsc hns "found" 2
  have n3:=lN hsc hns "place" 3
  have n4:=lN hsc hns "offset" 4
  have kp_pointer_offsets:=KpA.of kf.pointer_offsets.keep
  have g_pointer_offsets:=gN hsc "pointer_offsets" kf.n_pointer_offsets
  have g_range:=gB hsc "range" kf.n_range boot_range
  have g_max:=gB hsc "max" kf.n_max boot_max
  have g_len:=gB hsc "len" kf.n_len boot_len
  have kp_record_pointers:=KpA.of kf.record_pointers.keep
  have g_record_pointers:=gN hsc "record_pointers" kf.n_record_pointers
  have m':=hW _ m
  refine XS.cons (EX.ifs (EB.cmp (EV.attr (EV.locN n0 rfl (GA.ty kf m' (hq:=EV.str (CP.of .eqS ⟨_,.bool _,?_⟩)))))))
  refine ⟨fun h=>absurd (by simpa using h) h1,fun _=>?_⟩
  refine XS.nil (XS.cons (EX.ifs (EB.cmp (EV.attr (EV.locN n0 rfl (GA.ty kf m' (hq:=EV.str (CP.of .eqS ⟨_,.bool _,?_⟩))))))))
  refine ⟨fun h=>absurd (by simpa using h) h2,fun _=>?_⟩
  refine XS.nil (XS.cons (EX.ifs (EB.cmp (EV.attr (EV.locN n0 rfl (GA.ty kf m' (hq:=EV.str (CP.of .eqS ⟨_,.bool _,?_⟩))))))))
  refine ⟨fun h=>absurd (by simpa using h) h3,fun _=>?_⟩
  refine XS.nil (XS.cons (EX.ret (EV.list (EL.nil (leAnd rfl ?_)))))
  intro l
  exact hq l
theorem po_ptr (kf:KF D ad) {W:HL} {a:Addr} {d:TyD} (m:(a,.inst ad.cType d.at)∈W) (h1:d.form="pointer"):PO D ad W 1 a [0]:=fun A H Q hr hW hq=>by
 refine CL.fnK (k:=0) (ps:=["t"]) (os:=["inner","found","place","offset"]) kf.pointer_offsets hr (fun doc pm cdv ct an ws h=>?_) rfl (by rfl) (by decide) (by rfl) fun fm env A' hns hsc hr'=>?_
 ·revert ws h; refine bl1 ?_; intros; rfl
 ·
  have n0:=lN hsc hns "t" 0
  have n1:=lN hsc hns "inner" 1
  have n2:=lN hsc hns "found" 2
  have n3:=lN hsc hns "place" 3
  have n4:=lN hsc hns "offset" 4
  have kp_pointer_offsets:=KpA.of kf.pointer_offsets.keep
  have g_pointer_offsets:=gN hsc "pointer_offsets" kf.n_pointer_offsets
  have g_range:=gB hsc "range" kf.n_range boot_range
  have g_max:=gB hsc "max" kf.n_max boot_max
  have g_len:=gB hsc "len" kf.n_len boot_len
  have kp_record_pointers:=KpA.of kf.record_pointers.keep
  have g_record_pointers:=gN hsc "record_pointers" kf.n_record_pointers
  have m':=hW _ m
  refine XS.cons (EX.ifs (EB.cmp (EV.attr (EV.locN n0 rfl (GA.ty kf m' (hq:=EV.str (CP.of .eqS ⟨_,.bool _,?_⟩)))))))
  refine ⟨fun _=>?_,fun h=>absurd h (by rw [h1]; decide)⟩
  refine XS.cons (EX.ret (EV.list (EL.cons (EV.int (EL.nil (leAnd rfl ?_))))))
  intro l
  exact hq l
theorem po_arr (kf:KF D ad) {W:HL} {k:Nat} {a b:Addr} {d e:TyD} {n:Nat} {ps:List Int} (m:(a,.inst ad.cType d.at)∈W) (mb:(b,.inst ad.cType e.at)∈W) (h1:d.form="array") (hb:d.base=.ref b) (hn:d.length=n) (hn3:n<=3)
  (hpo:PO D ad W k b ps) (hs:e.size.natAbs < 2 ^ 64) (hz:ps.length<=2 ^ 20):PO D ad W (k+1) a (arrPs n e.size ps):=fun A H Q hr hW hq=>by
 refine CL.fnK (k:=k) (ps:=["t"]) (os:=["inner","found","place","offset"]) kf.pointer_offsets hr (fun doc pm cdv ct an ws h=>?_) rfl (by rfl) (by decide) (by rfl) fun fm env A' hns hsc hr'=>?_
 ·revert ws h; refine bl1 ?_; intros; rfl
 ·
  have n0:=lN hsc hns "t" 0
  have n1:=lN hsc hns "inner" 1
  have n2:=lN hsc hns "found" 2
  have n3:=lN hsc hns "place" 3
  have n4:=lN hsc hns "offset" 4
  have kp_pointer_offsets:=KpA.of kf.pointer_offsets.keep
  have g_pointer_offsets:=gN hsc "pointer_offsets" kf.n_pointer_offsets
  have g_range:=gB hsc "range" kf.n_range boot_range
  have g_max:=gB hsc "max" kf.n_max boot_max
  have g_len:=gB hsc "len" kf.n_len boot_len
  have kp_record_pointers:=KpA.of kf.record_pointers.keep
  have g_record_pointers:=gN hsc "record_pointers" kf.n_record_pointers
  have m':=hW _ m
  have mb':=hW _ mb
  refine XS.cons (EX.ifs (EB.cmp (EV.attr (EV.locN n0 rfl (GA.ty kf m' (hq:=EV.str (CP.of .eqS ⟨_,.bool _,?_⟩)))))))
  refine ⟨fun h=>absurd h (by rw [h1]; decide),fun _=>?_⟩
  refine XS.nil (XS.cons (EX.ifs (EB.cmp (EV.attr (EV.locN n0 rfl (GA.ty kf m' (hq:=EV.str (CP.of .eqS ⟨_,.bool _,?_⟩))))))))
  refine ⟨fun _=>?_,fun h=>absurd h (by rw [h1]; decide)⟩
  refine XS.cons (EX.assignN n1 (EV.call (EV.glbN g_pointer_offsets (EL.cons (EV.attr (EV.locN n0 rfl ?_))))))
  refine GA.ty kf m' (hv:=by rw [hb]; rfl) (hq:=?_)
  rw [hb]
  refine EL.nil (kpAnd kp_pointer_offsets.at ?_)
  refine hpo A' H _ hr' hW fun li=>?_
  refine XS.cons (EX.assignN n2 (EV.list (EL.nil (leAnd rfl ?_))))
  intro lf
  refine XS.cons ?_
  refine EX.forR hr'.handled ?_
  refine EV.call (EV.glbN g_range (EL.cons (EV.call (EV.glbN g_max (EL.cons (EV.attr (EV.locN n0 rfl (GA.ty kf (t_2 m') (hq:=EL.cons (EV.int (EL.nil (kpAnd .blt ?_))))))))))))
  refine CL.max2 hr'.handled ?_
  have emax:(if (0:Int) > d.length then 0 else d.length)=n:=by rw [hn]; split <;> lia
  rw [emax]
  refine EL.nil (kpAnd .typ ?_)
  refine CL.range1 fun r=>?_
  refine ⟨r,n,_,rfl,.head,Int.natCast_nonneg n,by lia,fun i H' vs'=>H'=(lf,.list ((arrPs i e.size ps).map .int))::(li,.list (ps.map .int))::H/\∃ x y,vs'=[some (.ref a),some (.ref li),some (.ref lf),x,y],⟨rfl,none,none,rfl⟩,?_,?_⟩
  ·rintro it i H₃ vs₃ N hN hi ⟨rfl,x,y,rfl⟩
   refine AS.loc n3.l n3.i ?_
   refine XS.cons (EX.ifs (EB.cmp (EV.call (EV.glbN g_len (EL.cons (EV.locN n1 rfl (EL.nil (kpAnd .blt ?_))))))))
   refine CL.len m_2 (by rw [List.length_map]; exact Nat.le_trans hz (by decide)) ?_
   refine EV.int (CP.of .eq ⟨_,.bool _,?_⟩)
   refine ⟨fun h=>?_,fun h=>?_⟩
   ·have hps:ps=[]:=by simpa using h
    subst hps
    refine XS.cons (EX.brk (hN ?_))
    refine XS.forget .head (XS.forget .at1 ?_)
    refine XS.cons (EX.ret (EV.locN n2 rfl ?_))
    rw [arrPs_nil]
    have:=hq lf
    rw [arrPs_nil] at this
    exact this
   ·refine XS.nil (XS.cons ?_)
    refine EX.perm (.swap _ _ _) (EX.forL hr'.handled ?_)
    refine EV.locN n1 rfl ?_
    refine ⟨li,ps.map .int,rfl,fun j H'' vs''=>H''=(lf,.list ((arrPs i e.size ps++(ps.take j).map fun p=>(i:Int) * e.size+p).map .int))::(it,.io (.riter (i+1) (n - (i+1)) 1))::(li,.list (ps.map .int))::H/\∃ y,vs''=[some (.ref a),some (.ref li),some (.ref lf),some (.int i),y],?_,?_,?_,?_⟩
    ·refine ⟨?_,y,rfl⟩
     simp
    ·rintro j H' vs' ⟨rfl,_⟩
     exact m_2
    ·rintro it2 j x H₃ vs₃ N hN hx ⟨rfl,y,rfl⟩
     rw [List.getElem?_map,Option.map_eq_some_iff] at hx
     obtain ⟨p,hp,rfl⟩:=hx
     refine AS.loc n4.l n4.i ?_
     refine XS.cons (EX.expr (EV.meth (EV.locN n2 rfl (GM.listN m_1 (EL.cons (EV.bin (EV.bin (EV.locN n3 rfl (EV.attr (EV.attr (EV.locN n0 rfl ?_)))))))))))
     refine GA.ty kf (t_4 m') (hv:=by rw [hb]; rfl) (hq:=?_)
     rw [hb]
     refine GA.ty kf (t_4 mb') (hq:=?_)
     refine ⟨_,.mul (mulOk hs),?_⟩
     refine EV.locN n4 rfl ?_
     refine ⟨_,.add,?_⟩
     refine EL.nil (kpAnd .blt ?_)
     refine CL.append .at1 ?_ ?_
     ·have h0:=arrPs_length i e.size ps
      have h00:i * ps.length<=3 * ps.length:=Nat.mul_le_mul_right _ (by exact lin (Nat.add_le_add (nLt (a:=i) (b:=n) hi) hn3) (by simp +arith))
      have h2:(ps.take j).length<=ps.length:=by rw [List.length_take]; exact (Nat.min_le_right (j) (ps.length))
      have h3:(2:Nat) ^ 20=1048576:=by decide
      have h4:sizeLine=16777216:=by decide
      simp only [List.length_map,List.length_append,h0]
      lia
     refine ⟨trivial,?_⟩
     refine XS.nil ?_
     refine hN ⟨_,.at1,?_,_,rfl⟩
     rw [List.take_add_one,hp]
     simp
    ·rintro H₃ vs₃ ⟨rfl,y,rfl⟩
     refine XS.nil (XS.nil ?_)
     refine hN ⟨_,.at1,?_,_,_,rfl⟩
     rw [arrPs_succ]
     simp
  ·rintro H₃ vs₃ ⟨rfl,x,y,rfl⟩
   refine XS.nil (XS.forget .at1 ?_)
   refine XS.cons (EX.ret (EV.locN n2 rfl ?_))
   exact hq lf
end
end Mine
end
section
end
section
namespace Mine
section
variable {D:Wd} {ad:Ads} {A:Around} {H R:HL}
theorem distinct_ok (kf:KF D ad) {k:Nat} (hr:Rm (k+1) A) {a:Addr} {is:List Int} {Q:V->HL->Prop} (m:(a,.list (is.map .int))∈H) (ha:is.Pairwise (· < ·)) (hz:is.length<=2 ^ 22) (hq:∀ l,Q (.ref l) ((l,.list (is.map .int))::H)) :
  CL D A (.ref ad.distinct) [.ref a] H Q:=by
 refine CL.fnK (k:=k) (ps:=["row"]) (os:=["found","one"]) kf.distinct hr (fun doc pm cdv ct an ws h=>?_) rfl (by rfl) (by decide) (by rfl) fun fm env A' hns hsc hr'=>?_
 ·revert ws h; refine bl1 ?_; intros; rfl
 ·
  have n0:=lN hsc hns "row" 0
  have n1:=lN hsc hns "found" 1
  have n2:=lN hsc hns "one" 2
  have g_len:=gB hsc "len" kf.n_len boot_len
  refine XS.cons (EX.assignN n1 (EV.list (EL.nil (leAnd rfl ?_))))
  intro l
  refine XS.cons ?_
  refine EX.forL hr'.handled ?_
  refine EV.locN n0 rfl ?_
  refine ⟨a,is.map .int,rfl,fun i H' vs'=>H'=(l,.list ((is.take i).map .int))::H/\∃ x,vs'=[some (.ref a),some (.ref l),x],⟨rfl,none,rfl⟩,?_,?_,?_⟩
  ·rintro i H' vs' ⟨rfl,_⟩
   exact .tail _ m
  ·rintro it i x H₃ vs₃ N hN hx ⟨rfl,y,rfl⟩
   rw [List.getElem?_map,Option.map_eq_some_iff] at hx
   obtain ⟨p,hp,rfl⟩:=hx
   refine AS.locN n2 ?_
   refine XS.cons (EX.ifs ?_)
   refine EB.or ?_
   refine EB.cmp (EV.call (EV.glbN g_len (EL.cons (EV.locN n1 rfl (EL.nil (kpAnd .blt ?_))))))
   refine CL.len m_1 ?_ ?_
   ·simp only [List.length_map,List.length_take]
    have h4:sizeLine=16777216:=by decide
    exact lin (Nat.add_le_add (Nat.min_le_right (i) (is.length)) (Nat.add_le_add hz (Nat.le_of_eq h4.symm))) (by simp +arith)
   refine EV.int (CP.of .eq ⟨_,.bool _,?_⟩)
   cases i with
   | zero=>
    refine ⟨fun h=>absurd h (by simp),fun _=>⟨fun _=>?_,fun h=>absurd h (by decide)⟩⟩
    refine XS.cons (EX.expr (EV.meth (EV.locN n1 rfl (GM.listN m_1 (EL.cons (EV.locN n2 rfl (EL.nil (kpAnd .blt ?_))))))))
    refine CL.append .at1 (by simp) ?_
    refine ⟨trivial,?_⟩
    refine XS.nil (XS.nil ?_)
    refine hN ⟨_,.at1,?_,_,rfl⟩
    rw [List.take_add_one,hp]
    rfl
   | succ i=>
    have hlt:i+1 < is.length:=(List.getElem?_eq_some_iff.mp hp).1
    have hq':is[i]?=some is[i]:=List.getElem?_eq_getElem (by omega)
    have hne:is[i]≠p:=by
     have:=List.pairwise_iff_getElem.mp ha i (i+1) (by omega) hlt (by simp +arith)
     rw [(List.getElem?_eq_some_iff.mp hp).2] at this
     exact Int.ne_of_lt (linZL this (by simp +arith))
    have ht:(is.take (i+1)).map V.int=(is.take i).map V.int++[.int is[i]]:=by rw [List.take_add_one,hq',List.map_append]; rfl
    refine ⟨fun _=>?_,fun h=>absurd h (by rw [ht,List.length_append]; simp; lia)⟩
    rw [ht]
    refine EB.or ?_
    refine EB.cmp (EV.sub (EV.locN n1 rfl (EV.neg (EV.int ?_))))
    refine ⟨_,rfl,?_⟩
    refine GI.last m_1 ?_ ?_
    ·simp only [List.length_map,List.length_take]; exact linL (Nat.add_le_add (Nat.min_le_right (i) (is.length)) hz) (by simp +arith)
    refine EV.locN n2 rfl (CP.of .ne ⟨_,.bool _,?_⟩)
    refine ⟨fun h=>absurd h (by simpa using hne),fun _=>⟨fun _=>?_,fun h=>absurd h (by decide)⟩⟩
    refine XS.cons (EX.expr (EV.meth (EV.locN n1 rfl (GM.listN m_1 (EL.cons (EV.locN n2 rfl (EL.nil (kpAnd .blt ?_))))))))
    refine CL.append .at1 ?_ ?_
    ·rw [<- ht]
     simp only [List.length_map,List.length_take]
     have h4:sizeLine=16777216:=by decide
     exact lin (Nat.add_le_add (Nat.min_le_right (i+1) (is.length)) (Nat.add_le_add hz (Nat.le_of_eq h4.symm))) (by simp +arith)
    refine ⟨trivial,?_⟩
    refine XS.nil (XS.nil ?_)
    refine hN ⟨_,.at1,?_,_,rfl⟩
    rw [List.take_add_one (i:=i+1),hp,List.map_append,ht]
    rfl
  ·rintro H₃ vs₃ ⟨rfl,x,rfl⟩
   refine XS.nil (XS.cons (EX.ret (EV.locN n1 rfl ?_)))
   have:=hq l
   simpa using this
end
end Mine
end
section
namespace Mine
structure Fo where
 o:Addr
 nm:Str
 k:Str
 t:Addr
 off:Int
 ps:List Int
noncomputable def Fo.sh (f:Fo):List Int:=f.ps.map fun p=>f.off+p
noncomputable def Fo.ent (ad:Ads) (f:Fo):Addr×AObj:=(f.o,.inst ad.cObj (obAt f.nm f.k (.ref f.t) f.off))
inductive Ch (D:Wd) (ad:Ads) (W:HL) (k:Nat):V->List (List Int)->Prop where
 | nil:Ch D ad W k .none []
 | cons {a:Addr} {d:TyD} {fos:List Fo} {hs:List Int} {rest:List (List Int)}:(a,.inst ad.cType d.at)∈W->(d.fields,.list (fos.map fun f=>.ref f.o))∈W->(∀ f∈fos,f.ent ad∈W/\PO D ad W k f.t f.ps)->
   (d.hidden,.list (hs.map .int))∈W->Ch D ad W k d.base rest->Ch D ad W k (.ref a) ((fos.flatMap Fo.sh++hs)::rest)
theorem Ch.mono {D:Wd} {ad:Ads} {W W':HL} {k k':Nat} {v:V} {segs:List (List Int)} (h:Ch D ad W k v segs) (hk:k<=k') (hs:∀ q∈W,q∈W'):Ch D ad W' k' v segs:=by
 induction h with
 | nil=>exact .nil
 | cons m1 m2 m3 m4 _ ih=>exact .cons (hs _ m1) (hs _ m2) (fun f hf=>⟨hs _ (m3 f hf).1,(m3 f hf).2.mono hk hs⟩) (hs _ m4) ih
theorem Ch.hand {D:Wd} {ad:Ads} {W:HL} {k:Nat} {v:V} {segs:List (List Int)} (h:Ch D ad W k v segs):handV v=true:=by cases h <;> rfl
theorem sorted_eq {js ps:List Int} (p:js.Perm ps) (h1:js.Pairwise (·<=·)) (h2:ps.Pairwise (· < ·)):js=ps:=
 List.Perm.eq_of_pairwise (le:=(·<=·)) (fun a b _ _ h h'=>by exact linZE h (by simp +arith) h' (by simp +arith)) h1 (h2.imp fun h=>by exact linZ h (by simp +arith)) p
section
variable {D:Wd} {ad:Ads} {A:Around} {H R:HL}
theorem record_pointers_ok (kf:KF D ad) {W:HL} {k:Nat} (hr:Rm (k+2) A) {v:V} {segs:List (List Int)} {ps:List Int} {Q:V->HL->Prop} (hc:Ch D ad W (k+1) v segs) (hW:∀ q∈W,q∈H)
  (hp:segs.flatten.Perm ps) (ha:ps.Pairwise (· < ·)) (hz:ps.length<=2 ^ 20) (hq:∀ l,Q (.ref l) ((l,.list (ps.map .int))::H)):CL D A (.ref ad.record_pointers) [v] H Q:=by
 refine CL.drop (CL.fnK (k:=k+1) (ps:=["t"]) (os:=["found","field","offset"]) kf.record_pointers hr (fun doc pm cdv ct an ws h=>?_) rfl (by rfl) (by decide) (by rfl) fun fm env A' hns hsc hr'=>?_)
 ·revert ws h; refine bl1 ?_; intros; rfl
 ·
  have n0:=lN hsc hns "t" 0
  have n1:=lN hsc hns "found" 1
  have n2:=lN hsc hns "field" 2
  have n3:=lN hsc hns "offset" 3
  have kp_pointer_offsets:=KpA.of kf.pointer_offsets.keep
  have g_pointer_offsets:=gN hsc "pointer_offsets" kf.n_pointer_offsets
  have kp_distinct:=KpA.of kf.distinct.keep
  have g_distinct:=gN hsc "distinct" kf.n_distinct
  have g_sorted:=gB hsc "sorted" kf.n_sorted boot_sorted
  refine XS.cons (EX.assignN n1 (EV.list (EL.nil (leAnd rfl ?_))))
  intro lf
  refine XS.cons ?_
  have hlen:segs.flatten.length=ps.length:=hp.length_eq
  refine EX.while_ (fun n H₁ vs₁=>∃ (done:List Int) (left:List (List Int)) (tv:V) (x y:Option V),n=left.length/\done++left.flatten=segs.flatten/\Ch D ad W (k+1) tv left/\H₁=(lf,.list (done.map .int))::H/\vs₁=[some tv,some (.ref lf),x,y])
   ⟨_,[],segs,v,none,none,rfl,rfl,hc,rfl,rfl⟩ ?_
  rintro n H₁ vs₁ ⟨done,left,tv,x,y,rfl,hd,ht,rfl,rfl⟩
  refine EB.cmp ?_
  refine EV.locN n0 rfl (EV.cnone ?_)
  cases ht with
  | nil=>
   refine CP.of .notN ⟨_,.bool _,?_⟩
   refine ⟨fun h=>Bool.noConfusion h,fun _=>?_⟩
   refine XS.nil (XS.cons (EX.ret (EV.call (EV.glbN g_distinct (EL.cons (EV.call (EV.glbN g_sorted (EL.cons (EV.locN n1 rfl (EL.nil (kpAnd .blt ?_)))))))))))
   simp only [List.flatten_nil,List.append_nil] at hd
   subst hd
   refine CL.sortedI (.head _) (by lia) fun l js pj sj=>?_
   have ej:=sorted_eq (pj.trans hp) sj ha
   subst ej
   refine EL.nil (kpAnd kp_distinct.at ?_)
   refine distinct_ok kf hr' (.head _) ha (by exact lin hz (by simp +arith)) fun l2=>?_
   exact ⟨_,.cons .at1 (.cons .at1 (.refl _)),hq l2⟩
  | @cons a d fos hs rest m1 m2 m3 m4 hb=>
   have m1':=hW _ m1
   have m2':=hW _ m2
   have m4':=hW _ m4
   have hlen2:(done++(((fos.flatMap Fo.sh++hs)::rest).flatten)).length=ps.length:=by rw [hd]; exact hlen
   simp only [List.flatten_cons,List.length_append] at hlen2
   have h4:sizeLine=16777216:=by decide
   refine CP.of .notRN ⟨_,.bool _,?_⟩
   refine ⟨fun _=>?_,fun h=>Bool.noConfusion h⟩
   refine XS.cons ?_
   refine EX.forL hr'.handled ?_
   refine EV.attr (EV.locN n0 rfl (GA.ty kf (.tail _ m1') (hq:=?_)))
   refine ⟨d.fields,fos.map fun f=>.ref f.o,rfl,fun i H' vs'=>∃ x y,H'=(lf,.list ((done++(fos.take i).flatMap Fo.sh).map .int))::H/\vs'=[some (.ref a),some (.ref lf),x,y],⟨x,y,by simp,rfl⟩,?_,?_,?_⟩
   ·rintro i H' vs' ⟨_,_,rfl,_⟩
    exact .tail _ m2'
   ·rintro it i x H₃ vs₃ N hN hx ⟨x',y',rfl,rfl⟩
    rw [List.getElem?_map,Option.map_eq_some_iff] at hx
    obtain ⟨f,hf,rfl⟩:=hx
    have hfm:=List.mem_of_getElem? hf
    have mf:(f.o,.inst ad.cObj (obAt f.nm f.k (.ref f.t) f.off))∈H:=hW _ (m3 f hfm).1
    have htk:(fos.take (i+1)).flatMap Fo.sh=(fos.take i).flatMap Fo.sh++f.sh:=by rw [List.take_add_one,hf]; simp
    have hle:(fos.take i).flatMap Fo.sh++f.sh <+: fos.flatMap Fo.sh:=by
     rw [<- htk]
     exact ⟨(fos.drop (i+1)).flatMap Fo.sh,by rw [<- List.flatMap_append,List.take_append_drop]⟩
    have hle':=hle.length_le
    have hsh:f.sh.length=f.ps.length:=by simp [Fo.sh]
    simp only [List.length_append] at hle'
    refine AS.locN n2 ?_
    refine XS.cons ?_
    refine EX.forL hr'.handled ?_
    refine EV.call (EV.glbN g_pointer_offsets (EL.cons (EV.attr (EV.locN n2 rfl (GA.ob kf (t_2 mf) (hq:=EL.nil (kpAnd kp_pointer_offsets.at ?_)))))))
    refine (m3 f hfm).2 A' _ _ hr' (fun q hq=>t_2 (hW q hq)) fun lp=>?_
    refine ⟨lp,f.ps.map .int,rfl,fun j H' vs'=>∃ y,H'.Perm ((lf,.list ((done++(fos.take i).flatMap Fo.sh++(f.ps.take j).map fun p=>f.off+p).map .int))::(lp,.list (f.ps.map .int))::(it,.io (.liter d.fields (i+1)))::H)/\vs'=[some (.ref a),some (.ref lf),some (.ref f.o),y],?_,?_,?_,?_⟩
    ·exact ⟨y',by simpa using Ext.pc .at2 (.refl _),rfl⟩
    ·rintro j H' vs' ⟨_,p,_⟩
     exact p.mem_iff.mpr m_1
    ·rintro it2 j x H₃ vs₃ N hN hx ⟨y2,p,rfl⟩
     rw [List.getElem?_map,Option.map_eq_some_iff] at hx
     obtain ⟨q,hq',rfl⟩:=hx
     have hjl:j < f.ps.length:=(List.getElem?_eq_some_iff.mp hq').1
     refine AS.locN n3 (XS.perm (.cons _ p) ?_)
     have mf':=mf
     refine XS.cons (EX.expr (EV.meth (EV.locN n1 rfl (GM.listN m_1 (EL.cons (EV.bin (EV.attr (EV.locN n2 rfl ?_))))))))
     refine GA.ob kf (t_4 mf) (hq:=?_)
     refine EV.locN n3 rfl ?_
     refine ⟨_,.add,?_⟩
     refine EL.nil (kpAnd .blt ?_)
     refine CL.append .at1 ?_ ?_
     ·simp only [List.length_map,List.length_append,List.length_take]
      lia
     refine ⟨trivial,?_⟩
     refine XS.nil ?_
     refine hN ⟨_,.at1,_,?_,rfl⟩
     rw [List.take_add_one,hq']
     simp
    ·rintro H₃ vs₃ ⟨y2,p,rfl⟩
     refine XS.nil (XS.perm p (XS.forget .at1 (XS.nil (hN ⟨_,.at1,_,_,?_,rfl⟩))))
     rw [htk,<- List.append_assoc]
     simp [Fo.sh]
   ·rintro H₃ vs₃ ⟨x',y',rfl,rfl⟩
    simp only [List.length_map,List.take_length]
    refine XS.nil (XS.cons (EX.expr (EV.meth (EV.locN n1 rfl (GM.listN m_0 (EL.cons (EV.attr (EV.locN n0 rfl (GA.ty kf (.tail _ m1') (hq:=EL.nil (kpAnd .blt ?_)))))))))))
    refine CL.extend .head (.tail _ m4') ?_ ?_
    ·simp only [List.length_map,List.length_append]
     lia
    refine ⟨trivial,?_⟩
    refine XS.cons (EX.assignN n0 (EV.attr (EV.locN n0 rfl ?_)))
    refine GA.ty kf (.tail _ m1') (hv:=hb.hand) (hq:=?_)
    refine XS.nil ?_
    refine ⟨rest.length,Nat.lt_succ_self _,done++(fos.flatMap Fo.sh++hs),rest,d.base,x',y',rfl,?_,hb,by simp,rfl⟩
    rw [<- hd]
    simp
theorem po_rec (kf:KF D ad) {W:HL} {k:Nat} {a:Addr} {d:TyD} {segs:List (List Int)} {ps:List Int} (m:(a,.inst ad.cType d.at)∈W) (h1:d.form="record") (hc:Ch D ad W (k+1) (.ref a) segs)
  (hp:segs.flatten.Perm ps) (ha:ps.Pairwise (· < ·)) (hz:ps.length<=2 ^ 20):PO D ad W (k+3) a ps:=fun A H Q hr hW hq=>by
 refine CL.fnK (k:=k+2) (ps:=["t"]) (os:=["inner","found","place","offset"]) kf.pointer_offsets hr (fun doc pm cdv ct an ws h=>?_) rfl (by rfl) (by decide) (by rfl) fun fm env A' hns hsc hr'=>?_
 ·revert ws h; refine bl1 ?_; intros; rfl
 ·
  have n0:=lN hsc hns "t" 0
  have n1:=lN hsc hns "inner" 1
  have n2:=lN hsc hns "found" 2
  have n3:=lN hsc hns "place" 3
  have n4:=lN hsc hns "offset" 4
  have kp_pointer_offsets:=KpA.of kf.pointer_offsets.keep
  have g_pointer_offsets:=gN hsc "pointer_offsets" kf.n_pointer_offsets
  have g_range:=gB hsc "range" kf.n_range boot_range
  have g_max:=gB hsc "max" kf.n_max boot_max
  have g_len:=gB hsc "len" kf.n_len boot_len
  have kp_record_pointers:=KpA.of kf.record_pointers.keep
  have g_record_pointers:=gN hsc "record_pointers" kf.n_record_pointers
  have m':=hW _ m
  refine XS.cons (EX.ifs (EB.cmp (EV.attr (EV.locN n0 rfl (GA.ty kf m' (hq:=EV.str (CP.of .eqS ⟨_,.bool _,?_⟩)))))))
  refine ⟨fun h=>absurd h (by rw [h1]; decide),fun _=>?_⟩
  refine XS.nil (XS.cons (EX.ifs (EB.cmp (EV.attr (EV.locN n0 rfl (GA.ty kf m' (hq:=EV.str (CP.of .eqS ⟨_,.bool _,?_⟩))))))))
  refine ⟨fun h=>absurd h (by rw [h1]; decide),fun _=>?_⟩
  refine XS.nil (XS.cons (EX.ifs (EB.cmp (EV.attr (EV.locN n0 rfl (GA.ty kf m' (hq:=EV.str (CP.of .eqS ⟨_,.bool _,?_⟩))))))))
  refine ⟨fun _=>?_,fun h=>absurd h (by rw [h1]; decide)⟩
  refine XS.cons (EX.ret (EV.call (EV.glbN g_record_pointers (EL.cons (EV.locN n0 rfl (EL.nil (kpAnd kp_record_pointers.at ?_)))))))
  refine record_pointers_ok kf hr' hc hW hp ha hz fun l=>?_
  exact hq l
end
end Mine
end
section
namespace Mine
section
variable {D:Wd} {ad:Ads} {A:Around} {H R:HL}
noncomputable def LI (D:Wd) (ad:Ads) (W:HL) (k:Nat) (a:Addr) (ps:List Int):Prop:=
 ∀ (A:Around) (H:HL) (Q:V->HL->Prop),Rm k A->(∀ q∈W,q∈H)->(∀ l,Q (.ref l) ((l,.list (ps.map .int))::H))->CL D A (.ref ad.law_inside) [.ref a] H Q
noncomputable def LP (D:Wd) (ad:Ads) (W:HL) (k:Nat) (a:Addr) (ps:List Int):Prop:=
 ∀ (A:Around) (H:HL) (Q:V->HL->Prop),Rm k A->(∀ q∈W,q∈H)->(∀ l,Q (.ref l) ((l,.list (ps.map .int))::H))->CL D A (.ref ad.law_pointers) [.ref a] H Q
theorem LI.mono {W W':HL} {k k':Nat} {a:Addr} {ps:List Int} (h:LI D ad W k a ps) (hk:k<=k') (hs:∀ q∈W,q∈W'):LI D ad W' k' a ps:=fun A H Q r m q=>h A H Q (r.le hk) (fun x hx=>m x (hs x hx)) q
theorem LP.mono {W W':HL} {k k':Nat} {a:Addr} {ps:List Int} (h:LP D ad W k a ps) (hk:k<=k') (hs:∀ q∈W,q∈W'):LP D ad W' k' a ps:=fun A H Q r m q=>h A H Q (r.le hk) (fun x hx=>m x (hs x hx)) q
theorem li_plain (kf:KF D ad) {W:HL} {a:Addr} {d:TyD} (m:(a,.inst ad.cType d.at)∈W) (h1:d.form≠"pointer") (h2:d.form≠"array") (h3:d.form≠"record"):LI D ad W 1 a []:=fun A H Q hr hW hq=>by
 refine CL.drop (CL.fnKP (k:=0) (y:="t") (os:=[]) kf.law_inside hr (fun doc pm cdv ct an w=>rfl) (by rfl) (by decide) (fun n=>by rfl) fun fm env c hns hsc hcl A' hr'=>?_)
 have c0:CelN env "t" c:=⟨by rw [hsc]; rfl,by rw [hcl]; rfl,by rfl⟩
 have m':=hW _ m
 refine XS.cons (EX.ifs (EB.cmp (EV.attr (EV.celN c0 m_0 (GA.ty kf (.tail _ m') (hq:=EV.str (CP.of .eqS ⟨_,.bool _,?_⟩)))))))
 refine ⟨fun h=>absurd (by simpa using h) h1,fun _=>?_⟩
 refine XS.nil (XS.cons (EX.ifs (EB.cmp (EV.attr (EV.celN c0 m_0 (GA.ty kf (.tail _ m') (hq:=EV.str (CP.of .eqS ⟨_,.bool _,?_⟩))))))))
 refine ⟨fun h=>absurd (by simpa using h) h3,fun _=>?_⟩
 refine XS.nil (XS.cons (EX.ifs (EB.cmp (EV.attr (EV.celN c0 m_0 (GA.ty kf (.tail _ m') (hq:=EV.str (CP.of .eqS ⟨_,.bool _,?_⟩))))))))
 refine ⟨fun h=>absurd (by simpa using h) h2,fun _=>?_⟩
 refine XS.nil (XS.cons (EX.ret (EV.list (EL.nil (leAnd rfl ?_)))))
 intro l
 exact ⟨_,.cons .at1 (.refl _),hq l⟩
theorem li_ptr (kf:KF D ad) {W:HL} {a:Addr} {d:TyD} (m:(a,.inst ad.cType d.at)∈W) (h1:d.form="pointer"):LI D ad W 1 a [0]:=fun A H Q hr hW hq=>by
 refine CL.drop (CL.fnKP (k:=0) (y:="t") (os:=[]) kf.law_inside hr (fun doc pm cdv ct an w=>rfl) (by rfl) (by decide) (fun n=>by rfl) fun fm env c hns hsc hcl A' hr'=>?_)
 have c0:CelN env "t" c:=⟨by rw [hsc]; rfl,by rw [hcl]; rfl,by rfl⟩
 have m':=hW _ m
 refine XS.cons (EX.ifs (EB.cmp (EV.attr (EV.celN c0 m_0 (GA.ty kf (.tail _ m') (hq:=EV.str (CP.of .eqS ⟨_,.bool _,?_⟩)))))))
 refine ⟨fun _=>?_,fun h=>absurd h (by rw [h1]; decide)⟩
 refine XS.cons (EX.ret (EV.list (EL.cons (EV.int (EL.nil (leAnd rfl ?_))))))
 intro l
 exact ⟨_,.cons .at1 (.refl _),hq l⟩
theorem li_rec (kf:KF D ad) {W:HL} {k:Nat} {a:Addr} {d:TyD} {ps:List Int} (m:(a,.inst ad.cType d.at)∈W) (h1:d.form="record") (hlp:LP D ad W k a ps):LI D ad W (k+1) a ps:=fun A H Q hr hW hq=>by
 refine CL.drop (CL.fnKP (k:=k) (y:="t") (os:=[]) kf.law_inside hr (fun doc pm cdv ct an w=>rfl) (by rfl) (by decide) (fun n=>by rfl) fun fm env c hns hsc hcl A' hr'=>?_)
 have c0:CelN env "t" c:=⟨by rw [hsc]; rfl,by rw [hcl]; rfl,by rfl⟩
 have kp_law_pointers:=KpA.of kf.law_pointers.keep
 have g_law_pointers:=gN hsc "_law_pointers" kf.n_law_pointers
 have m':=hW _ m
 refine XS.cons (EX.ifs (EB.cmp (EV.attr (EV.celN c0 m_0 (GA.ty kf (.tail _ m') (hq:=EV.str (CP.of .eqS ⟨_,.bool _,?_⟩)))))))
 refine ⟨fun h=>absurd h (by rw [h1]; decide),fun _=>?_⟩
 refine XS.nil (XS.cons (EX.ifs (EB.cmp (EV.attr (EV.celN c0 m_0 (GA.ty kf (.tail _ m') (hq:=EV.str (CP.of .eqS ⟨_,.bool _,?_⟩))))))))
 refine ⟨fun _=>?_,fun h=>absurd h (by rw [h1]; decide)⟩
 refine XS.cons (EX.ret (EV.call (EV.glbN g_law_pointers (EL.cons (EV.celN c0 m_0 (EL.nil (kpAnd kp_law_pointers.at ?_)))))))
 refine hlp A' _ _ hr' (fun q hq=>.tail _ (hW q hq)) fun l=>?_
 exact ⟨_,.cons .at1 (.refl _),hq l⟩
theorem li_arr (kf:KF D ad) {W:HL} {k:Nat} {a b:Addr} {d e:TyD} {n:Nat} {ps:List Int} (m:(a,.inst ad.cType d.at)∈W) (mb:(b,.inst ad.cType e.at)∈W) (h1:d.form="array") (hb:d.base=.ref b) (hn:d.length=n) (hn3:n<=3)
  (hli:LI D ad W k b ps) (hs:e.size.natAbs < 2 ^ 64) (hz:ps.length<=2 ^ 20):LI D ad W (k+1) a (arrPs n e.size ps):=fun A H Q hr hW hq=>by
 refine CL.drop (CL.fnKP (k:=k) (y:="t") (os:=[]) kf.law_inside hr (fun doc pm cdv ct an w=>rfl) (by rfl) (by decide) (fun n=>by rfl) fun fm env c hns hsc hcl A' hr'=>?_)
 have c0:CelN env "t" c:=⟨by rw [hsc]; rfl,by rw [hcl]; rfl,by rfl⟩
 have g_range:=gB hsc "range" kf.n_range boot_range
 have m':=hW _ m
 refine XS.cons (EX.ifs (EB.cmp (EV.attr (EV.celN c0 m_0 (GA.ty kf (.tail _ m') (hq:=EV.str (CP.of .eqS ⟨_,.bool _,?_⟩)))))))
 refine ⟨fun h=>absurd h (by rw [h1]; decide),fun _=>?_⟩
 refine XS.nil (XS.cons (EX.ifs (EB.cmp (EV.attr (EV.celN c0 m_0 (GA.ty kf (.tail _ m') (hq:=EV.str (CP.of .eqS ⟨_,.bool _,?_⟩))))))))
 refine ⟨fun h=>absurd h (by rw [h1]; decide),fun _=>?_⟩
 refine XS.nil (XS.cons (EX.ifs (EB.cmp (EV.attr (EV.celN c0 m_0 (GA.ty kf (.tail _ m') (hq:=EV.str (CP.of .eqS ⟨_,.bool _,?_⟩))))))))
 refine ⟨fun _=>?_,fun h=>absurd h (by rw [h1]; decide)⟩
 refine XS.cons (EX.ret ?_)
 refine EV.listComp ["lap","step"] (by decide) (cl:=[("t",c)]) ?_ ?_ ?_ ?_
 ·simp only [closureFor,cellOf,hcl]
  rfl
 ·refine EV.call (EV.glbN g_range (EL.cons (EV.attr (EV.celN c0 m_0 (GA.ty kf (.tail _ m') (hq:=EL.nil (kpAnd .typ ?_)))))))
  rw [hn]
  refine CL.range1 fun r=>?_
  refine PI.range .head (small_of (Int.natCast_nonneg n) (by lia)) fun it=>?_
  have en:=rs1 (Int.natCast_nonneg n)
  rw [en]
  intro acc fm' hns' env' he'
  have hse':=rel_scope he' hsc
  have hce':=rel_cells he'
  have m0:=lN hse' hns' "lap" 0
  have m1:=lN hse' hns' "step" 1
  have kq_law_inside:=KpA.of kf.law_inside.keep
  have h_law_inside:=gN hse' "_law_inside" kf.n_law_inside
  have k_t:=cN (c:=c) hse' hce' "t"
  refine CS.list rfl rfl ⟨PI.self m_1 trivial,fun m H' vs'=>∃ i,m=n - i/\i<=n/\H'.Perm ((it,.io (.riter i (n - i) 1))::(acc,.list ((arrPs i e.size ps).map .int))::(c,.cell (some (.ref a)))::H)/\∃ x y,vs'=[x,y],⟨n,0,rfl,Nat.zero_le _,?_,none,none,rfl⟩,?_⟩
  ·simpa [arrPs] using List.Perm.swap _ _ _
  ·rintro m H₃ vs₃ N hN ⟨i,rfl,hi,p,x,y,rfl⟩
   refine NX.perm p (NX.range hr'.handled .head (fun hl=>?_) (fun hl=>?_))
   ·have hlt:i < n:=by lia
    refine AS.locN m0 (IFS.nil ?_)
    refine ⟨rfl,fun x=>rfl,?_⟩
    refine EV.call (EV.glbN h_law_inside (EL.cons (EV.attr (EV.celN k_t m_2 ?_))))
    have m3':∀ {p q r:Addr×AObj},(a,.inst ad.cType d.at)∈p::q::r::H:=t_3 m'
    refine GA.ty kf m3' (hv:=by rw [hb]; rfl) (hq:=?_)
    rw [hb]
    refine EL.nil (kpAnd kq_law_inside.at ?_)
    refine hli A' _ _ hr' (fun q hq=>t_3 (hW q hq)) fun lp=>?_
    refine PI.list (.head _) fun it2=>?_
    refine CS.drop (CS.list rfl rfl ⟨PI.self (.head _) trivial,fun m H' vs'=>∃ j,m=ps.length - j/\j<=ps.length/\H'.Perm ((it2,.io (.liter lp j))::(acc,.list ((arrPs i e.size ps++(ps.take j).map fun p=>(i:Int) * e.size+p).map .int))::(lp,.list (ps.map .int))::(it,.io (.riter (i+1) (n - i - 1) 1))::(c,.cell (some (.ref a)))::H)/\∃ y,vs'=[some (.int i),y],⟨ps.length,0,rfl,Nat.zero_le _,?_,y,rfl⟩,?_⟩)
    ·simpa using Ext.pc .at2 (.refl _)
    ·rintro m H₃ vs₃ N₂ hN₂ ⟨j,rfl,hj,p2,y2,rfl⟩
     refine NX.perm p2 (NX.list hr'.handled .head m_2 (fun x hx=>?_) (fun hx=>?_))
     ·rw [List.getElem?_map,Option.map_eq_some_iff] at hx
      obtain ⟨q,hq',rfl⟩:=hx
      have hjl:j < ps.length:=(List.getElem?_eq_some_iff.mp hq').1
      refine AS.locN m1 (IFS.nil ?_)
      have m6':∀ {p q r s t:Addr×AObj},(a,.inst ad.cType d.at)∈p::q::r::s::t::H:=t_5 m'
      show EV _ _ _ _ _ _ _ _
      refine EV.bin (EV.bin (EV.locN m0 rfl (EV.attr (EV.attr ?_))))
      refine EV.celN k_t m_4 ?_
      refine GA.ty kf m6' (hv:=by rw [hb]; rfl) (hq:=?_)
      rw [hb]
      refine GA.ty kf (t_5 (hW _ mb)) (hq:=?_)
      refine ⟨_,.mul (mulOk hs),?_⟩
      refine EV.locN m1 rfl ?_
      refine ⟨_,.add,?_⟩
      refine ⟨_,_,.at1,?_,hN₂ ⟨ps.length - (j+1),sub_dn hjl,j+1,rfl,hjl,?_,_,rfl⟩⟩
      ·have h0:=arrPs_length i e.size ps
       have h00:i * ps.length<=3 * ps.length:=Nat.mul_le_mul_right _ (by exact Nat.le_trans hi hn3)
       have h3:(2:Nat) ^ 20=1048576:=by decide
       have h4:sizeLine=16777216:=by decide
       simp only [List.length_map,List.length_append,h0,List.length_take]
       exact lin (Nat.add_le_add h00 (Nat.add_le_add (Nat.min_le_right (j) (ps.length)) (Nat.add_le_add (Nat.mul_le_mul_left 4 hz) (Nat.le_of_eq h4.symm)))) (by simp +arith)
      ·have ht:(ps.take (j+1)).map (fun p=>(i:Int) * e.size+p)=(ps.take j).map (fun p=>(i:Int) * e.size+p)++[(i:Int) * e.size+q]:=by rw [List.take_add_one,hq',List.map_append]; rfl
       rw [ht,<- List.append_assoc,List.map_append (l₂:=[_])]
       exact List.Perm.swap _ _ _
     ·have hx':j=ps.length:=by
       rw [List.getElem?_map,Option.map_eq_none_iff,List.getElem?_eq_none_iff] at hx
       exact linE hj (by simp +arith) hx (by simp +arith)
      subst hx'
      refine ⟨_,.cons .at1 (.refl _),hN ⟨n - (i+1),sub_dn hlt,i+1,rfl,hlt,?_,_,_,rfl⟩⟩
      rw [arrPs_succ,List.take_length]
      have e2:(n:Int) - i - 1=n - ((i+1:Nat):Int):=by simp +arith
      rw [e2]
      exact List.Perm.swap _ _ _
   ·have:i=n:=by lia
    subst this
    exact ⟨_,.cons .at1 (.refl _),hq acc⟩
 ·decide
 ·decide
end
end Mine
end
section
namespace Mine
section
variable {D:Wd} {ad:Ads} {A:Around} {H R:HL}
theorem lp_rec (kf:KF D ad) {W:HL} {k:Nat} {a:Addr} {d:TyD} {fos:List Fo} {hs bps ps:List Int} (m1:(a,.inst ad.cType d.at)∈W) (m2:(d.fields,.list (fos.map fun f=>.ref f.o))∈W)
  (m3:∀ f∈fos,f.ent ad∈W/\LI D ad W k f.t f.ps) (m4:(d.hidden,.list (hs.map .int))∈W) (hb:(d.base=.none/\bps=[])\/∃ b,d.base=.ref b/\LP D ad W k b bps)
  (hp:(bps++(fos.flatMap Fo.sh++hs)).Perm ps) (ha:ps.Pairwise (· < ·)) (hz:ps.length<=2 ^ 20):LP D ad W (k+1) a ps:=fun A H Q hr hW hq=>by
 refine CL.drop (CL.fnKC (k:=k) (p:="record") (y:="field") (os:=["found"]) kf.law_pointers hr (fun doc pm cdv ct an w=>rfl) (by rfl) (by decide) (fun n=>by rfl) fun fm env c hns hsc hcl A' hr'=>?_)
 have n0:=lN hsc hns "record" 0
 have n1:=lN hsc hns "found" 1
 have g_list:=gB hsc "list" kf.n_list boot_list
 have kp_law_pointers:=KpA.of kf.law_pointers.keep
 have g_law_pointers:=gN hsc "_law_pointers" kf.n_law_pointers
 have kp_law_inside:=KpA.of kf.law_inside.keep
 have g_law_inside:=gN hsc "_law_inside" kf.n_law_inside
 have g_sorted:=gB hsc "sorted" kf.n_sorted boot_sorted
 have c0:CelN env "field" c:=⟨by rw [hsc]; rfl,by rw [hcl]; rfl,by rfl⟩
 have m1':=hW _ m1
 have m2':=hW _ m2
 have m4':=hW _ m4
 have hlen:bps.length+((fos.flatMap Fo.sh).length+hs.length)=ps.length:=by have:=hp.length_eq; simpa using this
 have h4:sizeLine=16777216:=by decide
 refine XS.cons (EX.assignN n1 (EV.cat ?_))
 refine EV.call (EV.glbN g_list (EL.cons (EV.attr (EV.locN n0 rfl (GA.ty kf (.tail _ m1') (hq:=EL.nil (kpAnd .typ ?_)))))))
 refine CL.listCopy (.tail _ m4') (by simp; lia) fun l1=>?_
 refine EV.mono (Q:=fun y H₂=>∃ l2,y=.ref l2/\H₂=(l2,.list (bps.map .int))::(l1,.list (hs.map .int))::(c,.cell none)::H) ?_ ?_
 ·refine EV.ife ?_
  refine EB.cmp (EV.attr (EV.locN n0 rfl (GA.ty kf (t_2 m1') (hv:=by rcases hb with ⟨h,_⟩ | ⟨b,h,_⟩ <;> rw [h] <;> rfl) (hq:=EV.cnone ?_))))
  rcases hb with ⟨h,h1⟩ | ⟨b,h,h1⟩
  ·rw [h]
   refine CP.of .notN ⟨_,.bool _,fun h=>Bool.noConfusion h,fun _=>?_⟩
   refine EV.list (EL.nil (leAnd rfl ?_))
   intro l2
   rw [h1]
   exact ⟨l2,rfl,rfl⟩
  ·rw [h]
   refine CP.of .notRN ⟨_,.bool _,fun _=>?_,fun h=>Bool.noConfusion h⟩
   refine EV.call (EV.glbN g_law_pointers (EL.cons (EV.attr (EV.locN n0 rfl ?_))))
   refine GA.ty kf (t_2 m1') (hv:=by rw [h]; rfl) (hq:=?_)
   rw [h]
   refine EL.nil (kpAnd kp_law_pointers.at ?_)
   refine h1 A' _ _ hr' (fun q hq=>t_2 (hW q hq)) fun l2=>?_
   exact ⟨l2,rfl,rfl⟩
 rintro y H₂ ⟨l2,rfl,rfl⟩
 refine ⟨l1,l2,hs.map .int,bps.map .int,rfl,rfl,m_1,.head _,by simp; lia,fun r=>?_⟩
 rw [<- List.map_append]
 refine XS.drop (.cons .at1 (.cons .at1 (.refl _))) ?_
 refine XS.cons (EX.forL hr'.handled ?_)
 refine EV.attr (EV.locN n0 rfl (GA.ty kf (t_2 m1') (hq:=?_)))
 refine ⟨d.fields,fos.map fun f=>.ref f.o,rfl,fun i H' vs'=>∃ co,H'.Perm ((r,.list ((hs++bps++(fos.take i).flatMap Fo.sh).map .int))::(c,.cell co)::H)/\vs'=[some (.ref a),some (.ref r)],⟨none,by simp,rfl⟩,?_,?_,?_⟩
 ·rintro i H' vs' ⟨co,p,_⟩
  exact p.mem_iff.mpr (t_2 m2')
 ·rintro it i x H₃ vs₃ N hN hx ⟨co,p,rfl⟩
  rw [List.getElem?_map,Option.map_eq_some_iff] at hx
  obtain ⟨f,hf,rfl⟩:=hx
  have hfm:=List.mem_of_getElem? hf
  have mf:(f.o,.inst ad.cObj (obAt f.nm f.k (.ref f.t) f.off))∈H:=hW _ (m3 f hfm).1
  have htk:(fos.take (i+1)).flatMap Fo.sh=(fos.take i).flatMap Fo.sh++f.sh:=by rw [List.take_add_one,hf]; simp
  have hle:(fos.take i).flatMap Fo.sh++f.sh <+: fos.flatMap Fo.sh:=by
   rw [<- htk]
   exact ⟨(fos.drop (i+1)).flatMap Fo.sh,by rw [<- List.flatMap_append,List.take_append_drop]⟩
  have hle':=hle.length_le
  have hsh:f.sh.length=f.ps.length:=by simp [Fo.sh]
  simp only [List.length_append] at hle'
  refine AS.perm (.cons _ p) (AS.celN c0 .at2 ?_)
  refine XS.cons (EX.aug n1.l n1.i rfl ?_)
  refine EV.listComp ["step"] (by decide) (cl:=[("field",c)]) ?_ ?_ ?_ ?_
  ·simp only [closureFor,cellOf,hcl]
   rfl
  ·refine EV.call (EV.glbN g_law_inside (EL.cons (EV.attr (EV.celN c0 m_0 (GA.ob kf (t_3 mf) (hq:=EL.nil (kpAnd kp_law_inside.at ?_)))))))
   refine (m3 f hfm).2 A' _ _ hr' (fun q hq=>t_3 (hW q hq)) fun lp=>?_
   refine PI.list (.head _) fun it2=>?_
   intro acc fm' hns' env' he'
   have hse':=rel_scope he' hsc
   have hce':=rel_cells he'
   have m0:=lN hse' hns' "step" 0
   have k_field:=cN (c:=c) hse' hce' "field"
   refine CS.list rfl rfl ⟨PI.self m_1 trivial,fun m H' vs'=>∃ j,m=f.ps.length - j/\j<=f.ps.length/\H'.Perm ((it2,.io (.liter lp j))::(acc,.list ((f.ps.take j).map fun p=>.int (f.off+p)))::(lp,.list (f.ps.map .int))::(c,.cell (some (.ref f.o)))::(it,.io (.liter d.fields (i+1)))::(r,.list ((hs++bps++(fos.take i).flatMap Fo.sh).map .int))::H)/\∃ y,vs'=[y],
    ⟨f.ps.length,0,rfl,Nat.zero_le _,?_,none,rfl⟩,?_⟩
   ·simpa using List.Perm.swap _ _ _
   ·rintro m H₃ vs₃ N₂ hN₂ ⟨j,rfl,hj,p2,y2,rfl⟩
    refine NX.perm p2 (NX.list hr'.handled .head m_2 (fun x hx=>?_) (fun hx=>?_))
    ·rw [List.getElem?_map,Option.map_eq_some_iff] at hx
     obtain ⟨q,hq',rfl⟩:=hx
     have hjl:j < f.ps.length:=(List.getElem?_eq_some_iff.mp hq').1
     refine AS.locN m0 (IFS.nil ?_)
     show EV _ _ _ _ _ _ _ _
     refine EV.bin (EV.attr (EV.celN k_field m_3 (GA.ob kf (t_6 mf) (hq:=?_))))
     refine EV.locN m0 rfl ?_
     refine ⟨_,.add,?_⟩
     refine ⟨_,_,.at1,?_,hN₂ ⟨f.ps.length - (j+1),sub_dn hjl,j+1,rfl,hjl,?_,_,rfl⟩⟩
     ·simp only [List.length_map,List.length_take]
      lia
     ·have ht:(f.ps.take (j+1)).map (fun p=>V.int (f.off+p))=(f.ps.take j).map (fun p=>V.int (f.off+p))++[.int (f.off+q)]:=by rw [List.take_add_one,hq',List.map_append]; rfl
      rw [ht]
      exact List.Perm.swap _ _ _
    ·have hx':j=f.ps.length:=by
      rw [List.getElem?_map,Option.map_eq_none_iff,List.getElem?_eq_none_iff] at hx
      exact linE hj (by simp +arith) hx (by simp +arith)
     subst hx'
     rw [List.take_length]
     refine IP.extend .at4 (.head _) ?_ ?_
     ·simp only [List.length_map,List.length_append]
      lia
     refine XS.drop (.cons .at1 (.cons .at1 (.refl _))) (XS.nil (hN ⟨_,.at2,some (.ref f.o),?_,rfl⟩))
     rw [htk,<- List.append_assoc]
     simp [Fo.sh,Function.comp_def]
  ·decide
  ·decide
 ·rintro H₃ vs₃ ⟨co,p,rfl⟩
  simp only [List.length_map,List.take_length] at p
  refine XS.nil (XS.perm p ?_)
  refine XS.cons (EX.ret (EV.call (EV.glbN g_sorted (EL.cons (EV.locN n1 rfl (EL.nil (kpAnd .blt ?_)))))))
  refine CL.sortedI (.head _) (by simp only [List.length_append]; lia) fun l js pj sj=>?_
  have pj2:js.Perm ps:=pj.trans (List.Perm.trans (by rw [List.append_assoc]; exact (List.perm_append_comm (l₁:=hs)).trans (by rw [List.append_assoc])) hp)
  have ej:=sorted_eq pj2 sj ha
  subst ej
  exact ⟨_,.cons .at1 (.cons .at1 (.refl _)),hq l⟩
end
end Mine
end
section
namespace Mine
noncomputable def wordsFrom:Int->List Int->List (Int×Int)
 | _,[]=>[]
 | at_,w::r=>if w=0 then wordsFrom (at_+4) r else (at_,w)::wordsFrom (at_+4) r
theorem wordsFrom_append:∀ (at_:Int) (l m:List Int),wordsFrom at_ (l++m)=wordsFrom at_ l++wordsFrom (at_+4 * l.length) m
 := by
 intro at_ l m
 induction l generalizing at_ with
 | nil=>show wordsFrom at_ m=wordsFrom (at_+4 * ((0:Nat):Int)) m; rw [Int.natCast_zero,Int.mul_zero,Int.add_zero]
 | cons w r ih=>
  have e:at_+4+4 * (r.length:Int)=at_+4 * ((r.length+1:Nat):Int):=by simp +arith
  simp only [List.cons_append,wordsFrom,ih (at_+4),List.length_cons,e]
  split <;> simp
theorem wordsFrom_length:∀ (at_:Int) (l:List Int),(wordsFrom at_ l).length<=l.length
 := by
 intro at_ l
 induction l generalizing at_ with
 | nil=>exact Nat.le_refl _
 | cons w r ih=>
  unfold wordsFrom
  by_cases h:w=0
  ·rw [if_pos h]; exact Nat.le_succ_of_le (ih _)
  ·rw [if_neg h]; exact Nat.succ_le_succ (ih _)
structure DS where
 a0:Int
 mem:List Int
 fix:List (Int×Int×Int)
 texts:List (Str×Int)
 descs:List (Int×Int)
 imp:Bool
noncomputable def DS.size (st:DS):Int:=st.a0+4 * st.mem.length
noncomputable def DS.push (st:DS) (w:Int):DS:={ st with mem:=st.mem++[w] }
structure DaA where
 da:Addr
 wl:Addr
 fl:Addr
 sd:Addr
 dd:Addr
 imp:Addr
 nl:Addr
noncomputable def daAt (z:DaA) (n:Int):List (Str×V):=[("module",.str "M"),("import_index",.ref z.imp),("size",.int n),("words",.ref z.wl),("fixups",.ref z.fl),("strings",.ref z.sd),("descriptors",.ref z.dd)]
noncomputable def tup2 (p:Int×Int):V:=.tup [.int p.1,.int p.2]
noncomputable def tup3 (p:Int×Int×Int):V:=.tup [.int p.1,.int p.2.1,.int p.2.2]
noncomputable def daE (ad:Ads) (z:DaA) (st:DS) (n:Int) (e1 e2:Nat):HL:=[(z.da,.inst ad.cDA (daAt z n)),(z.wl,.list ((wordsFrom st.a0 st.mem).map tup2)),(z.fl,.list (st.fix.map tup3)),
 (z.sd,.dictS (st.texts.map fun p=>(p.1,.int p.2)) e1),(z.dd,.dictI (st.descs.map fun p=>(p.1,.int p.2)) e2),(z.nl,.list (if st.imp then [.str "N"] else []))]
inductive DaH (ad:Ads) (z:DaA) (st:DS) (H R:HL):Prop where
 | mk (e1 e2:Nat) (p:H.Perm (daE ad z st st.size e1 e2++R))
theorem DaH.mem {ad:Ads} {z:DaA} {st:DS} {H R:HL} (h:DaH ad z st H R) {q:Addr×AObj} (hq:q∈R):q∈H:=let ⟨_,_,p⟩:=h; p.mem_iff.mpr (List.mem_append_right _ hq)
class DaGet (n:String) (z:DaA) (k:Int) (x:outParam V):Prop where
 get:(daAt z k).lookup (Str.ofString n)=some x
 mem:Str.ofString n∈daNames
noncomputable instance (z:DaA) (k:Int):DaGet "module" z k (.str "M"):=⟨by rfl,by decide⟩
noncomputable instance (z:DaA) (k:Int):DaGet "size" z k (.int k):=⟨by rfl,by decide⟩
noncomputable instance (z:DaA) (k:Int):DaGet "words" z k (.ref z.wl):=⟨by rfl,by decide⟩
noncomputable instance (z:DaA) (k:Int):DaGet "fixups" z k (.ref z.fl):=⟨by rfl,by decide⟩
noncomputable instance (z:DaA) (k:Int):DaGet "strings" z k (.ref z.sd):=⟨by rfl,by decide⟩
noncomputable instance (z:DaA) (k:Int):DaGet "descriptors" z k (.ref z.dd):=⟨by rfl,by decide⟩
section
variable {D:Wd} {ad:Ads} {A:Around} {H R:HL}
theorem GA.da {a:Addr} {z:DaA} {k:Int} {n:String} {x:V} {Q:V->HL->Prop} [g:DaGet n z k x] (kf:KF D ad) (m:(a,.inst ad.cDA (daAt z k))∈H) (hv:handV x=true:=by rfl) (hq:Q x H) :
  GA D A (Str.ofString n) (.ref a) H Q:=GA.own m (kf.daAttr _ g.mem) g.get hv hq
theorem SA.da_size {a:Addr} {z:DaA} {k y:Int} {Q:HL->Prop} (kf:KF D ad) (m:Ext a (.inst ad.cDA (daAt z k)) H R) (hq:Q ((a,.inst ad.cDA (daAt z y))::R)):SA D A "size" (.ref a) (.int y) H Q:=
 SA.own m (kf.daAttr _ (by decide)) (by show (7:Nat) < 1000; decide) hq
class DaMeth (n:String) (f:outParam (Ads->Addr)):Prop where
 m:∀ {D:Wd} {ad:Ads},KF D ad->MethK D.K ad.cDA (f ad) (Str.ofString n)
 l:∀ (z:DaA) (k:Int),(daAt z k).lookup (Str.ofString n)=none
noncomputable instance:DaMeth "add_word" Ads.da_add_word:=⟨fun kf=>kf.m_da_add_word,fun _ _=>by rfl⟩
noncomputable instance:DaMeth "string_address" Ads.da_string_address:=⟨fun kf=>kf.m_da_string_address,fun _ _=>by rfl⟩
noncomputable instance:DaMeth "descriptor" Ads.da_descriptor:=⟨fun kf=>kf.m_da_descriptor,fun _ _=>by rfl⟩
noncomputable instance:DaMeth "own_descriptor" Ads.da_own_descriptor:=⟨fun kf=>kf.m_da_own_descriptor,fun _ _=>by rfl⟩
noncomputable instance:DaMeth "make_descriptor" Ads.da_make_descriptor:=⟨fun kf=>kf.m_da_make_descriptor,fun _ _=>by rfl⟩
noncomputable instance:DaMeth "add_reference" Ads.da_add_reference:=⟨fun kf=>kf.m_da_add_reference,fun _ _=>by rfl⟩
theorem GM.da {a:Addr} {z:DaA} {k:Int} {n:String} {f:Ads->Addr} {Q:V->List V->HL->Prop} [g:DaMeth n f] (kf:KF D ad) (m:(a,.inst ad.cDA (daAt z k))∈H) (hq:Q (.ref (f ad)) [.ref a] H) :
  GM D A (Str.ofString n) (.ref a) H Q:=GM.inst m (g.m kf).get (g.m kf).find (g.m kf).fn (g.l z k) hq
theorem add_word_ok (kf:KF D ad) {k:Nat} (hr:Rm (k+1) A) {z:DaA} {st:DS} {w:Int} {Q:V->HL->Prop} (h:DaH ad z st H R) (hz:st.mem.length<=2 ^ 23) (hq:∀ H',DaH ad z (st.push w) H' R->Q (.int st.size) H') :
  CL D A (.ref ad.da_add_word) [.ref z.da,.int w] H Q:=by
 obtain ⟨e1,e2,p⟩:=h
 refine CL.perm p (CL.fnK (k:=k) (ps:=["self","word"]) (os:=["offset"]) kf.da_add_word hr (fun doc pm cdv ct an ws h=>?_) rfl (by rfl) (by decide) (by rfl) fun fm env A' hns hsc hr'=>?_)
 ·revert ws h; refine bl2 ?_; intros; rfl
 ·
  have n0:=lN hsc hns "self" 0
  have n1:=lN hsc hns "word" 1
  have n2:=lN hsc hns "offset" 2
  unfold daE
  have hwl:=wordsFrom_length st.a0 st.mem
  have e4:st.size+4=(st.push w).size:=by simp only [DS.size,DS.push,List.length_append,List.length_cons,List.length_nil]; simp +arith
  refine XS.cons (EX.assignN n2 (EV.attr (EV.locN n0 rfl (GA.da kf (.head _) (hq:=?_)))))
  refine XS.cons (EX.mono (Q:=fun fl H' vs'=>fl=.next/\vs'=[some (.ref z.da),some (.int w),some (.int st.size)]/\H'.Perm (daE ad z (st.push w) st.size e1 e2++R)) ?_ ?_)
  ·refine EX.ifs (EB.cmp (EV.locN n1 rfl (EV.int (CP.of .ne ⟨_,.bool _,?_⟩))))
   refine ⟨fun h=>?_,fun h=>?_⟩
   ·refine XS.cons (EX.expr (EV.meth (EV.attr (EV.locN n0 rfl ?_))))
    refine GA.da kf (.head _) (hq:=?_)
    refine GM.listN m_1 (EL.cons (EV.tuple (EL.cons (EV.locN n2 rfl (EL.cons (EV.locN n1 rfl (EL.nil (leAnd rfl (EL.nil (kpAnd .blt ?_))))))))))
    have hw:w≠0:=by simpa using h
    refine CL.append .at1 ?_ ?_
    ·have h4:sizeLine=16777216:=by decide
     simp only [List.length_map]
     exact lin (Nat.add_le_add hwl (Nat.add_le_add hz (Nat.le_of_eq h4.symm))) (by simp +arith)
    refine ⟨trivial,?_⟩
    refine XS.nil ?_
    refine ⟨rfl,rfl,?_⟩
    have ew:(wordsFrom st.a0 (st.push w).mem).map tup2=(wordsFrom st.a0 st.mem).map tup2++[.tup [.int st.size,.int w]]:=by
     simp [DS.push,wordsFrom_append,wordsFrom,hw,tup2,DS.size]
    show List.Perm _ ((z.da,_)::(z.wl,AObj.list ((wordsFrom st.a0 (st.push w).mem).map tup2))::_)
    rw [ew]
    exact List.Perm.swap _ _ _
   ·have hw:w=0:=by simpa using h
    refine XS.nil ?_
    refine ⟨rfl,rfl,?_⟩
    subst hw
    have ew:wordsFrom (st.push 0).a0 (st.push 0).mem=wordsFrom st.a0 st.mem:=by simp [DS.push,wordsFrom_append,wordsFrom]
    unfold daE
    rw [ew]
    exact .refl _
  ·rintro fl H' vs' ⟨rfl,rfl,p'⟩
   refine XS.perm p' ?_
   unfold daE
   refine XS.cons (EX.augA (EV.locN n0 rfl (GA.da kf (.head _) (hq:=EV.int (IP.add (SA.da_size kf .head ?_))))))
   refine XS.cons (EX.ret (EV.locN n2 rfl ?_))
   refine hq _ ⟨e1,e2,?_⟩
   rw [e4]
   exact .refl _
end
end Mine
end
section
set_option maxHeartbeats 4000000
namespace Mine
noncomputable def padTo4 (cs:List Int):List Int:=cs++List.replicate ((4 - cs.length % 4) % 4) 0
noncomputable def codesOf (t:Str):List Int:=t.cps.toList.map (fun (c:Nat)=>(c:Int))++[0]
noncomputable def swAt (p:List Int) (i:Nat):Int:=p.getD (4 * i) 0+p.getD (4 * i+1) 0 * 256+p.getD (4 * i+2) 0 * 65536+p.getD (4 * i+3) 0 * 16777216
noncomputable def swList (p:List Int):List Int:=(List.range (p.length / 4)).map (swAt p)
noncomputable def sw (t:Str):List Int:=swList (padTo4 (codesOf t))
theorem pad4 (n:Nat):∃ q,n+(4 - n % 4) % 4=4 * q:=⟨(n+3) / 4,by omega⟩
theorem padTo4_mod (cs:List Int):(padTo4 cs).length % 4=0:=by
 obtain ⟨q,h⟩:=pad4 cs.length
 rw [padTo4,List.length_append,List.length_replicate,h]
 exact Nat.mul_mod_right 4 q
theorem size4 (q:Nat):Builtin.Range.rangeSize 0 ((4 * q:Nat):Int) 4=q:=by
 unfold Builtin.Range.rangeSize
 split
 ·split <;> omega
 ·omega
theorem small4 {q:Nat} (h:q < 2 ^ 30):Builtin.Range.small 0 ((4 * q:Nat):Int) 4=true:=by
 unfold Builtin.Range.small
 rw [size4]
 simp only [Bool.and_eq_true,Bool.or_eq_true]
 unfold Builtin.Range.rangeFitsLong
 refine ⟨⟨⟨⟨?_,?_⟩,?_⟩,?_⟩,.inr ?_⟩ <;> (try simp) <;> lia
theorem getD_get {l:List Int} {i:Nat} (h:i < l.length):(l.map V.int)[i]?=some (.int (l.getD i 0)):=by
 rw [List.getElem?_map,List.getElem?_eq_getElem h,List.getD_eq_getElem?_getD,List.getElem?_eq_getElem h]; rfl
theorem lt4 {i q n:Nat} (h:n=4 * q) (hi:i < q) (k:Nat) (hk:k < 4):4 * i+k < n:=by
 subst h; exact Nat.lt_of_lt_of_le (Nat.add_lt_add_left hk _) (Nat.mul_le_mul_left 4 hi)
theorem z4 (i:Nat):(0:Int)+(i:Int) * 4=((4 * i:Nat):Int):=(Int.zero_add _).trans (Int.mul_comm _ _)
theorem q30 {n j q:Nat} (hz:n<=2 ^ 20) (hj:j < 4) (h:4 * q=n+1+j):q < 2 ^ 30:=by exact linL (Nat.add_le_add (Nat.le_of_eq h) (Nat.add_le_add hz hj)) (by simp +arith)
theorem l62 {n q:Nat} (h:n=4 * q) (hq:q < 2 ^ 30):n < 2 ^ 62:=by subst h; exact linL (Nat.add_le_add hq (Nat.add_le_add hq (Nat.add_le_add hq hq))) (by simp +arith)
theorem pad_lt {c j:Nat} (h:(4 - c % 4) % 4=j):j < 4:=h ▸ Nat.mod_lt _ (by decide)
theorem line_lt {n j:Nat} (hz:n<=2 ^ 20) (hj:j<=4):n+1+j < sizeLine:=by show _ < 16777216; exact linL (Nat.add_le_add hz hj) (by simp +arith)
theorem ne0_of {n:Nat} (h:((n:Int) != 0)=true):n≠0:=fun e=>absurd h (by rw [e]; decide)
theorem eq0_of {n:Nat} (h:((n:Int) != 0)=false):n=0:=Int.ofNat.inj (by simpa using h)
theorem pad_eq {n j pad:Nat} (hp:(4 - (n+1) % 4) % 4=pad) (hj:j<=pad) (h:(n+1+j) % 4=0):j=pad:=by
 obtain ⟨q,hq⟩:=pad4 (n+1)
 obtain ⟨k,hk⟩:=Nat.dvd_of_mod_eq_zero h
 have h4:pad < 4:=hp ▸ Nat.mod_lt _ (by decide)
 rw [hp] at hq
 refine Nat.le_antisymm hj (Nat.le_of_not_lt fun c=>?_)
 have c2:4 * k < 4 * q:=by rw [<- hk,<- hq]; exact Nat.add_lt_add_left c _
 have c3:4 * (k+1)<=4 * q:=Nat.mul_le_mul_left 4 (Nat.lt_of_mul_lt_mul_left c2)
 exact linF (Nat.add_le_add c3 (Nat.add_le_add (Nat.le_of_eq hk) (Nat.add_le_add (Nat.le_of_eq hq.symm) h4))) (by simp +arith)
theorem pad_more {n j pad:Nat} (hp:(4 - (n+1) % 4) % 4=pad) (hj:j<=pad) (h:(n+1+j) % 4≠0):j < pad:=by
 obtain ⟨q,hq⟩:=pad4 (n+1)
 exact Nat.lt_of_le_of_ne hj fun e=>h (by rw [e,<- hp,hq]; exact Nat.mul_mod_right 4 q)
section
variable {D:Wd} {ad:Ads} {A:Around} {H R:HL}
theorem GI.getD {a:Addr} {l:List Int} {k:Int} {j:Nat} {Q:V->HL->Prop} (m:(a,.list (l.map .int))∈H) (hk:k=j) (hj:j < l.length) (hl:l.length < 2 ^ 62) (hq:Q (.int (l.getD j 0)) H):GI D A (.ref a) (.int k) H Q:=by
 subst hk
 exact GI.list m (Int.natCast_nonneg j) (by lia) (by rw [Int.toNat_natCast]; exact getD_get hj) hq
theorem string_words_ok (kf:KF D ad) {k:Nat} (hr:Rm (k+1) A) {t:Str} {Q:V->HL->Prop} (hz:t.cps.size<=2 ^ 20) (hq:∀ l,Q (.ref l) ((l,.list ((sw t).map .int))::H)):CL D A (.ref ad.string_words) [.str t] H Q:=by
 refine CL.drop (CL.fnK (k:=k) (ps:=["text"]) (os:=["codes","words","at"]) kf.string_words hr (fun doc pm cdv ct an ws h=>?_) rfl (by rfl) (by decide) (by rfl) fun fm env A' hns hsc hr'=>?_)
 ·revert ws h; refine bl1 ?_; intros; rfl
 ·
  have n0:=lN hsc hns "text" 0
  have n1:=lN hsc hns "codes" 1
  have n2:=lN hsc hns "words" 2
  have n3:=lN hsc hns "at" 3
  have g_len:=gB hsc "len" kf.n_len boot_len
  have g_range:=gB hsc "range" kf.n_range boot_range
  have h4:sizeLine=16777216:=by decide
  refine XS.cons (EX.assignComp ["char"] (by decide) n1.l n1.i (cl:=[]) ?_ (swaps_c hsc (by rfl)) ?_ ?_ ?_)
  ·rfl
  ·refine EV.locN n0 rfl ?_
   refine PI.str fun it=>?_
   intro acc fm' hns' env' he'
   have hse':=rel_scope he' hsc
   have hce':=rel_cells he'
   have m0:=lN hse' hns' "char" 0
   have h_ord:=gB hse' "ord" kf.n_ord boot_ord
   refine CS.list rfl rfl ⟨PI.self m_1 trivial,fun m H' vs'=>∃ j,m=t.cps.size - j/\j<=t.cps.size/\H'.Perm ((it,.io (.siter t j))::(acc,.list ((t.cps.toList.take j).map fun (c:Nat)=>.int (c:Int)))::H)/\∃ y,vs'=[y],⟨t.cps.size,0,rfl,Nat.zero_le _,?_,none,rfl⟩,?_⟩
   ·simpa using List.Perm.swap _ _ _
   ·rintro m H₃ vs₃ N hN ⟨j,rfl,hj,p2,y2,rfl⟩
    refine NX.perm p2 (NX.str hr'.handled .head (fun x hx=>?_) (fun hx=>?_))
    ·have hjl:j < t.cps.size:=(Array.getElem?_eq_some_iff.mp hx).1
     refine AS.locN m0 (IFS.nil ?_)
     show EV _ _ _ _ _ _ _ _
     refine EV.call (EV.glbN h_ord (EL.cons (EV.locN m0 rfl (EL.nil (kpAnd .blt ?_)))))
     refine CL.ord ?_
     refine ⟨_,_,.at1,?_,hN ⟨t.cps.size - (j+1),sub_dn hjl,j+1,rfl,hjl,?_,_,rfl⟩⟩
     ·simp only [List.length_map,List.length_take]
      exact lin (Nat.add_le_add (Nat.min_le_left (j) (t.cps.toList.length)) (Nat.add_le_add hj (Nat.add_le_add hz (Nat.le_of_eq h4.symm)))) (by simp +arith)
     ·have hx':t.cps.toList[j]?=some x:=by simpa using hx
      rw [List.take_add_one,hx',List.map_append]
      exact List.Perm.swap _ _ _
    ·have hx':j=t.cps.size:=by
      rw [Array.getElem?_eq_none_iff] at hx
      exact linE hj (by simp +arith) hx (by simp +arith)
     subst hx'
     have el:t.cps.toList.take t.cps.size=t.cps.toList:=by rw [<- Array.length_toList,List.take_length]
     rw [el]
     have hcs:(t.cps.toList.map fun (c:Nat)=>V.int (c:Int))++[.int 0]=(codesOf t).map .int:=by simp [codesOf,Function.comp_def]
     have hcl:(codesOf t).length=t.cps.size+1:=by simp [codesOf]
     refine XS.cons ?_
     refine EX.expr (EV.meth (EV.locN n1 rfl (GM.listN m_0 (EL.cons (EV.int (EL.nil (kpAnd .blt ?_)))))))
     refine CL.append .head (by simp; exact lin (Nat.add_le_add hz (Nat.le_of_eq h4.symm)) (by simp +arith)) ?_
     rw [hcs]
     refine ⟨trivial,?_⟩
     generalize hpad:(4 - (codesOf t).length % 4) % 4=pad
     refine XS.cons (EX.while_ (fun n H₁ vs₁=>∃ j,n=pad - j/\j<=pad/\H₁=(acc,.list ((codesOf t++List.replicate j 0).map .int))::H/\vs₁=[some (.str t),some (.ref acc),none,none]) ⟨pad,0,rfl,Nat.zero_le _,by simp,rfl⟩ ?_)
     rintro n H₁ vs₁ ⟨j,rfl,hj,rfl,rfl⟩
     have hlj:((codesOf t++List.replicate j 0).map V.int).length=t.cps.size+1+j:=by simp [hcl]
     have hj5:=Nat.le_of_lt (line_lt hz (Nat.le_trans hj (Nat.le_of_lt (pad_lt hpad))))
     have hfm:((t.cps.size+1+j:Nat):Int).fmod 4=(((t.cps.size+1+j) % 4:Nat):Int):=Int.fmod_eq_emod_of_nonneg _ (by decide)
     refine EB.cmp (EV.bin (EV.call (EV.glbN g_len (EL.cons (EV.locN n1 rfl (EL.nil (kpAnd .blt ?_)))))))
     refine CL.len (.head _) (by rw [hlj]; exact hj5) ?_
     refine EV.int ?_
     refine ⟨_,.mod (by decide),?_⟩
     rw [hlj,hfm]
     refine EV.int (CP.of .ne ⟨_,.bool _,?_⟩)
     refine ⟨fun h=>?_,fun h=>?_⟩
     ·have h':=ne0_of h
      refine XS.cons (EX.expr (EV.meth (EV.locN n1 rfl (GM.listN m_0 (EL.cons (EV.int (EL.nil (kpAnd .blt ?_))))))))
      refine CL.append .head (by rw [hlj]; exact hj5) ?_
      refine ⟨trivial,?_⟩
      refine XS.nil ?_
      have hjl:=pad_more (hcl ▸ hpad) hj h'
      refine ⟨pad - (j+1),sub_dn hjl,j+1,rfl,hjl,?_,rfl⟩
      rw [List.replicate_succ',<- List.append_assoc,List.map_append (l₂:=[_])]
      rfl
     ·have h':=eq0_of h
      have hjp:j=pad:=pad_eq (hcl ▸ hpad) hj h'
      subst hjp
      have hpd:codesOf t++List.replicate j 0=padTo4 (codesOf t):=by rw [padTo4,hpad]
      rw [hpd]
      rw [hpd] at hlj
      refine XS.nil (XS.cons (EX.assignN n2 ?_))
      refine EV.list (EL.nil (leAnd rfl ?_))
      intro wl
      refine XS.cons (EX.forRs hr'.handled ?_)
      refine EV.call (EV.glbN g_range (EL.cons (EV.int (EL.cons (EV.call (EV.glbN g_len (EL.cons (EV.locN n1 rfl (EL.nil (kpAnd .blt ?_))))))))))
      refine CL.len m_1 (by rw [hlj]; exact hj5) ?_
      refine EL.cons (EV.int (EL.nil (kpAnd .typ ?_)))
      have hmod:=padTo4_mod (codesOf t)
      obtain ⟨q,hq4⟩:∃ q,(padTo4 (codesOf t)).length=4 * q:=⟨(padTo4 (codesOf t)).length / 4,by lia⟩
      rw [List.length_map] at hlj
      rw [List.length_map,hq4]
      have hqs:=q30 hz (pad_lt hpad) (hq4.symm.trans hlj)
      have h62:=l62 hq4 hqs
      refine CL.range3 (by decide) (PyProof.noPylong_small (by simp +arith)) fun r=>?_
      refine ⟨r,0,_,4,_,rfl,.head,small4 hqs,q,size4 q,fun i H' vs'=>H'=(wl,.list (((List.range i).map (swAt (padTo4 (codesOf t)))).map .int))::(acc,.list ((padTo4 (codesOf t)).map .int))::H/\∃ y,vs'=[some (.str t),some (.ref acc),some (.ref wl),y],⟨rfl,none,rfl⟩,?_,?_⟩
      ·rintro it2 i H₃ vs₃ N hN hi ⟨rfl,y3,rfl⟩
       refine AS.locN n3 ?_
       rw [z4 i]
       refine XS.cons (EX.expr (EV.meth (EV.locN n2 rfl (GM.listN m_1 (EL.cons (EV.bin (EV.bin (EV.bin (EV.sub (EV.locN n1 rfl (EV.locN n3 rfl ?_)))))))))))
       have hc:∀ {u v:Addr×AObj},(acc,AObj.list ((padTo4 (codesOf t)).map V.int))∈u::v::(acc,AObj.list ((padTo4 (codesOf t)).map V.int))::H:=m_2
       refine GI.getD hc rfl (lt4 hq4 hi 0 (by decide)) h62 ?_
       refine EV.bin (EV.sub (EV.locN n1 rfl (EV.bin (EV.locN n3 rfl (EV.int ?_)))))
       refine ⟨_,.add,?_⟩
       refine GI.getD (j:=4 * i+1) hc rfl (lt4 hq4 hi 1 (by decide)) h62 ?_
       refine EV.int ?_
       refine ⟨_,.mul (mulOk (by decide)),?_⟩
       refine ⟨_,.add,?_⟩
       refine EV.bin (EV.sub (EV.locN n1 rfl (EV.bin (EV.locN n3 rfl (EV.int ?_)))))
       refine ⟨_,.add,?_⟩
       refine GI.getD (j:=4 * i+2) hc rfl (lt4 hq4 hi 2 (by decide)) h62 ?_
       refine EV.int ?_
       refine ⟨_,.mul (mulOk (by decide)),?_⟩
       refine ⟨_,.add,?_⟩
       refine EV.bin (EV.sub (EV.locN n1 rfl (EV.bin (EV.locN n3 rfl (EV.int ?_)))))
       refine ⟨_,.add,?_⟩
       refine GI.getD (j:=4 * i+3) hc rfl (lt4 hq4 hi 3 (by decide)) h62 ?_
       refine EV.int ?_
       refine ⟨_,.mul (mulOk (by decide)),?_⟩
       refine ⟨_,.add,?_⟩
       refine EL.nil (kpAnd .blt ?_)
       refine CL.append .at1 ?_ ?_
       ·simp only [List.length_map,List.length_range]; exact lin (Nat.add_le_add hi (Nat.add_le_add (Nat.le_of_eq hq4.symm) (Nat.add_le_add (Nat.le_of_eq hlj) hj5))) (by simp +arith)
       refine ⟨trivial,?_⟩
       refine XS.nil ?_
       refine hN ⟨_,.at1,?_,_,rfl⟩
       rw [List.range_succ,List.map_append,List.map_append]
       rfl
      ·rintro H₃ vs₃ ⟨rfl,y3,rfl⟩
       refine XS.nil (XS.cons (EX.ret (EV.locN n2 rfl ?_)))
       refine ⟨_,.cons .at1 (.refl _),?_⟩
       have e:=hq wl
       unfold sw swList at e
       rw [hq4,Nat.mul_div_cancel_left _ (by decide)] at e
       exact e
  ·decide
  ·decide
end
end Mine
end
section
set_option maxHeartbeats 4000000
namespace Mine
structure Rec where
 a:Addr
 d:TyD
 base:Option Nat
 ch:List Nat
 ps:List Int
structure RecOk (D:Wd) (ad:Ads) (W:HL) (k:Nat) (recs:List Rec) (i:Nat) (r:Rec):Prop where
 mem:(r.a,.inst ad.cType r.d.at)∈W
 base:(r.base=none/\r.d.base=.none/\r.ch=[i])\/∃ j b,r.base=some j/\recs[j]?=some b/\j < i/\r.d.base=.ref b.a/\r.ch=b.ch++[i]
 len:r.ch.length<=4
 po:PO D ad W k r.a r.ps
 lp:LP D ad W k r.a r.ps
 mod:r.d.module="M"\/r.d.module="N"
 small:r.ps.length<=2 ^ 16
structure RecsOk (D:Wd) (ad:Ads) (W:HL) (k:Nat) (recs:List Rec):Prop where
 ok:∀ i r,recs[i]?=some r->RecOk D ad W k recs i r
 adr:(recs.map (·.a)).Nodup
 num:(recs.map (·.d.number)).Nodup
 count:recs.length<=7
noncomputable def ra (recs:List Rec) (j:Nat):V:=.ref ((recs[j]?.map (·.a)).getD 0)
theorem ra_of {recs:List Rec} {j:Nat} {r:Rec} (h:recs[j]?=some r):ra recs j=.ref r.a:=by simp [ra,h]
section
variable {D:Wd} {ad:Ads} {A:Around} {H R W:HL} {kk:Nat} {recs:List Rec}
theorem RecOk.last {i:Nat} {r:Rec} (h:RecOk D ad W kk recs i r):∃ pre,r.ch=pre++[i]:=by
 rcases h.base with ⟨_,_,e⟩ | ⟨_,b,_,_,_,_,e⟩
 ·exact ⟨[],e⟩
 ·exact ⟨b.ch,e⟩
theorem base_chain_ok (kf:KF D ad) {k:Nat} (hr:Rm (k+1) A) (hR:RecsOk D ad W kk recs) {i:Nat} {r:Rec} (hi:recs[i]?=some r) {Q:V->HL->Prop} (hW:∀ q∈W,q∈H) (hq:∀ l,Q (.ref l) ((l,.list (r.ch.map (ra recs)))::H)) :
  CL D A (.ref ad.base_chain) [.ref r.a] H Q:=by
 refine CL.fnK (k:=k) (ps:=["record"]) (os:=["chain"]) kf.base_chain hr (fun doc pm cdv ct an ws h=>?_) rfl (by rfl) (by decide) (by rfl) fun fm env A' hns hsc hr'=>?_
 ·revert ws h; refine bl1 ?_; intros; rfl
 ·
  have n0:=lN hsc hns "record" 0
  have n1:=lN hsc hns "chain" 1
  refine XS.cons (EX.assignN n1 (EV.list (EL.cons (EV.locN n0 rfl (EL.nil (leAnd rfl ?_))))))
  intro lc
  refine XS.cons ?_
  have h4:sizeLine=16777216:=by decide
  have len:=(hR.ok i r hi).len
  refine EX.while_ (fun n H₁ vs₁=>∃ j b pre tl,n=j/\recs[j]?=some b/\b.ch=pre++[j]/\r.ch=pre++j::tl/\H₁=(lc,.list ((j::tl).map (ra recs)))::H/\vs₁=[some (.ref r.a),some (.ref lc)]) ⟨i,?_⟩ ?_
  ·obtain ⟨pre,e⟩:=(hR.ok i r hi).last
   exact ⟨i,r,pre,[],rfl,hi,e,e,by simp [ra_of hi],rfl⟩
  rintro n H₁ vs₁ ⟨j,b,pre,tl,rfl,hj,hb,hch,rfl,rfl⟩
  have B:=hR.ok n b hj
  have mB:(b.a,.inst ad.cType b.d.at)∈H:=hW _ B.mem
  have hg:((n::tl).map (ra recs))[(0:Int).toNat]?=some (.ref b.a):=by simp [ra_of hj]
  have hlen2:pre.length+(tl.length+1)<=4:=by rw [hch] at len; simpa using len
  refine EB.cmp ?_
  refine EV.attr (EV.sub (EV.locN n1 rfl (EV.int ?_)))
  refine GI.list (.head _) (by decide) (by decide) hg ?_
  rcases B.base with ⟨e1,e2,e3⟩ | ⟨j',b',e1,e2,e3,e4,e5⟩
  ·refine GA.ty kf (.tail _ mB) (hv:=by rw [e2]; rfl) (hq:=?_)
   rw [e2]
   refine EV.cnone (CP.of .notN ⟨_,.bool _,?_⟩)
   refine ⟨fun h=>Bool.noConfusion h,fun _=>?_⟩
   refine XS.nil (XS.cons (EX.ret (EV.locN n1 rfl ?_)))
   have:pre=[]:=by
    rw [e3] at hb
    cases pre with
    | nil=>rfl
    | cons p q=>simp at hb
   subst this
   have:=hq lc
   rw [hch] at this
   exact this
  ·refine GA.ty kf (.tail _ mB) (hv:=by rw [e4]; rfl) (hq:=?_)
   rw [e4]
   refine EV.cnone (CP.of .notRN ⟨_,.bool _,?_⟩)
   refine ⟨fun _=>?_,fun h=>Bool.noConfusion h⟩
   refine XS.cons (EX.expr (EV.meth (EV.locN n1 rfl (GM.listN m_0 (EL.cons (EV.int (EL.cons (EV.attr (EV.sub (EV.locN n1 rfl (EV.int ?_)))))))))))
   refine GI.list (.head _) (by decide) (by decide) hg ?_
   refine GA.ty kf (.tail _ mB) (hv:=by rw [e4]; rfl) (hq:=?_)
   rw [e4]
   refine EL.nil (kpAnd .blt ?_)
   refine CL.insert0 .head (by simp; exact lin (Nat.add_le_add hlen2 (Nat.le_of_eq h4.symm)) (by simp +arith)) ?_
   refine ⟨trivial,?_⟩
   refine XS.nil ?_
   have hpre:b'.ch=pre:=by
    have:=e5.symm.trans hb
    exact List.append_inj_left' this rfl
   obtain ⟨pre',e6⟩:=(hR.ok j' b' e2).last
   exact ⟨j',e3,j',b',pre',n::tl,rfl,e2,e6,by rw [hch,<- hpre,e6]; simp,by simp [ra_of e2],rfl⟩
end
end Mine
end
section
set_option maxHeartbeats 4000000
namespace Mine
theorem dget_map {α:Type} [DecidableEq α] (k:α) (l:List (α×Int)):dget k (l.map fun p=>(p.1,V.int p.2))=((l.find? fun p=>p.1=k).map fun p=>V.int p.2):=by
 unfold dget; rw [List.find?_map]; simp [Function.comp_def]
theorem dput_new {α:Type} [DecidableEq α] (k:α) (v:Int) (l:List (α×Int)) (h:(l.find? fun p=>p.1=k)=none):dput k (.int v) (l.map fun p=>(p.1,V.int p.2))=(l++[(k,v)]).map fun p=>(p.1,V.int p.2):=by
 have:((l.map fun p=>(p.1,V.int p.2)).any fun kv=>decide (kv.1=k))=false:=by
  rw [List.find?_eq_none] at h
  rw [List.any_eq_false]
  intro x hx
  obtain ⟨p,hp,rfl⟩:=List.mem_map.mp hx
  exact h p hp
 unfold dput
 rw [this]
 simp
noncomputable def DS.place (st:DS) (n:Int):Option Int:=(st.descs.find? fun p=>p.1=n).map (·.2)
noncomputable def DS.tplace (st:DS) (t:Str):Option Int:=(st.texts.find? fun p=>p.1=t).map (·.2)
theorem DS.place_dget (st:DS) (n:Int):dget n (st.descs.map fun p=>(p.1,V.int p.2))=(st.place n).map .int:=by
 rw [dget_map]; unfold DS.place; cases st.descs.find? fun p=>p.1=n <;> rfl
theorem DS.tplace_dget (st:DS) (t:Str):dget t (st.texts.map fun p=>(p.1,V.int p.2))=(st.tplace t).map .int:=by
 rw [dget_map]; unfold DS.tplace; cases st.texts.find? fun p=>p.1=t <;> rfl
noncomputable def refSt (b:Rec) (st:DS):DS:=
 if b.d.module="M" then { (st.push ((st.place b.d.number).getD 0)) with fix:=st.fix++[(st.size,0,0)] }
 else { (st.push 0) with fix:=st.fix++[(st.size,1,b.d.exno)],imp:=true }
structure ImpOk (D:Wd) (ad:Ads) (z:DaA) (k:Nat) (W:HL):Prop where
 fn:∃ o fd,(z.imp,AObj.raw o)∈W/\o.data=.func fd
 call:∀ (A:Around) (H R:HL) (st:DS) (Q:V->HL->Prop),Rm k A->(∀ q∈W,q∈R)->DaH ad z st H R->(∀ H',DaH ad z { st with imp:=true } H' R->Q (.int 1) H')->CL D A (.ref z.imp) [.str "N"] H Q
section
variable {D:Wd} {fm:Fm} {env:Env} {vs:List (Option V)} {ad:Ads} {A:Around} {H R W:HL} {kk:Nat} {recs:List Rec} {z:DaA}
theorem EL.perm {es:List Expr} {H':HL} {Q:List V->HL->Prop} (p:H.Perm H') (h:EL D fm A env es H' vs Q):EL D fm A env es H vs Q:=⟨fun he T s I=>h.run he T s (I.perm p)⟩
theorem DaH.of {st:DS} {e1 e2:Nat}:DaH ad z st (daE ad z st st.size e1 e2++R) R:=⟨e1,e2,.refl _⟩
theorem add_reference_ok (kf:KF D ad) {k:Nat} (hr:Rm (k+2) A) (hI:ImpOk D ad z (k+1) W) (hW:∀ q∈W,q∈R) {b:Rec} {st:DS} {Q:V->HL->Prop} (mb:(b.a,.inst ad.cType b.d.at)∈R) (hm:b.d.module="M"\/b.d.module="N")
  (hp:b.d.module="M"->∃ x,st.place b.d.number=some x) (h:DaH ad z st H R) (hz:st.mem.length<=2 ^ 23) (hf:st.fix.length<=2 ^ 23) (hq:∀ H',DaH ad z (refSt b st) H' R->Q .none H') :
  CL D A (.ref ad.da_add_reference) [.ref z.da,.ref b.a] H Q:=by
 obtain ⟨e1,e2,p⟩:=h
 refine CL.perm p (CL.fnK (k:=k+1) (ps:=["self","record"]) (os:=["offset"]) kf.da_add_reference hr (fun doc pm cdv ct an ws h=>?_) rfl (by rfl) (by decide) (by rfl) fun fm env A' hns hsc hr'=>?_)
 ·revert ws h; refine bl2 ?_; intros; rfl
 ·
  have n0:=lN hsc hns "self" 0
  have n1:=lN hsc hns "record" 1
  have n2:=lN hsc hns "offset" 2
  have kp1:KpA D (.ref ad.da_add_word):=.of kf.da_add_word.keep
  have h4:sizeLine=16777216:=by decide
  unfold daE
  have mb':(b.a,AObj.inst ad.cType b.d.at)∈daE ad z st st.size e1 e2++R:=List.mem_append_right _ mb
  refine XS.cons (EX.ifs (EB.cmp (EV.attr (EV.locN n1 rfl (GA.ty kf mb' (hq:=EV.attr (EV.locN n0 rfl (GA.da kf (.head _) (hq:=?_)))))))))
  refine CP.of .eqS ⟨_,.bool _,?_⟩
  refine ⟨fun hb=>?_,fun hb=>?_⟩
  ·have hM:b.d.module="M":=by simpa using hb
   obtain ⟨x,hx⟩:=hp hM
   refine XS.cons (EX.assignN n2 (EV.meth (EV.locN n0 rfl (GM.da kf m_0 (EL.cons (EV.sub (EV.attr (EV.locN n0 rfl (GA.da kf m_0 (hq:=EV.attr (EV.locN n1 rfl (GA.ty kf mb' (hq:=?_)))))))))))))
   refine GI.dictI (x:=.int x) m_4 (by rw [DS.place_dget,hx]; rfl) ?_
   refine EL.nil (kpAnd kp1.at ?_)
   refine add_word_ok kf (k:=k) hr' (st:=st) DaH.of hz fun H' hH'=>?_
   obtain ⟨e1',e2',p'⟩:=hH'
   refine XS.perm p' ?_
   unfold daE
   refine XS.cons (EX.expr (EV.meth (EV.attr (EV.locN n0 rfl (GA.da kf m_0 (hq:=GM.listN m_2 (EL.cons (EV.tuple (EL.cons (EV.locN n2 rfl (EL.cons (EV.int (EL.cons (EV.int (EL.nil (leAnd rfl (EL.nil (kpAnd .blt ?_))))))))))))))))))
   refine CL.append .at2 (by rw [List.length_map]; show st.fix.length<=_; exact lin (Nat.add_le_add hf (Nat.le_of_eq h4.symm)) (by simp +arith)) ?_
   refine ⟨trivial,?_⟩
   refine XS.nil (XS.nil ?_)
   refine hq _ ⟨e1',e2',?_⟩
   have er:refSt b st={ (st.push x) with fix:=st.fix++[(st.size,0,0)] }:=by unfold refSt; rw [if_pos hM,hx]; rfl
   rw [er]
   have ef:(st.fix++[(st.size,(0:Int),(0:Int))]).map tup3=st.fix.map tup3++[.tup [.int st.size,.int 0,.int 0]]:=by simp [tup3]
   show List.Perm _ ((z.da,_)::(z.wl,_)::(z.fl,AObj.list ((st.fix++[(st.size,(0:Int),(0:Int))]).map tup3))::_)
   rw [ef]
   exact Ext.pc .at1 (Ext.pc .at1 (.refl _))
  ·have hM:b.d.module≠"M":=by simpa using hb
   have hN:b.d.module="N":=hm.resolve_left hM
   refine XS.cons (EX.assignN n2 (EV.meth (EV.locN n0 rfl (GM.da kf m_0 (EL.cons (EV.int (EL.nil (kpAnd kp1.at ?_))))))))
   refine add_word_ok kf (k:=k) hr' (st:=st) DaH.of hz fun H' hH'=>?_
   obtain ⟨e1',e2',p'⟩:=hH'
   refine XS.perm p' ?_
   unfold daE
   refine XS.cons (EX.expr (EV.meth (EV.attr (EV.locN n0 rfl (GA.da kf m_0 (hq:=GM.listN m_2 (EL.cons (EV.tuple (EL.cons (EV.locN n2 rfl (EL.cons (EV.meth (EV.locN n0 rfl ?_)))))))))))))
   refine GM.attr (.head _) (kf.daAttr _ (by decide)) kf.daHook kf.daNoHook (x:=.ref z.imp) (by rfl) (by rfl) ?_
   have mb2:(b.a,AObj.inst ad.cType b.d.at)∈daE ad z (st.push 0) (st.push 0).size e1' e2'++R:=List.mem_append_right _ mb
   refine EL.cons (EV.attr (EV.locN n1 rfl (GA.ty kf mb2 (hq:=EL.nil ?_))))
   obtain ⟨o,fd,mo,ho⟩:=hI.fn
   refine ⟨.fn (List.mem_append_right _ (hW _ mo)) ho,?_⟩
   rw [hN]
   refine hI.call A' _ R (st.push 0) _ hr' hW DaH.of fun H2 hH2=>?_
   obtain ⟨e1'',e2'',p2⟩:=hH2
   refine EL.perm p2 ?_
   have mb3:(b.a,AObj.inst ad.cType b.d.at)∈daE ad z { st.push 0 with imp:=true } (DS.size { st.push 0 with imp:=true }) e1'' e2''++R:=List.mem_append_right _ mb
   refine EL.cons (EV.attr (EV.locN n1 rfl (GA.ty kf mb3 (hq:=EL.nil ?_))))
   unfold daE
   refine leAnd rfl (EL.nil (kpAnd .blt ?_))
   refine CL.append .at2 (by rw [List.length_map]; show st.fix.length<=_; exact lin (Nat.add_le_add hf (Nat.le_of_eq h4.symm)) (by simp +arith)) ?_
   refine ⟨trivial,?_⟩
   refine XS.nil (XS.nil ?_)
   refine hq _ ⟨e1'',e2'',?_⟩
   have er:refSt b st={ (st.push 0) with fix:=st.fix++[(st.size,1,b.d.exno)],imp:=true }:=by unfold refSt; rw [if_neg hM]
   rw [er]
   have ef:(st.fix++[(st.size,(1:Int),b.d.exno)]).map tup3=st.fix.map tup3++[.tup [.int st.size,.int 1,.int b.d.exno]]:=by simp [tup3]
   show List.Perm _ ((z.da,_)::(z.wl,_)::(z.fl,AObj.list ((st.fix++[(st.size,(1:Int),b.d.exno)]).map tup3))::_)
   rw [ef]
   exact Ext.pc .at1 (Ext.pc .at1 (.refl _))
end
end Mine
end
section
set_option maxHeartbeats 4000000
namespace Mine
noncomputable instance:Inhabited TyD:=⟨⟨0,default,0,.none,0,0,0,0,default,default,0,0⟩⟩
noncomputable instance:Inhabited Rec:=⟨⟨0,default,none,[],[]⟩⟩
noncomputable def rc (recs:List Rec) (j:Nat):Rec:=(recs[j]?).getD default
theorem rc_of {recs:List Rec} {j:Nat} {r:Rec} (h:recs[j]?=some r):rc recs j=r:=by simp [rc,h]
noncomputable def lvl (recs:List Rec) (ch:List Nat) (st:DS) (m:Nat):DS:=match ch[m]? with
 | some j=>refSt (rc recs j) st
 | none=>st.push 0
noncomputable def st2 (r:Rec) (st:DS):DS:={ (st.push r.d.size) with descs:=st.descs++[(r.d.number,st.size)] }
noncomputable def lvls (recs:List Rec) (ch:List Nat) (st:DS) (m:Nat):DS:=(List.range m).foldl (lvl recs ch) st
noncomputable def stepD (recs:List Rec) (i:Nat) (st:DS):DS:=((rc recs i).ps.foldl DS.push (lvls recs (rc recs i).ch (st2 (rc recs i) st) 4)).push 4294967295
inductive Run (recs:List Rec):DS->List Nat->DS->Prop where
 | nil {st:DS}:Run recs st [] st
 | snoc {st st':DS} {l:List Nat} {i:Nat}:Run recs st l st'->st'.place (rc recs i).d.number=none->(∀ j∈(rc recs i).ch,j≠i->(rc recs j).d.module="M"->(st'.place (rc recs j).d.number).isSome)->
   Run recs st (l++[i]) (stepD recs i st')
theorem Run.trans {recs:List Rec} {a b c:DS} {l m:List Nat} (h:Run recs a l b) (h':Run recs b m c):Run recs a (l++m) c:=by
 induction h' with
 | nil=>simpa using h
 | snoc _ p q ih=>rw [<- List.append_assoc]; exact .snoc ih p q
theorem refSt_descs (b:Rec) (st:DS):(refSt b st).descs=st.descs:=by unfold refSt; split <;> rfl
theorem refSt_len (b:Rec) (st:DS):(refSt b st).mem.length=st.mem.length+1/\(refSt b st).fix.length=st.fix.length+1:=by
 unfold refSt; split <;> simp [DS.push]
theorem lvl_descs (recs:List Rec) (ch:List Nat) (st:DS) (m:Nat):(lvl recs ch st m).descs=st.descs:=by
 unfold lvl; split
 ·exact refSt_descs _ _
 ·rfl
theorem lvl_len (recs:List Rec) (ch:List Nat) (st:DS) (m:Nat):(lvl recs ch st m).mem.length=st.mem.length+1/\(lvl recs ch st m).fix.length<=st.fix.length+1:=by
 unfold lvl; split
 ·exact ⟨(refSt_len _ _).1,Nat.le_of_eq (refSt_len _ _).2⟩
 ·simp [DS.push]
theorem lvls_succ (recs:List Rec) (ch:List Nat) (st:DS) (m:Nat):lvls recs ch st (m+1)=lvl recs ch (lvls recs ch st m) m:=by
 unfold lvls; rw [List.range_succ,List.foldl_append]; rfl
theorem lvls_descs (recs:List Rec) (ch:List Nat) (st:DS) (m:Nat):(lvls recs ch st m).descs=st.descs:=by
 induction m with
 | zero=>rfl
 | succ m ih=>rw [lvls_succ,lvl_descs,ih]
theorem lvls_len (recs:List Rec) (ch:List Nat) (st:DS) (m:Nat):(lvls recs ch st m).mem.length=st.mem.length+m/\(lvls recs ch st m).fix.length<=st.fix.length+m:=by
 induction m with
 | zero=>exact ⟨rfl,Nat.le_refl _⟩
 | succ m ih=>rw [lvls_succ]; have:=lvl_len recs ch (lvls recs ch st m) m; exact ⟨linE (Nat.add_le_add (Nat.le_of_eq this.1) (Nat.le_of_eq ih.1)) (by simp +arith) (Nat.add_le_add (Nat.le_of_eq ih.1.symm) (Nat.le_of_eq this.1.symm)) (by simp +arith),lin (Nat.add_le_add this.2 ih.2) (by simp +arith)⟩
theorem pushes (l:List Int):∀ st:DS,l.foldl DS.push st={ st with mem:=st.mem++l }:=by
 induction l with
 | nil=>intro st; simp
 | cons x l ih=>intro st; rw [List.foldl_cons,ih]; simp [DS.push]
theorem stepD_descs (recs:List Rec) (i:Nat) (st:DS):(stepD recs i st).descs=st.descs++[((rc recs i).d.number,st.size)]:=by
 unfold stepD; rw [pushes]; show (lvls recs _ _ 4).descs=_; rw [lvls_descs]; rfl
theorem stepD_len (recs:List Rec) (i:Nat) (st:DS):(stepD recs i st).mem.length=st.mem.length+((rc recs i).ps.length+6)/\(stepD recs i st).fix.length<=st.fix.length+4:=by
 unfold stepD; rw [pushes]
 have:=lvls_len recs (rc recs i).ch (st2 (rc recs i) st) 4
 simp only [st2,DS.push,List.length_append,List.length_cons,List.length_nil] at this ⊢
 exact ⟨linE (Nat.le_of_eq this.1) (by simp +arith only) (Nat.le_of_eq this.1.symm) (by simp +arith only),lin this.2 (by simp +arith only)⟩
theorem Run.descs {recs:List Rec} {st st':DS} {l:List Nat} (h:Run recs st l st'):∃ ds,st'.descs=st.descs++ds/\ds.map (·.1)=l.map fun i=>(rc recs i).d.number:=by
 induction h with
 | nil=>exact ⟨[],by simp,rfl⟩
 | @snoc st₁ l i _ _ _ ih=>
  obtain ⟨ds,e1,e2⟩:=ih
  refine ⟨ds++[((rc recs i).d.number,st₁.size)],?_,?_⟩
  ·rw [stepD_descs,e1,List.append_assoc]
  ·simp [e2]
theorem place_app {st st':DS} {ds:List (Int×Int)} {n:Int} (e:st'.descs=st.descs++ds):st'.place n=(st.place n).or ((ds.find? fun p=>p.1=n).map (·.2)):=by
 unfold DS.place; rw [e,List.find?_append]; cases st.descs.find? _ <;> rfl
theorem Run.some {recs:List Rec} {st st':DS} {l:List Nat} {n x:Int} (h:Run recs st l st') (hx:st.place n=some x):st'.place n=some x:=by
 obtain ⟨ds,e,_⟩:=h.descs
 rw [place_app e,hx]; rfl
theorem Run.none {recs:List Rec} {st st':DS} {l:List Nat} {n:Int} (h:Run recs st l st') (hx:st.place n=Option.none) (hn:∀ i∈l,(rc recs i).d.number≠n):st'.place n=Option.none:=by
 obtain ⟨ds,e,e2⟩:=h.descs
 rw [place_app e,hx]
 have:ds.find? (fun p=>decide (p.1=n))=Option.none:=by
  rw [List.find?_eq_none]
  intro p hp
  have:p.1∈ds.map (·.1):=List.mem_map_of_mem hp
  rw [e2] at this
  obtain ⟨i,hi,e3⟩:=List.mem_map.mp this
  simpa [<- e3] using hn i hi
 rw [this]; rfl
theorem stepD_place (recs:List Rec) (i:Nat) (st:DS) (h:st.place (rc recs i).d.number=Option.none):(stepD recs i st).place (rc recs i).d.number=Option.some st.size:=by
 rw [place_app (stepD_descs recs i st),h]; simp
section
variable {D:Wd} {ad:Ads} {W:HL} {kk:Nat} {recs:List Rec}
theorem RecsOk.prefix (hR:RecsOk D ad W kk recs):∀ (i:Nat) (r:Rec),recs[i]?=some r->∀ j∈r.ch,j<=i/\∃ b,recs[j]?=some b/\b.ch <+: r.ch:=by
 intro i
 induction i using Nat.strongRecOn with
 | ind i ih=>
  intro r hi j hj
  rcases (hR.ok i r hi).base with ⟨_,_,e⟩ | ⟨j',b,_,e2,e3,_,e5⟩
  ·rw [e] at hj
   cases List.mem_singleton.mp hj
   exact ⟨Nat.le_refl _,r,hi,List.prefix_refl _⟩
  ·rw [e5] at hj
   rcases List.mem_append.mp hj with hj | hj
   ·obtain ⟨h1,b',h2,h3⟩:=ih j' e3 b e2 j hj
    exact ⟨by exact lin (Nat.add_le_add h1 e3) (by simp +arith),b',h2,h3.trans (by rw [e5]; exact List.prefix_append ..)⟩
   ·cases List.mem_singleton.mp hj
    exact ⟨Nat.le_refl _,r,hi,List.prefix_refl _⟩
end
end Mine
end
section
set_option maxHeartbeats 4000000
namespace Mine
noncomputable def un (recs:List Rec) (st:DS):Nat:=((List.range 7).filter fun j=>(st.place (rc recs j).d.number).isNone).length
noncomputable def Bud (recs:List Rec) (st:DS):Prop:=st.mem.length+2 ^ 17 * un recs st<=2 ^ 22/\st.fix.length+4 * un recs st<=2 ^ 22/\st.descs.length+un recs st<=2 ^ 20
theorem filter_lt {α:Type} {p p':α->Bool} (l:List α) (h1:∀ x∈l,p' x=true->p x=true) (h2:∃ x∈l,p x=true/\p' x=false):(l.filter p').length+1<=(l.filter p).length:=by
 have e:l.filter p'=(l.filter p).filter p':=by
  rw [List.filter_filter]
  exact List.filter_congr fun x hx=>by
   cases hp:p' x with
   | false=>rfl
   | true=>exact (h1 x hx hp).symm
 obtain ⟨x,hx,a,b⟩:=h2
 rw [e]
 exact List.length_filter_lt_length_iff_exists.mpr ⟨x,List.mem_filter.mpr ⟨hx,a⟩,by rw [b]; decide⟩
theorem un_step {recs:List Rec} {i:Nat} {st:DS} (hi:i < 7) (h:st.place (rc recs i).d.number=none):un recs (stepD recs i st)+1<=un recs st:=by
 unfold un
 refine filter_lt _ (fun j _ hj=>?_) ⟨i,List.mem_range.mpr hi,by simp [h],by rw [stepD_place recs i st h]; rfl⟩
 rw [place_app (stepD_descs recs i st)] at hj
 cases hp:st.place (rc recs j).d.number with
 | none=>rfl
 | some x=>rw [hp] at hj; cases hj
theorem Bud.step {recs:List Rec} {i:Nat} {st:DS} (b:Bud recs st) (hi:i < 7) (h:st.place (rc recs i).d.number=none) (hz:(rc recs i).ps.length+6<=2 ^ 17):Bud recs (stepD recs i st):=by
 have h1:=un_step hi h
 have h2:=stepD_len recs i st
 have h3:(stepD recs i st).descs.length=st.descs.length+1:=by rw [stepD_descs]; simp
 unfold Bud at b ⊢
 exact ⟨lin (Nat.add_le_add (Nat.le_of_eq h2.1) (Nat.add_le_add (Nat.mul_le_mul_left 131072 h1) (Nat.add_le_add b.1 hz))) (by simp +arith),⟨lin (Nat.add_le_add h2.2 (Nat.add_le_add (Nat.mul_le_mul_left 4 h1) b.2.1)) (by simp +arith),lin (Nat.add_le_add (Nat.le_of_eq h3) (Nat.add_le_add h1 b.2.2)) (by simp +arith)⟩⟩
theorem Bud.run {recs:List Rec} {st st':DS} {l:List Nat} (b:Bud recs st) (h:Run recs st l st') (hl:∀ i∈l,i < 7/\(rc recs i).ps.length+6<=2 ^ 17):Bud recs st':=by
 induction h with
 | nil=>exact b
 | @snoc st₁ l i _ hn _ ih=>
  have:=hl i (by simp)
  exact (ih fun j hj=>hl j (List.mem_append_left _ hj)).step this.1 hn this.2
section
variable {D:Wd} {ad:Ads} {A:Around} {H R W:HL} {kk:Nat} {recs:List Rec} {z:DaA}
noncomputable def OwnOk (D:Wd) (ad:Ads) (z:DaA) (W:HL) (recs:List Rec) (k i:Nat):Prop:=∀ (A:Around) (H R:HL) (st:DS) (Q:V->HL->Prop),Rm k A->(∀ q∈W,q∈R)->DaH ad z st H R->Bud recs st->
 (∀ l st' p H',Run recs st l st'->(∀ j∈l,j∈(rc recs i).ch/\(rc recs j).d.module="M")->st'.place (rc recs i).d.number=some p->(st.place (rc recs i).d.number=some p->l=[])->DaH ad z st' H' R->Q (.int p) H')->
 CL D A (.ref ad.da_own_descriptor) [.ref z.da,.ref (rc recs i).a] H Q
noncomputable def MakeOk (D:Wd) (ad:Ads) (z:DaA) (W:HL) (recs:List Rec) (k i:Nat):Prop:=∀ (A:Around) (H R:HL) (st:DS) (Q:V->HL->Prop),Rm k A->(∀ q∈W,q∈R)->DaH ad z st H R->Bud recs st->st.place (rc recs i).d.number=none->
 (∀ l st' H',Run recs st l st'->(∀ j∈l,j∈(rc recs i).ch/\(rc recs j).d.module="M")->(st'.place (rc recs i).d.number).isSome->DaH ad z st' H' R->Q .none H')->
 CL D A (.ref ad.da_make_descriptor) [.ref z.da,.ref (rc recs i).a] H Q
theorem own_of_make (kf:KF D ad) {k i:Nat} (hR:RecsOk D ad W kk recs) {r:Rec} (hi:recs[i]?=some r) (hm:MakeOk D ad z W recs k i):OwnOk D ad z W recs (k+1) i:=fun A H R st Q hr hW h hb hq=>by
 obtain ⟨e1,e2,p⟩:=h
 have er:=rc_of hi
 subst er
 refine CL.perm p (CL.fnK (k:=k) (ps:=["self","record"]) (os:=[]) kf.da_own_descriptor hr (fun doc pm cdv ct an ws h=>?_) rfl (by rfl) (by decide) (by rfl) fun fm env A' hns hsc hr'=>?_)
 ·revert ws h; refine bl2 ?_; intros; rfl
 ·
  have n0:=lN hsc hns "self" 0
  have n1:=lN hsc hns "record" 1
  have kp1:KpA D (.ref ad.da_make_descriptor):=.of kf.da_make_descriptor.keep
  have mr:=(hR.ok i _ hi).mem
  unfold daE
  have mb':((rc recs i).a,AObj.inst ad.cType (rc recs i).d.at)∈daE ad z st st.size e1 e2++R:=List.mem_append_right _ (hW _ mr)
  refine XS.cons (EX.mono (Q:=fun fl H' vs'=>fl=.next/\vs'=[some (.ref z.da),some (.ref (rc recs i).a)]/\∃ l st' p,Run recs st l st'/\(∀ j∈l,j∈(rc recs i).ch/\(rc recs j).d.module="M")/\st'.place (rc recs i).d.number=some p/\(st.place (rc recs i).d.number=some p->l=[])/\DaH ad z st' H' R) (EX.ifs ?_) ?_)
  ·refine EB.cmp ?_
   refine EV.attr (EV.locN n1 rfl (GA.ty kf mb' (hq:=EV.attr (EV.locN n0 rfl (GA.da kf m_0 (hq:=?_))))))
   refine CP.notIn (CP.inI m_4 ?_)
   refine ⟨_,rfl,_,.bool _,?_⟩
   rw [DS.place_dget]
   refine ⟨fun h=>?_,fun h=>?_⟩
   ·have hn:st.place (rc recs i).d.number=none:=by cases hp:st.place (rc recs i).d.number with | none=>rfl | some x=>rw [hp] at h; simp at h
    refine XS.cons (EX.expr (EV.meth (EV.locN n0 rfl (GM.da kf m_0 (EL.cons (EV.locN n1 rfl (EL.nil (kpAnd kp1.at ?_))))))))
    refine hm A' _ R st _ hr' hW DaH.of hb hn fun l st' H' h1 h2 h3 h4=>?_
    obtain ⟨x,hx⟩:=Option.isSome_iff_exists.mp h3
    refine ⟨trivial,?_⟩
    refine XS.nil ?_
    exact ⟨rfl,rfl,l,st',x,h1,h2,hx,fun e=>by (rw [hn] at e; cases e),h4⟩
   ·have hn:∃ x,st.place (rc recs i).d.number=some x:=by cases hp:st.place (rc recs i).d.number with | none=>rw [hp] at h; simp at h | some x=>exact ⟨x,rfl⟩
    obtain ⟨x,hx⟩:=hn
    refine XS.nil ?_
    exact ⟨rfl,rfl,[],st,x,.nil,by simp,hx,fun _=>rfl,DaH.of⟩
  ·rintro fl H' vs' ⟨rfl,rfl,l,st',x,h1,h2,h3,h4,e1',e2',p'⟩
   refine XS.perm p' ?_
   unfold daE
   have mb2:((rc recs i).a,AObj.inst ad.cType (rc recs i).d.at)∈daE ad z st' st'.size e1' e2'++R:=List.mem_append_right _ (hW _ mr)
   refine XS.cons (EX.ret (EV.sub (EV.attr (EV.locN n0 rfl (GA.da kf m_0 (hq:=EV.attr (EV.locN n1 rfl (GA.ty kf mb2 (hq:=?_)))))))))
   refine GI.dictI (x:=.int x) m_4 (by rw [DS.place_dget,h3]; rfl) ?_
   exact hq l st' x _ h1 h2 h3 h4 DaH.of
end
end Mine
end
section
set_option maxHeartbeats 4000000
namespace Mine
section
variable {D:Wd} {ad:Ads} {A:Around} {H R W:HL} {kk:Nat} {recs:List Rec} {z:DaA}
theorem DaH.front {st:DS} {q:Addr×AObj} (h:DaH ad z st H (q::R)):∃ H2,H.Perm (q::H2)/\DaH ad z st H2 R:=
 let ⟨e1,e2,p⟩:=h
 ⟨_,p.trans List.perm_middle,e1,e2,.refl _⟩
theorem DaH.cons {st:DS} {q:Addr×AObj} (h:DaH ad z st H R):DaH ad z st (q::H) (q::R):=
 let ⟨e1,e2,p⟩:=h
 ⟨e1,e2,(List.Perm.cons q p).trans List.perm_middle.symm⟩
theorem run_lt {st st':DS} {l:List Nat} (hR:RecsOk D ad W kk recs) (h:∀ j∈l,∃ (r:Rec) (i:Nat),recs[i]?=some r/\j∈r.ch):∀ j∈l,j < 7/\(rc recs j).ps.length+6<=2 ^ 17:=fun j hj=>by
 obtain ⟨r,i,hi,hc⟩:=h j hj
 obtain ⟨h1,b,h2,_⟩:=hR.prefix i r hi j hc
 have h3:=(List.getElem?_eq_some_iff.mp h2).1
 have h4:=hR.count
 have h5:=(hR.ok j b h2).small
 rw [rc_of h2]
 refine ⟨by exact Nat.lt_of_lt_of_le h3 h4,by exact lin h5 (by simp +arith)⟩
theorem make_of_own (kf:KF D ad) {k i:Nat} (hR:RecsOk D ad W kk recs) {r:Rec} (hi:recs[i]?=some r) (hI:ImpOk D ad z (k+2) W) (hkk:kk<=k+3) (hM:r.d.module="M")
  (hown:∀ j,j < i->j∈r.ch->(rc recs j).d.module="M"->OwnOk D ad z W recs (k+3) j):MakeOk D ad z W recs (k+4) i:=fun A H R st Q hr hW h hb hn hq=>by
 obtain ⟨e1,e2,p⟩:=h
 have er:=rc_of hi
 subst er
 refine CL.perm p (CL.drop (CL.fnK (k:=k+3) (ps:=["self","record"]) (os:=["chain","base","level","offset"]) kf.da_make_descriptor hr (fun doc pm cdv ct an ws h=>?_) rfl (by rfl) (by decide) (by rfl) fun fm env A' hns hsc hr'=>?_))
 ·revert ws h; refine bl2 ?_; intros; rfl
 ·
  have n0:=lN hsc hns "self" 0
  have n1:=lN hsc hns "record" 1
  have n2:=lN hsc hns "chain" 2
  have n3:=lN hsc hns "base" 3
  have n4:=lN hsc hns "level" 4
  have n5:=lN hsc hns "offset" 5
  have kp_base_chain:=KpA.of kf.base_chain.keep
  have g_base_chain:=gN hsc "base_chain" kf.n_base_chain
  have g_range:=gB hsc "range" kf.n_range boot_range
  have g_len:=gB hsc "len" kf.n_len boot_len
  have kp_pointer_offsets:=KpA.of kf.pointer_offsets.keep
  have g_pointer_offsets:=gN hsc "pointer_offsets" kf.n_pointer_offsets
  have g_LEVELS:=gI hsc "LEVELS" kf.n_LEVELS
  have g_END_OF_POINTERS:=gI hsc "END_OF_POINTERS" kf.n_END
  have kp1:KpA D (.ref ad.da_own_descriptor):=.of kf.da_own_descriptor.keep
  have kp2:KpA D (.ref ad.da_add_word):=.of kf.da_add_word.keep
  have kp3:KpA D (.ref ad.da_add_reference):=.of kf.da_add_reference.keep
  have ro:=hR.ok i _ hi
  have mr:=hW _ ro.mem
  refine XS.cons (EX.assignN n2 (EV.call (EV.glbN g_base_chain (EL.cons (EV.locN n1 rfl (EL.nil (kpAnd kp_base_chain.at ?_)))))))
  refine base_chain_ok kf (k:=k+2) hr' hR hi (fun q hq=>List.mem_append_right _ (hW q hq)) fun lc=>?_
  obtain ⟨Rl,hRl⟩:∃ x,(lc,AObj.list ((rc recs i).ch.map (ra recs)))::R=x:=⟨_,rfl⟩
  have hWl:∀ q∈W,q∈Rl:=fun q hq=>by rw [<- hRl]; exact .tail _ (hW q hq)
  have mlc:(lc,AObj.list ((rc recs i).ch.map (ra recs)))∈Rl:=by rw [<- hRl]; exact .head _
  have pl:((lc,AObj.list ((rc recs i).ch.map (ra recs)))::(daE ad z st st.size e1 e2++R)).Perm (daE ad z st st.size e1 e2++Rl):=by rw [<- hRl]; exact List.perm_middle.symm
  refine XS.perm pl ?_
  have hlen:=ro.len
  obtain ⟨pre,hpre⟩:=ro.last
  have hclip:((rc recs i).ch.map (ra recs)).take (clipTo (-1) ((rc recs i).ch.map (ra recs)).length)=pre.map (ra recs):=by
   have hc:clipTo (-1) (pre.length+1)=pre.length:=by
    show min (-1+((pre.length+1:Nat):Int)).toNat (pre.length+1)=pre.length
    rw [show (-1+((pre.length+1:Nat):Int))=(pre.length:Int) by simp +arith,Int.toNat_natCast]
    exact Nat.min_eq_left (Nat.le_succ _)
   rw [hpre]
   simp only [List.map_append,List.length_append,List.length_map,List.map_cons,List.map_nil,List.length_cons,List.length_nil]
   rw [hc]
   exact List.take_left' (List.length_map ..)
  have hbs:∀ (m:Nat) (j:Nat),pre[m]?=some j->j∈(rc recs i).ch/\j < i/\∃ b,recs[j]?=some b:=fun m j hj=>by
   have hjp:=List.mem_of_getElem? hj
   have hjc:j∈(rc recs i).ch:=by rw [hpre]; exact List.mem_append_left _ hjp
   obtain ⟨_,b,u2,_⟩:=hR.prefix i _ hi j hjc
   refine ⟨hjc,?_,b,u2⟩
   rcases ro.base with ⟨_,_,e⟩ | ⟨j',b',_,v2,v3,_,e⟩
   ·rw [e] at hpre
    have:pre=[]:=by cases pre with | nil=>rfl | cons p q=>simp at hpre
    rw [this] at hjp; cases hjp
   ·have ep:b'.ch=pre:=List.append_inj_left' (e.symm.trans hpre) rfl
    rw [<- ep] at hjp
    obtain ⟨w,_⟩:=hR.prefix j' b' v2 j hjp
    exact linL (Nat.add_le_add w v3) (by simp +arith)
  refine XS.cons (EX.forL hr'.handled (EV.sliceTo (EV.locN n2 rfl (EV.neg (EV.int ⟨1,rfl,lc,_,-1,rfl,rfl,List.mem_append_right _ mlc,by rw [List.length_map]; exact Nat.le_trans hlen (by decide),fun ls=>?_⟩)))))
  rw [hclip]
  refine ⟨ls,pre.map (ra recs),rfl,fun m H' vs'=>∃ l st',Run recs st l st'/\(∀ j∈l,j∈(rc recs i).ch/\(rc recs j).d.module="M"/\j < i)/\(∀ j∈pre.take m,(rc recs j).d.module="M"->(st'.place (rc recs j).d.number).isSome)/\DaH ad z st' H' ((ls,.list (pre.map (ra recs)))::Rl) /\
   ∃ y,vs'=[some (.ref z.da),some (.ref (rc recs i).a),some (.ref lc),y,none,none],⟨[],st,.nil,by simp,by simp,DaH.cons DaH.of,none,rfl⟩,?_,?_,?_⟩
  ·rintro m H' vs' ⟨l,st',h1,h2,h3,h4,y,rfl⟩
   exact h4.mem (.head _)
  ·rintro it m x H₃ vs₃ N hN hx ⟨l,st',h1,h2,h3,h4,y,rfl⟩
   rw [List.getElem?_map,Option.map_eq_some_iff] at hx
   obtain ⟨j,hj,rfl⟩:=hx
   obtain ⟨hjc,hji,b,hjb⟩:=hbs m j hj
   have eb:=rc_of hjb
   subst eb
   rw [ra_of hjb]
   obtain ⟨e1',e2',p'⟩:=DaH.cons (q:=(it,AObj.io (IObj.liter ls (m+1)))) h4
   have htk:∀ st'':DS,(∀ n x,st'.place n=some x->st''.place n=some x)->((rc recs j).d.module="M"->(st''.place (rc recs j).d.number).isSome)->∀ j'∈pre.take (m+1),(rc recs j').d.module="M"->(st''.place (rc recs j').d.number).isSome:=fun st'' g1 g2 j' hj' hM'=>by
    rw [List.take_add_one,hj] at hj'
    rcases List.mem_append.mp hj' with hj' | hj'
    ·obtain ⟨x,hx⟩:=Option.isSome_iff_exists.mp (h3 j' hj' hM')
     rw [g1 _ _ hx]; rfl
    ·cases List.mem_singleton.mp hj'
     exact g2 hM'
   refine AS.locN n3 (XS.perm p' ?_)
   have mj:((rc recs j).a,AObj.inst ad.cType (rc recs j).d.at)∈daE ad z st' st'.size e1' e2'++(it,AObj.io (IObj.liter ls (m+1)))::(ls,AObj.list (pre.map (ra recs)))::Rl:=List.mem_append_right _ (t_2 (hWl _ (hR.ok j _ hjb).mem))
   refine XS.cons (EX.ifs (EB.cmp (EV.attr (EV.locN n3 rfl (GA.ty kf mj (hq:=EV.attr (EV.locN n0 rfl (GA.da kf (.head _) (hq:=?_)))))))))
   refine CP.of .eqS ⟨_,.bool _,?_⟩
   refine ⟨fun hm=>?_,fun hm=>?_⟩
   ·have hm':(rc recs j).d.module="M":=by simpa using hm
    have hbd:Bud recs st':=hb.run h1 (run_lt (st:=st) (st':=st') hR fun j hj=>⟨_,i,hi,(h2 j hj).1⟩)
    refine XS.cons (EX.expr (EV.meth (EV.locN n0 rfl (GM.da kf m_0 (EL.cons (EV.locN n3 rfl (EL.nil (kpAnd kp1.at ?_))))))))
    refine hown j hji hjc hm' A' _ _ st' _ hr' (fun q hq=>t_2 (hWl q hq)) DaH.of hbd fun l2 st'' p2 H' g1 g2 g3 g4 g5=>?_
    refine ⟨trivial,?_⟩
    obtain ⟨H2,pf,hd⟩:=g5.front
    refine XS.perm pf (XS.nil (XS.nil (hN ⟨_,.head,l++l2,st'',h1.trans g1,fun j' hj'=>?_,htk st'' (fun n x hx=>g1.some hx) (fun _=>by rw [g3]; rfl),hd,_,rfl⟩)))
    rcases List.mem_append.mp hj' with hj' | hj'
    ·exact h2 j' hj'
    ·obtain ⟨q1,q2⟩:=g2 j' hj'
     obtain ⟨_,b',u2,u3⟩:=hR.prefix i _ hi j hjc
     obtain ⟨u4,_⟩:=hR.prefix j _ hjb j' q1
     rw [rc_of u2] at q1
     exact ⟨u3.subset q1,q2,by exact linL (Nat.add_le_add u4 hji) (by simp +arith)⟩
   ·have hm':(rc recs j).d.module≠"M":=by simpa using hm
    obtain ⟨H2,pf,hd⟩:=DaH.front (DaH.of (st:=st') (e1:=e1') (e2:=e2') (ad:=ad) (z:=z) (R:=(it,AObj.io (IObj.liter ls (m+1)))::(ls,AObj.list (pre.map (ra recs)))::Rl))
    refine XS.nil (XS.perm pf (XS.nil (hN ⟨_,.head,l,st',h1,h2,htk st' (fun _ _ h=>h) (fun h=>absurd h hm'),hd,_,rfl⟩)))
  ·rintro H₃ vs₃ ⟨l,st',h1,h2,h3,h4,y,rfl⟩
   obtain ⟨H2,pf,e1',e2',p'⟩:=DaH.front h4
   refine XS.nil (XS.perm pf (XS.forget .head (XS.perm p' ?_)))
   have hbd:Bud recs st':=hb.run h1 (run_lt (st:=st) (st':=st') hR fun j hj=>⟨_,i,hi,(h2 j hj).1⟩)
   have hni:st'.place (rc recs i).d.number=none:=by
    refine h1.none hn fun j hj e=>?_
    obtain ⟨_,b',u2,_⟩:=hR.prefix i _ hi j (h2 j hj).1
    have hlt:=(h2 j hj).2.2
    obtain ⟨w1,w2⟩:=List.getElem?_eq_some_iff.mp u2
    obtain ⟨w3,w4⟩:=List.getElem?_eq_some_iff.mp hi
    have hp:=List.pairwise_iff_getElem.mp hR.num j i (by simpa using w1) (by simpa using w3) hlt
    rw [List.getElem_map,List.getElem_map,w2,w4] at hp
    rw [rc_of u2] at e
    exact hp e
   have hsz:st'.mem.length+2 ^ 17<=2 ^ 22/\st'.fix.length+4<=2 ^ 22:=by
    have hi7:i < 7:=Nat.lt_of_lt_of_le (List.getElem?_eq_some_iff.mp hi).1 hR.count
    have:=un_step hi7 hni
    unfold Bud at hbd
    exact ⟨lin (Nat.add_le_add hbd.1 (Nat.mul_le_mul_left 131072 this)) (by simp +arith),lin (Nat.add_le_add hbd.2.1 (Nat.mul_le_mul_left 4 this)) (by simp +arith)⟩
   have hps:=ro.small
   have hch:∀ j∈(rc recs i).ch,∃ b,recs[j]?=some b:=fun j hj=>by
    obtain ⟨_,b',u2,_⟩:=hR.prefix i _ hi j hj
    exact ⟨b',u2⟩
   have hplaced:∀ j∈(rc recs i).ch,(rc recs j).d.module="M"->∀ m,∃ x,(lvls recs (rc recs i).ch (st2 (rc recs i) st') m).place (rc recs j).d.number=some x:=fun j hj hjm m=>by
    have hd:(lvls recs (rc recs i).ch (st2 (rc recs i) st') m).descs=st'.descs++[((rc recs i).d.number,st'.size)]:=by rw [lvls_descs]; rfl
    rw [place_app hd]
    rw [hpre] at hj
    rcases List.mem_append.mp hj with hj | hj
    ·have:(st'.place (rc recs j).d.number).isSome:=h3 j (by simpa using hj) hjm
     obtain ⟨x,hx⟩:=Option.isSome_iff_exists.mp this
     exact ⟨x,by rw [hx]; rfl⟩
    ·cases List.mem_singleton.mp hj
     exact ⟨st'.size,by rw [hni]; simp⟩
   refine XS.cons (EX.setItem ?_)
   have mr1:∀ {s:DS} {n:Int} {a b:Nat},((rc recs i).a,AObj.inst ad.cType (rc recs i).d.at)∈daE ad z s n a b++Rl:=List.mem_append_right _ (hWl _ ro.mem)
   unfold daE
   refine EV.meth (EV.locN n0 rfl (GM.da kf m_0 (EL.cons (EV.attr (EV.locN n1 rfl ?_)))))
   refine GA.ty kf mr1 (hq:=?_)
   refine EL.nil (kpAnd kp2.at ?_)
   refine add_word_ok kf (k:=k+2) hr' (st:=st') DaH.of (by exact lin hsz.1 (by simp +arith)) fun H' hH'=>?_
   obtain ⟨e1'',e2'',p''⟩:=hH'
   refine EV.perm p'' ?_
   unfold daE
   refine EV.attr (EV.locN n0 rfl (GA.da kf m_0 (hq:=EV.attr (EV.locN n1 rfl ?_))))
   refine GA.ty kf mr1 (hq:=?_)
   have hds:st'.descs.length<=sizeLine:=by
    have h4:sizeLine=16777216:=by decide
    have:=hbd.2.2
    exact lin (Nat.add_le_add this (Nat.le_of_eq h4.symm)) (by simp +arith)
   refine SI.dictI .at4 (by rw [List.length_map]; exact hds) fun ep'=>?_
   have hfn:(st'.descs.find? fun p=>p.1=(rc recs i).d.number)=none:=by
    unfold DS.place at hni
    exact Option.map_eq_none_iff.mp hni
   have ed:dput (rc recs i).d.number (.int st'.size) ((st'.push (rc recs i).d.size).descs.map fun p=>(p.1,V.int p.2))=(st2 (rc recs i) st').descs.map fun p=>(p.1,V.int p.2):=dput_new _ _ _ hfn
   rw [ed]
   have hD2:DaH ad z (st2 (rc recs i) st') ((z.dd,AObj.dictI ((st2 (rc recs i) st').descs.map fun p=>(p.1,V.int p.2)) ep')::(z.da,AObj.inst ad.cDA (daAt z (st'.push (rc recs i).d.size).size))::(z.wl,AObj.list ((wordsFrom (st'.push (rc recs i).d.size).a0 (st'.push (rc recs i).d.size).mem).map tup2)) ::
     (z.fl,AObj.list ((st'.push (rc recs i).d.size).fix.map tup3))::(z.sd,AObj.dictS ((st'.push (rc recs i).d.size).texts.map fun p=>(p.1,V.int p.2)) e1'')::(z.nl,AObj.list (if (st'.push (rc recs i).d.size).imp then [.str "N"] else []))::Rl) Rl:=
    ⟨e1'',ep',Ext.pc .at1 (Ext.pc .at1 (Ext.pc .at1 (Ext.pc .at1 (.refl _))))⟩
   have hl2:=lvls_len recs (rc recs i).ch (st2 (rc recs i) st')
   have hl2m:(st2 (rc recs i) st').mem.length=st'.mem.length+1:=by simp [st2,DS.push]
   have hl2f:(st2 (rc recs i) st').fix.length=st'.fix.length:=rfl
   refine XS.cons (EX.forR hr'.handled ?_)
   refine EV.call (EV.glbN g_range (EL.cons (EV.glbN g_LEVELS (EL.nil (kpAnd .typ ?_)))))
   refine CL.range1 fun r=>?_
   refine ⟨r,4,_,rfl,.head,by decide,by decide,fun m H' vs'=>DaH ad z (lvls recs (rc recs i).ch (st2 (rc recs i) st') m) H' Rl/\∃ y',vs'=[some (.ref z.da),some (.ref (rc recs i).a),some (.ref lc),y,y',none],⟨hD2,none,rfl⟩,?_,?_⟩
   ·rintro it m H₃ vs₃ N hN hm4 ⟨hd,y',rfl⟩
    have hm4':m < 4:=by exact (nLt (a:=m) (b:=4) hm4)
    obtain ⟨a1,a2,pa⟩:=DaH.cons (q:=(it,AObj.io (IObj.riter ((m:Int)+1) (4 - ((m:Int)+1)) 1))) hd
    refine AS.locN n4 (XS.perm pa ?_)
    have hlm:=hl2 m
    have back:∀ {st3:DS} {H3:HL} {vs3:List (Option V)},st3=lvls recs (rc recs i).ch (st2 (rc recs i) st') (m+1)->DaH ad z st3 H3 ((it,AObj.io (IObj.riter ((m:Int)+1) (4 - ((m:Int)+1)) 1))::Rl)->vs3=[some (.ref z.da),some (.ref (rc recs i).a),some (.ref lc),y,some (.int m),none]->
      ∃ H4,H3.Perm ((it,AObj.io (IObj.riter ((m:Int)+1) (4 - ((m:Int)+1)) 1))::H4)/\DaH ad z (lvls recs (rc recs i).ch (st2 (rc recs i) st') (m+1)) H4 Rl/\∃ y',vs3=[some (.ref z.da),some (.ref (rc recs i).a),some (.ref lc),y,y',none]:=fun e h ev=>by
     obtain ⟨H4,q1,q2⟩:=DaH.front h
     exact ⟨H4,q1,e ▸ q2,_,ev⟩
    have mlc':∀ {s:DS} {n:Int} {a b:Nat} {q:Addr×AObj},(lc,AObj.list ((rc recs i).ch.map (ra recs)))∈daE ad z s n a b++q::Rl:=List.mem_append_right _ (.tail _ mlc)
    refine XS.cons (EX.ifs (EB.cmp (EV.locN n4 rfl ?_)))
    refine EV.call (EV.glbN g_len (EL.cons (EV.locN n2 rfl (EL.nil (kpAnd .blt ?_)))))
    refine CL.len mlc' (by rw [List.length_map]; exact Nat.le_trans hlen (by decide)) ?_
    rw [List.length_map]
    refine CP.of .lt ⟨_,.bool _,?_⟩
    refine ⟨fun hlt=>?_,fun hlt=>?_⟩
    ·have hlt':m < (rc recs i).ch.length:=by have:=of_decide_eq_true hlt; exact (nLt (a:=m) (b:=(rc recs i).ch.length) this)
     have hjg:(rc recs i).ch[m]?=some (rc recs i).ch[m]:=List.getElem?_eq_getElem hlt'
     generalize (rc recs i).ch[m]=j at hjg
     have hjc:=List.mem_of_getElem? hjg
     obtain ⟨b,hjb⟩:=hch j hjc
     have eb:=rc_of hjb
     subst eb
     refine XS.cons (EX.expr (EV.meth (EV.locN n0 rfl (GM.da kf m_0 (EL.cons (EV.sub (EV.locN n2 rfl (EV.locN n4 rfl ?_))))))))
     refine GI.list mlc' (by simp +arith) (by omega) (x:=.ref (rc recs j).a) (by rw [Int.toNat_natCast,List.getElem?_map,hjg]; simp [ra_of hjb]) ?_
     refine EL.nil (kpAnd kp3.at ?_)
     refine add_reference_ok kf (k:=k+1) hr' hI (fun q hq=>.tail _ (hWl q hq)) (.tail _ (hWl _ (hR.ok j _ hjb).mem)) (hR.ok j _ hjb).mod (fun h=>hplaced j hjc h m) DaH.of (by exact lin (Nat.add_le_add (Nat.le_of_eq hlm.1) (Nat.add_le_add (Nat.le_of_eq hl2m) (Nat.add_le_add hsz.1 hm4'))) (by simp +arith)) (by exact lin (Nat.add_le_add hlm.2 (Nat.add_le_add (Nat.le_of_eq hl2f) (Nat.add_le_add hsz.2 hm4'))) (by simp +arith)) fun H' hH'=>?_
     refine ⟨trivial,?_⟩
     obtain ⟨H4,q1,q2,q3⟩:=back (vs3:=[some (.ref z.da),some (.ref (rc recs i).a),some (.ref lc),y,some (.int m),none]) (by rw [lvls_succ,lvl,hjg]) hH' rfl
     exact XS.perm q1 (XS.nil (XS.nil (hN ⟨_,.head,q2,q3⟩)))
    ·have hlt':¬ m < (rc recs i).ch.length:=by have:=of_decide_eq_false hlt; lia
     have hjg:(rc recs i).ch[m]?=none:=List.getElem?_eq_none_iff.mpr (by exact (Nat.le_of_not_gt hlt'))
     unfold daE
     refine XS.cons (EX.expr (EV.meth (EV.locN n0 rfl (GM.da kf m_0 (EL.cons (EV.int (EL.nil (kpAnd kp2.at ?_))))))))
     refine add_word_ok kf (k:=k+2) hr' (st:=lvls recs (rc recs i).ch (st2 (rc recs i) st') m) DaH.of (by exact lin (Nat.add_le_add (Nat.le_of_eq hlm.1) (Nat.add_le_add (Nat.le_of_eq hl2m) (Nat.add_le_add hsz.1 (nLt (a:=m) (b:=4) hm4)))) (by simp +arith)) fun H' hH'=>?_
     refine ⟨trivial,?_⟩
     obtain ⟨H4,q1,q2,q3⟩:=back (vs3:=[some (.ref z.da),some (.ref (rc recs i).a),some (.ref lc),y,some (.int m),none]) (by rw [lvls_succ,lvl,hjg]) hH' rfl
     exact XS.perm q1 (XS.nil (XS.nil (hN ⟨_,.head,q2,q3⟩)))
   ·rintro H₃ vs₃ ⟨hd,y',rfl⟩
    unfold daE at *
    refine XS.nil (XS.cons (EX.forL hr'.handled ?_))
    refine EV.call (EV.glbN g_pointer_offsets (EL.cons (EV.locN n1 rfl (EL.nil (kpAnd kp_pointer_offsets.at ?_)))))
    refine ro.po A' _ _ (hr'.le hkk) (fun q hq=>hd.mem (hWl q hq)) fun lp=>?_
    have hl4:=hl2 4
    have hmem:∀ m,((rc recs i).ps.take m).foldl DS.push (lvls recs (rc recs i).ch (st2 (rc recs i) st') 4)={ lvls recs (rc recs i).ch (st2 (rc recs i) st') 4 with mem:=(lvls recs (rc recs i).ch (st2 (rc recs i) st') 4).mem++(rc recs i).ps.take m }:=fun m=>pushes _ _
    refine ⟨lp,(rc recs i).ps.map .int,rfl,fun m H' vs'=>DaH ad z (((rc recs i).ps.take m).foldl DS.push (lvls recs (rc recs i).ch (st2 (rc recs i) st') 4)) H' ((lp,.list ((rc recs i).ps.map .int))::Rl)/\∃ x',vs'=[some (.ref z.da),some (.ref (rc recs i).a),some (.ref lc),y,y',x'],⟨DaH.cons hd,none,rfl⟩,?_,?_,?_⟩
    ·rintro m H' vs' ⟨h,_⟩
     exact h.mem (.head _)
    ·rintro it m x H4 vs4 N hN hx ⟨h,x',rfl⟩
     rw [List.getElem?_map,Option.map_eq_some_iff] at hx
     obtain ⟨q,hq',rfl⟩:=hx
     have hlt:=(List.getElem?_eq_some_iff.mp hq').1
     obtain ⟨a1,a2,pa⟩:=DaH.cons (q:=(it,AObj.io (IObj.liter lp (m+1)))) h
     refine AS.locN n5 (XS.perm pa ?_)
     unfold daE
     refine XS.cons (EX.expr (EV.meth (EV.locN n0 rfl (GM.da kf m_0 (EL.cons (EV.locN n5 rfl (EL.nil (kpAnd kp2.at ?_))))))))
     refine add_word_ok kf (k:=k+2) hr' (st:=((rc recs i).ps.take m).foldl DS.push (lvls recs (rc recs i).ch (st2 (rc recs i) st') 4)) DaH.of ?_ fun H' hH'=>?_
     ·rw [hmem]
      simp only [List.length_append,List.length_take]
      exact lin (Nat.add_le_add (Nat.le_of_eq hl4.1) (Nat.add_le_add (Nat.min_le_right (m) ((rc recs i).ps.length)) (Nat.add_le_add hps (Nat.add_le_add (Nat.le_of_eq hl2m) hsz.1)))) (by simp +arith)
     refine ⟨trivial,?_⟩
     obtain ⟨H5,q1,q2⟩:=DaH.front hH'
     refine XS.perm q1 (XS.nil (hN ⟨_,.head,?_,_,rfl⟩))
     rw [List.take_add_one,hq',List.foldl_append]
     exact q2
    ·rintro H4 vs4 ⟨h,x',rfl⟩
     rw [List.length_map,List.take_length] at h
     obtain ⟨a1,a2,pa⟩:=h
     refine XS.nil (XS.perm pa ?_)
     unfold daE
     refine XS.cons (EX.expr (EV.meth (EV.locN n0 rfl (GM.da kf m_0 (EL.cons (EV.glbN g_END_OF_POINTERS (EL.nil (kpAnd kp2.at ?_))))))))
     refine add_word_ok kf (k:=k+2) hr' (st:=(rc recs i).ps.foldl DS.push (lvls recs (rc recs i).ch (st2 (rc recs i) st') 4)) DaH.of ?_ fun H' hH'=>?_
     ·rw [pushes]
      simp only [List.length_append]
      exact lin (Nat.add_le_add (Nat.le_of_eq hl4.1) (Nat.add_le_add hps (Nat.add_le_add (Nat.le_of_eq hl2m) hsz.1))) (by simp +arith)
     refine ⟨trivial,?_⟩
     refine XS.nil ?_
     obtain ⟨H5,q1,q2⟩:=DaH.front hH'
     rw [<- hRl] at q2
     obtain ⟨H6,q3,q4⟩:=DaH.front q2
     refine ⟨H6,.perm q1 (.cons .head (.perm q3 (.cons .head (.refl _)))),hq (l++[i]) (stepD recs i st') H6 (.snoc h1 hni fun j hj hji hjm=>?_) (fun j hj=>?_) ?_ q4⟩
     ·rw [hpre] at hj
      rcases List.mem_append.mp hj with hj | hj
      ·exact h3 j (by simpa using hj) hjm
      ·exact absurd (List.mem_singleton.mp hj) hji
     ·rcases List.mem_append.mp hj with hj | hj
      ·exact ⟨(h2 j hj).1,(h2 j hj).2.1⟩
      ·cases List.mem_singleton.mp hj
       exact ⟨by rw [hpre]; simp,hM⟩
     ·rw [stepD_place recs i st' hni]; rfl
end
end Mine
end
section
set_option maxHeartbeats 4000000
namespace Mine
noncomputable def stepS (t:Str) (st:DS):DS:=(sw t).foldl DS.push { st with texts:=st.texts++[(t,st.size)] }
section
variable {D:Wd} {ad:Ads} {A:Around} {H R W:HL} {kk:Nat} {recs:List Rec} {z:DaA}
theorem OwnOk.mono {k k' i:Nat} (h:OwnOk D ad z W recs k i) (hk:k<=k'):OwnOk D ad z W recs k' i:=fun A H R st Q r=>h A H R st Q (r.le hk)
theorem ImpOk.mono {k k':Nat} (h:ImpOk D ad z k W) (hk:k<=k'):ImpOk D ad z k' W:=⟨h.fn,fun A H R st Q r=>h.call A H R st Q (r.le hk)⟩
theorem own_ok (kf:KF D ad) (hR:RecsOk D ad W kk recs) (hI:ImpOk D ad z 5 W):∀ (i:Nat) (r:Rec),recs[i]?=some r->r.d.module="M"->OwnOk D ad z W recs (kk+20+2 * i) i:=by
 intro i
 induction i using Nat.strongRecOn with
 | ind i ih=>
  intro r hi hM
  have:=own_of_make kf (z:=z) (k:=kk+15+2 * i+4) hR hi (make_of_own kf (k:=kk+15+2 * i) hR hi (hI.mono (by simp +arith)) (by simp +arith) hM fun j hj hjc hjm=>?_)
  ·exact this.mono (by simp +arith)
  ·obtain ⟨_,b,hb,_⟩:=hR.prefix i r hi j hjc
   exact (ih j hj b hb (by rw [<- rc_of hb]; exact hjm)).mono (by exact lin (Nat.add_le_add hj hj) (by simp +arith))
theorem descriptor_own (kf:KF D ad) {k i:Nat} (hr:Rm (k+1) A) (hR:RecsOk D ad W kk recs) {r:Rec} (hi:recs[i]?=some r) (hM:r.d.module="M") (ho:OwnOk D ad z W recs k i) (hW:∀ q∈W,q∈R) {st:DS} (h:DaH ad z st H R) (hb:Bud recs st) {Q:V->HL->Prop}
  (hq:∀ l st' p H',Run recs st l st'->(∀ j∈l,j∈r.ch/\(rc recs j).d.module="M")->st'.place r.d.number=some p->DaH ad z st' H' R->Q (.tup [.int 0,.int 0,.int p]) H') :
  CL D A (.ref ad.da_descriptor) [.ref z.da,.ref r.a] H Q:=by
 obtain ⟨e1,e2,p⟩:=h
 have er:=rc_of hi
 subst er
 refine CL.perm p (CL.fnK (k:=k) (ps:=["self","record"]) (os:=[]) kf.da_descriptor hr (fun doc pm cdv ct an ws h=>?_) rfl (by rfl) (by decide) (by rfl) fun fm env A' hns hsc hr'=>?_)
 ·revert ws h; refine bl2 ?_; intros; rfl
 ·
  have n0:=lN hsc hns "self" 0
  have n1:=lN hsc hns "record" 1
  have kp1:KpA D (.ref ad.da_own_descriptor):=.of kf.da_own_descriptor.keep
  have mr:=hW _ (hR.ok i _ hi).mem
  have mr1:∀ {s:DS} {n:Int} {a b:Nat},((rc recs i).a,AObj.inst ad.cType (rc recs i).d.at)∈daE ad z s n a b++R:=List.mem_append_right _ mr
  refine XS.cons (EX.ifs (EB.cmp (EV.attr (EV.locN n1 rfl (GA.ty kf mr1 (hq:=EV.attr (EV.locN n0 rfl (GA.da kf (.head _) (hq:=?_)))))))))
  refine CP.of .neS ⟨_,.bool _,?_⟩
  refine ⟨fun h=>absurd h (by rw [hM]; decide),fun _=>?_⟩
  unfold daE
  refine XS.nil (XS.cons (EX.ret (EV.tuple (EL.cons (EV.int (EL.cons (EV.int (EL.cons (EV.meth (EV.locN n0 rfl (GM.da kf m_0 (EL.cons (EV.locN n1 rfl (EL.nil (kpAnd kp1.at ?_)))))))))))))))
  refine ho A' _ R st _ hr' hW DaH.of hb fun l st' p H' h1 h2 h3 _ h4=>?_
  refine EL.nil (leAnd rfl ?_)
  exact hq l st' p H' h1 h2 h3 h4
theorem descriptor_far (kf:KF D ad) {k i:Nat} (hr:Rm (k+2) A) (hR:RecsOk D ad W kk recs) {r:Rec} (hi:recs[i]?=some r) (hN:r.d.module="N") (hI:ImpOk D ad z (k+1) W) (hW:∀ q∈W,q∈R) {st:DS} (h:DaH ad z st H R) {Q:V->HL->Prop}
  (hq:∀ H',DaH ad z { st with imp:=true } H' R->Q (.tup [.int 1,.int r.d.exno,.int 0]) H') :
  CL D A (.ref ad.da_descriptor) [.ref z.da,.ref r.a] H Q:=by
 obtain ⟨e1,e2,p⟩:=h
 have er:=rc_of hi
 subst er
 refine CL.perm p (CL.fnK (k:=k+1) (ps:=["self","record"]) (os:=[]) kf.da_descriptor hr (fun doc pm cdv ct an ws h=>?_) rfl (by rfl) (by decide) (by rfl) fun fm env A' hns hsc hr'=>?_)
 ·revert ws h; refine bl2 ?_; intros; rfl
 ·
  have n0:=lN hsc hns "self" 0
  have n1:=lN hsc hns "record" 1
  have mr:=hW _ (hR.ok i _ hi).mem
  have mr1:∀ {s:DS} {n:Int} {a b:Nat},((rc recs i).a,AObj.inst ad.cType (rc recs i).d.at)∈daE ad z s n a b++R:=List.mem_append_right _ mr
  refine XS.cons (EX.ifs (EB.cmp (EV.attr (EV.locN n1 rfl (GA.ty kf mr1 (hq:=EV.attr (EV.locN n0 rfl (GA.da kf (.head _) (hq:=?_)))))))))
  refine CP.of .neS ⟨_,.bool _,?_⟩
  refine ⟨fun _=>?_,fun h=>absurd h (by rw [hN]; decide)⟩
  refine XS.cons (EX.ret (EV.tuple (EL.cons (EV.meth (EV.locN n0 rfl ?_)))))
  refine GM.attr (.head _) (kf.daAttr _ (by decide)) kf.daHook kf.daNoHook (x:=.ref z.imp) (by rfl) (by rfl) ?_
  refine EL.cons (EV.attr (EV.locN n1 rfl (GA.ty kf mr1 (hq:=EL.nil ?_))))
  obtain ⟨o,fd,mo,ho⟩:=hI.fn
  refine ⟨.fn (List.mem_append_right _ (hW _ mo)) ho,?_⟩
  rw [hN]
  refine hI.call A' _ R st _ hr' hW DaH.of fun H2 hH2=>?_
  obtain ⟨e1'',e2'',p2⟩:=hH2
  refine EL.perm p2 ?_
  refine EL.cons (EV.attr (EV.locN n1 rfl (GA.ty kf mr1 (hq:=?_))))
  refine EL.cons (EV.int (EL.nil (leAnd rfl ?_)))
  exact hq _ ⟨e1'',e2'',.refl _⟩
theorem sw_len (t:Str):(sw t).length<=t.cps.size+1:=by
 simp [sw,swList,padTo4,codesOf]
 lia
theorem SI.da_strs {st:DS} {t:Str} {e1 e2:Nat} {Q:HL->Prop} (hz:st.texts.length<=2 ^ 20) (hn:st.tplace t=none)
  (hq:∀ H',DaH ad z { st with texts:=st.texts++[(t,st.size)] } H' R->Q H'):SI D A (.ref z.sd) (.str t) (.int st.size) (daE ad z st st.size e1 e2++R) Q:=by
 have h4:sizeLine=16777216:=by decide
 refine SI.dictS .at3 (by rw [List.length_map]; exact lin (Nat.add_le_add hz (Nat.le_of_eq h4.symm)) (by simp +arith)) fun ep'=>hq _ ?_
 have hfn:(st.texts.find? fun p=>p.1=t)=none:=by
  unfold DS.tplace at hn
  exact Option.map_eq_none_iff.mp hn
 rw [dput_new _ _ _ hfn]
 exact ⟨ep',e2,Ext.pc .at1 (Ext.pc .at1 (Ext.pc .at1 (.refl _)))⟩
theorem string_address_ok (kf:KF D ad) {k:Nat} (hr:Rm (k+2) A) {st:DS} {t:Str} (h:DaH ad z st H R) (hz:st.mem.length+t.cps.size+1<=2 ^ 22) (ht:t.cps.size<=2 ^ 20) (hts:st.texts.length<=2 ^ 20) {Q:V->HL->Prop}
  (hq1:∀ p H',st.tplace t=some p->DaH ad z st H' R->Q (.int p) H') (hq2:∀ H',st.tplace t=none->DaH ad z (stepS t st) H' R->Q (.int st.size) H') :
  CL D A (.ref ad.da_string_address) [.ref z.da,.str t] H Q:=by
 obtain ⟨e1,e2,p⟩:=h
 refine CL.perm p (CL.fnK (k:=k+1) (ps:=["self","text"]) (os:=["word"]) kf.da_string_address hr (fun doc pm cdv ct an ws h=>?_) rfl (by rfl) (by decide) (by rfl) fun fm env A' hns hsc hr'=>?_)
 ·revert ws h; refine bl2 ?_; intros; rfl
 ·
  have n0:=lN hsc hns "self" 0
  have n1:=lN hsc hns "text" 1
  have n2:=lN hsc hns "word" 2
  have kp_string_words:=KpA.of kf.string_words.keep
  have g_string_words:=gN hsc "string_words" kf.n_string_words
  have kp1:KpA D (.ref ad.da_add_word):=.of kf.da_add_word.keep
  refine XS.cons (EX.mono (Q:=fun fl H' vs'=>fl=.next/\∃ y,vs'=[some (.ref z.da),some (.str t),y]/\((∃ p,st.tplace t=some p/\DaH ad z st H' R)\/(st.tplace t=none/\DaH ad z (stepS t st) H' R))) (EX.ifs ?_) ?_)
  ·refine EB.cmp (EV.locN n1 rfl (EV.attr (EV.locN n0 rfl (GA.da kf (.head _) (hq:=?_)))))
   refine CP.notIn (CP.inS m_3 ?_)
   refine ⟨_,rfl,_,.bool _,?_⟩
   rw [DS.tplace_dget]
   refine ⟨fun h=>?_,fun h=>?_⟩
   ·have hn:st.tplace t=none:=by cases hp:st.tplace t with | none=>rfl | some x=>rw [hp] at h; simp at h
    refine XS.cons (EX.setItem (EV.attr (EV.locN n0 rfl (GA.da kf (.head _) (hq:=EV.attr (EV.locN n0 rfl (GA.da kf (.head _) (hq:=EV.locN n1 rfl ?_))))))))
    refine SI.da_strs hts hn fun H' hD=>?_
    refine XS.cons (EX.forL hr'.handled ?_)
    refine EV.call (EV.glbN g_string_words (EL.cons (EV.locN n1 rfl (EL.nil (kpAnd kp_string_words.at ?_)))))
    refine string_words_ok kf (k:=k) hr' ht fun l=>?_
    refine ⟨l,(sw t).map .int,rfl,fun m H' vs'=>DaH ad z (((sw t).take m).foldl DS.push { st with texts:=st.texts++[(t,st.size)] }) H' ((l,.list ((sw t).map .int))::R)/\∃ y,vs'=[some (.ref z.da),some (.str t),y],⟨DaH.cons hD,none,rfl⟩,?_,?_,?_⟩
    ·rintro m H' vs' ⟨h,_⟩
     exact h.mem (.head _)
    ·rintro it m x H4 vs4 N hN hx ⟨h,y,rfl⟩
     rw [List.getElem?_map,Option.map_eq_some_iff] at hx
     obtain ⟨q,hq',rfl⟩:=hx
     have hlt:=(List.getElem?_eq_some_iff.mp hq').1
     have hsl:=sw_len t
     obtain ⟨a1,a2,pa⟩:=DaH.cons (q:=(it,AObj.io (IObj.liter l (m+1)))) h
     refine AS.locN n2 (XS.perm pa ?_)
     unfold daE
     refine XS.cons (EX.expr (EV.meth (EV.locN n0 rfl (GM.da kf m_0 (EL.cons (EV.locN n2 rfl (EL.nil (kpAnd kp1.at ?_))))))))
     refine add_word_ok kf (k:=k) hr' (st:=((sw t).take m).foldl DS.push { st with texts:=st.texts++[(t,st.size)] }) DaH.of ?_ fun H' hH'=>?_
     ·rw [pushes]
      simp only [List.length_append,List.length_take]
      exact lin (Nat.add_le_add hz (Nat.add_le_add (Nat.min_le_right (m) ((sw t).length)) hsl)) (by simp +arith)
     refine ⟨trivial,?_⟩
     obtain ⟨H5,q1,q2⟩:=DaH.front hH'
     refine XS.perm q1 (XS.nil (hN ⟨_,.head,?_,_,rfl⟩))
     rw [List.take_add_one,hq',List.foldl_append]
     exact q2
    ·rintro H4 vs4 ⟨h,y,rfl⟩
     rw [List.length_map,List.take_length] at h
     obtain ⟨H5,q1,q2⟩:=DaH.front h
     refine XS.nil (XS.perm q1 (XS.forget .head (XS.nil ⟨rfl,y,rfl,.inr ⟨hn,q2⟩⟩)))
   ·have hn:∃ x,st.tplace t=some x:=by cases hp:st.tplace t with | none=>rw [hp] at h; simp at h | some x=>exact ⟨x,rfl⟩
    obtain ⟨x,hx⟩:=hn
    exact XS.nil ⟨rfl,none,rfl,.inl ⟨x,hx,DaH.of⟩⟩
  ·rintro fl H' vs' ⟨rfl,y,rfl,h⟩
   have key:∀ (s:DS) (x:Int),s.tplace t=some x->DaH ad z s H' R->(∀ H'',DaH ad z s H'' R->Q (.int x) H'')->XS D fm A' env ((fnBody (methAt 11 2)).drop 1) H' [some (.ref z.da),some (.str t),y] (fun fl H' x=>match fl with | .ret x=>Q x H' | .next=>Q .none H' | _=>False):=fun s x hx hs hQ=>by
    obtain ⟨a1,a2,pa⟩:=hs
    refine XS.perm pa (XS.cons (EX.ret (EV.sub (EV.attr (EV.locN n0 rfl (GA.da kf (.head _) (hq:=EV.locN n1 rfl ?_)))))))
    refine GI.dictS (x:=.int x) m_3 (by rw [DS.tplace_dget,hx]; rfl) ?_
    exact hQ _ DaH.of
   rcases h with ⟨x,hx,hs⟩ | ⟨hn,hs⟩
   ·exact key st x hx hs fun H'' h''=>hq1 x H'' hx h''
   ·refine key (stepS t st) st.size ?_ hs fun H'' h''=>hq2 H'' hn h''
    unfold stepS
    rw [pushes]
    unfold DS.tplace at hn ⊢
    have hfn:=Option.map_eq_none_iff.mp hn
    simp only [List.find?_append,hfn]
    simp
end
end Mine
end
section
set_option maxHeartbeats 4000000
namespace Mine
section
variable {D:Wd} {ad:Ads} {A:Around} {H R W:HL}
theorem CC.fnK {k:Nat} {f:Addr} {qual:Str} {st:Stmt} {ps os:List Str} {xs:List V} {Q:V->HL->Prop} (hf:FnK D.K f qual st) (hroom:Rm (k+1) A)
  (hb:∀ (doc pm cdv ct:Value) (an:Option Addr) (ws:List Value),ws.length=xs.length->bindArgs (fnOf (fnName st) qual (fnParams st) (fnBody st) (fnScope st) .none .none doc pm an cdv ct) ⟨ws,[]⟩=pure (ps.zip ws)) (hl:ps.length=xs.length)
  (hloc:(ps.all fun x=>(fnScope st).names.lookup x==some .local)=true) (nd:(ps++os).Nodup) (hcell:((fnScope st).names.all fun x=>x.2 != .cell)=true)
  (h:∀ (fm:Fm) (env:Env) (A':Around),fm.ns=ps++os->env.scope=fnScope st->Rm k A'->XS D fm A' env (fnBody st) H (xs.map some++List.replicate os.length none) (outQ Q))
  (hco:(fnScope st).isCoroutine=false:=by rfl) (hgen:(fnScope st).isGenerator=false:=by rfl) (hk:(fnScope st).kind=.function:=by rfl):CC D A f xs H Q:=by
 obtain ⟨oc,od,osl,doc,pm,an,cdv,ct,h1,h2⟩:=hf.ex
 refine CC.fn h1 h2 hroom (hb doc pm cdv ct an) hl (fun x hx=>?_) nd (fun fm hns A' hr=>h fm _ A' hns rfl hr) (fun x hx=>?_) hco hgen hk
 ·simpa using List.all_eq_true.mp hloc x hx
 ·simpa using List.all_eq_true.mp hcell x hx
theorem CL.fnD {k:Nat} {f:Addr} {qual:Str} {st:Stmt} {ps os:List Str} {xs xs':List V} {Q:V->HL->Prop} (hf:FnKD D.K f qual st) (hroom:Rm (k+1) A)
  (hb:∀ (doc pm cdv ct:Value) (an:Option Addr) (s:Shared) (Td:Addr) (ot:Obj) (n:Nat) (t1 t2:Tok) (T:Led) (ws:List Value),s.heap.get? Td=some ot->ot.data=.seq #[.str "" t1,.str "" t2] n->VRels T xs ws->
   ∃ ws',VRels T xs' ws'/\BindsTo s (fnOf (fnName st) qual (fnParams st) (fnBody st) (fnScope st) (.ref Td) .none doc pm an cdv ct) ⟨ws,[]⟩ (ps.zip ws')) (hl:ps.length=xs'.length)
  (hloc:(ps.all fun x=>(fnScope st).names.lookup x==some .local)=true) (nd:(ps++os).Nodup) (hcell:((fnScope st).names.all fun x=>x.2 != .cell)=true)
  (h:∀ (fm:Fm) (env:Env) (A':Around),fm.ns=ps++os->env.scope=fnScope st->Rm k A'->XS D fm A' env (fnBody st) H (xs'.map some++List.replicate os.length none) (outQ Q))
  (hco:(fnScope st).isCoroutine=false:=by rfl) (hgen:(fnScope st).isGenerator=false:=by rfl) (hk:(fnScope st).kind=.function:=by rfl):CL D A (.ref f) xs H Q:=by
 obtain ⟨oc,od,osl,doc,pm,an,cdv,ct,Td,ot,n,t1,t2,h1,h2,h3,h4⟩:=hf.ex
 refine .ofCC ⟨fun fm T s vs ws I hw=>?_⟩
 obtain ⟨ws',hw',bt⟩:=hb doc pm cdv ct an s Td ot n t1 t2 T ws (I.k _ _ h3) h4 hw
 obtain ⟨F',hsz,inn,back,old,_⟩:=I.enter (ps++os) nd
 have hlen:=hw'.length
 have ndp:ps.Nodup:=(List.nodup_append.mp nd).1
 refine (codeAny_call_def (fd:=fnOf (fnName st) qual (fnParams st) (fnBody st) (fnScope st) (.ref Td) .none doc pm an cdv ct) (body:=fnBody st) (binds:=ps.zip ws') (by have:=hroom.depth; show A.depth < 1000; exact linL this (by simp +arith)) (I.k _ _ h1) rfl I.nolimit (codeRec_of I.k h2) rfl
  bt (fun x hx=>by simpa using List.all_eq_true.mp hcell x hx) (fun x hx=>by simpa using List.all_eq_true.mp hloc x.1 (List.of_mem_zip hx).1) (fun h₀ hns hk₀=>?_) hco hgen hk)
 have I':=inn s.heap.objs.size h₀ (s.toks+(ps.zip ws').length) _ (xs'.map some++List.replicate os.length none) (Nat.le_refl _) hns hk₀
  ((locRel_binds (lookup_zip ndp) hl hw').append (LocRel.nones os))
 refine wpNoE ((h ⟨F',s.heap.objs.size,s.gens,s.os,ps++os,nd⟩ _ _ rfl rfl hroom.deeper).run ⟨hk,rfl,rfl,rfl⟩ T _ I') fun fl s' ⟨T',fl',H',vs',st,I'',hfl,hq⟩=>?_
 have I3:=back _ _ _ _ _ _ I.gens st I''
 cases hfl with
 | next=>exact ⟨T',.none,H',st,I3,.none,hq⟩
 | brk=>exact hq.elim
 | cont=>exact hq.elim
 | ret hr=>exact ⟨T',_,H',st,I3,hr,hq⟩
theorem type_ok (kf:KF D ad) {k:Nat} (hr:Rm (k+2) A) {n:Int} {f:Str} {s:Int} {Q:V->HL->Prop}
  (hq:∀ x fl pl hl H',H'.Perm ((x,.inst ad.cType (TyD.at ⟨n,f,s,.none,0,fl,0,pl,"","",hl,0⟩))::(fl,.list [])::(pl,.list [])::(hl,.list [])::H)->Q (.ref x) H'):CL D A (.ref ad.cType) [.int n,.str f,.int s] H Q:=by
 refine CL.make kf.tyMake hr fun x A₁ hr₁=>?_
 refine CC.fnK (k:=k) (ps:=["self","number","form","size"]) (os:=[]) kf.ty_init hr₁ (fun doc pm cdv ct an ws h=>?_) rfl (by rfl) (by decide) (by rfl) fun fm env A' hns hsc hr'=>?_
 ·revert ws h; refine bl4 ?_; intros; rfl
 ·
  have n0:=lN hsc hns "self" 0
  have n1:=lN hsc hns "number" 1
  have n2:=lN hsc hns "form" 2
  have n3:=lN hsc hns "size" 3
  refine XS.cons (EX.setAttr (EV.locN n1 rfl (EV.locN n0 rfl ?_)))
  refine SA.own .head (kf.tyAttr _ (by decide)) (Nat.le_of_ble_eq_true (by rfl)) ?_
  refine XS.cons (EX.setAttr (EV.locN n2 rfl (EV.locN n0 rfl ?_)))
  refine SA.own .head (kf.tyAttr _ (by decide)) (Nat.le_of_ble_eq_true (by rfl)) ?_
  refine XS.cons (EX.setAttr (EV.locN n3 rfl (EV.locN n0 rfl ?_)))
  refine SA.own .head (kf.tyAttr _ (by decide)) (Nat.le_of_ble_eq_true (by rfl)) ?_
  refine XS.cons (EX.setAttr (EV.cnone (EV.locN n0 rfl ?_)))
  refine SA.own .head (kf.tyAttr _ (by decide)) (Nat.le_of_ble_eq_true (by rfl)) ?_
  refine XS.cons (EX.setAttr (EV.int (EV.locN n0 rfl ?_)))
  refine SA.own .head (kf.tyAttr _ (by decide)) (Nat.le_of_ble_eq_true (by rfl)) ?_
  refine XS.cons (EX.setAttr (EV.list (EL.nil (leAnd rfl ?_))))
  intro fl
  refine EV.locN n0 rfl ?_
  refine SA.own .at1 (kf.tyAttr _ (by decide)) (Nat.le_of_ble_eq_true (by rfl)) ?_
  refine XS.cons (EX.setAttr (EV.int (EV.locN n0 rfl ?_)))
  refine SA.own .head (kf.tyAttr _ (by decide)) (Nat.le_of_ble_eq_true (by rfl)) ?_
  refine XS.cons (EX.setAttr (EV.list (EL.nil (leAnd rfl ?_))))
  intro pl
  refine EV.locN n0 rfl ?_
  refine SA.own .at1 (kf.tyAttr _ (by decide)) (Nat.le_of_ble_eq_true (by rfl)) ?_
  refine XS.cons (EX.setAttr (EV.str (EV.locN n0 rfl ?_)))
  refine SA.own .head (kf.tyAttr _ (by decide)) (Nat.le_of_ble_eq_true (by rfl)) ?_
  refine XS.cons (EX.setAttr (EV.str (EV.locN n0 rfl ?_)))
  refine SA.own .head (kf.tyAttr _ (by decide)) (Nat.le_of_ble_eq_true (by rfl)) ?_
  refine XS.cons (EX.setAttr (EV.list (EL.nil (leAnd rfl ?_))))
  intro hl
  refine EV.locN n0 rfl ?_
  refine SA.own .at1 (kf.tyAttr _ (by decide)) (Nat.le_of_ble_eq_true (by rfl)) ?_
  refine XS.cons (EX.setAttr (EV.int (EV.locN n0 rfl ?_)))
  refine SA.own .head (kf.tyAttr _ (by decide)) (Nat.le_of_ble_eq_true (by rfl)) ?_
  refine XS.nil ?_
  refine ⟨rfl,hq x fl pl hl _ ?_⟩
  show List.Perm ((x,AObj.inst ad.cType (TyD.at ⟨n,f,s,.none,0,fl,0,pl,"","",hl,0⟩))::(hl,.list [])::(pl,.list [])::(fl,.list [])::H) _
  exact Ext.pc .at0 (Ext.pc .at2 (Ext.pc .at1 (.refl _)))
theorem obj_ok (kf:KF D ad) {k:Nat} (hr:Rm (k+2) A) {nm kd:Str} {t:Addr} {Q:V->HL->Prop}
  (hq:∀ x,Q (.ref x) ((x,.inst ad.cObj (obAt nm kd (.ref t) 0))::H)):CL D A (.ref ad.cObj) [.str nm,.str kd,.ref t,.int 0] H Q:=by
 refine CL.make kf.obMake hr fun x A₁ hr₁=>?_
 refine CC.fnK (k:=k) (ps:=["self","name","kind","type_of","place"]) (os:=[]) kf.ob_init hr₁ (fun doc pm cdv ct an ws h=>?_) rfl (by rfl) (by decide) (by rfl) fun fm env A' hns hsc hr'=>?_
 ·revert ws h; refine bl5 ?_; intros; rfl
 ·
  have n0:=lN hsc hns "self" 0
  have n1:=lN hsc hns "name" 1
  have n2:=lN hsc hns "kind" 2
  have n3:=lN hsc hns "type_of" 3
  have n4:=lN hsc hns "place" 4
  iterate 14
   refine XS.cons (EX.setAttr ?_)
   first | refine EV.bool (EV.locN n0 rfl ?_) | refine EV.int (EV.locN n0 rfl ?_) | refine EV.str (EV.locN n0 rfl ?_) | refine EV.cnone (EV.locN n0 rfl ?_) | refine EV.locN n1 rfl (EV.locN n0 rfl ?_) | refine EV.locN n2 rfl (EV.locN n0 rfl ?_) | refine EV.locN n3 rfl (EV.locN n0 rfl ?_) | refine EV.locN n4 rfl (EV.locN n0 rfl ?_)
   refine SA.own .head (kf.obAttr _ (by decide)) (Nat.le_of_ble_eq_true (by rfl)) ?_
  refine XS.nil ?_
  exact ⟨rfl,hq x⟩
end
end Mine
end
section
set_option maxHeartbeats 4000000
namespace Mine
section
variable {D:Wd} {ad:Ads} {A:Around} {H R W:HL}
noncomputable def tsAt (c:Int) (kd:Addr) (l:List (Str×V)):List (Str×V):=("counter",.int c)::("known",.ref kd)::l
theorem len5 {α:Type}:∀ {l:List α},l.length=5->∃ a b c d e,l=[a,b,c,d,e]:=fun {l} h=>bl5 (P:=fun l=>∃ a b c d e,l=[a,b,c,d,e]) (fun a b c d e=>⟨a,b,c,d,e,rfl⟩) l h
theorem new_ok (kf:KF D ad) {k:Nat} (hr:Rm (k+3) A) {ts kd:Addr} {c:Int} {n:Nat} {l:List (Str×V)} {f md lb:Str} {s:Int} {xs:List V} {Q:V->HL->Prop} (hxs:(xs=[.ref ts,.str f,.int s]/\md=""/\lb="")\/xs=[.ref ts,.str f,.int s,.str md,.str lb])
  (hl:l.length<=100) (hn:n<=1000)
  (hq:∀ x fl pl hl H',H'.Perm ((x,.inst ad.cType (TyD.at ⟨c+1,f,s,.none,0,fl,0,pl,md,lb,hl,0⟩))::(fl,.list [])::(pl,.list [])::(hl,.list [])::(ts,.inst ad.cTypes (tsAt (c+1) kd l))::(kd,.dictT (if lb="" then n else n+1))::R)->Q (.ref x) H') :
  CL D A (.ref ad.ts_new) xs ((ts,.inst ad.cTypes (tsAt c kd l))::(kd,.dictT n)::R) Q:=by
 refine CL.fnD (k:=k+2) (ps:=["self","form","size","module","label"]) (os:=["made"]) (xs':=[.ref ts,.str f,.int s,.str md,.str lb]) kf.ts_new hr (fun doc pm cdv ct an s₀ Td ot nn t1 t2 T ws ho hs hw=>?_) rfl (by rfl) (by decide) (by rfl) fun fm env A' hns hsc hr'=>?_
 ·rcases hxs with ⟨rfl,rfl,rfl⟩ | rfl
  ·obtain ⟨w1,w2,w3,rfl,r1,r2,r3⟩:=vrels3 hw
   exact ⟨[w1,w2,w3,.str "" t1,.str "" t2],.cons r1 (.cons r2 (.cons r3 (.cons (.str _ _) (.cons (.str _ _) .nil)))),BindsTo.of_defaults rfl ho hs rfl rfl⟩
  ·obtain ⟨w1,w2,w3,w4,w5,rfl⟩:=len5 hw.length
   exact ⟨[w1,w2,w3,w4,w5],hw,BindsTo.of_defaults rfl ho hs rfl rfl⟩
 ·
  have n0:=lN hsc hns "self" 0
  have n1:=lN hsc hns "form" 1
  have n2:=lN hsc hns "size" 2
  have n3:=lN hsc hns "module" 3
  have n4:=lN hsc hns "label" 4
  have n5:=lN hsc hns "made" 5
  have kp_Type:=KpA.of kf.tyKeep
  have g_Type:=gN hsc "Type" kf.n_Type
  refine XS.cons (EX.augA (EV.locN n0 rfl (GA.own (.head _) (kf.tsAttr _ (by decide)) (by rfl) (by rfl) (EV.int (IP.add (SA.own .head (kf.tsAttr _ (by decide)) (by show l.length+2 < 1000; exact linL hl (by simp +arith)) ?_))))))
  show XS _ _ _ _ _ ((ts,AObj.inst ad.cTypes (tsAt (c+1) kd l))::(kd,.dictT n)::R) _ _
  refine XS.cons (EX.assignN n5 (EV.call (EV.glbN g_Type (EL.cons (EV.attr (EV.locN n0 rfl ?_))))))
  refine GA.own (.head _) (kf.tsAttr _ (by decide)) (by rfl) (by rfl) ?_
  refine EL.cons (EV.locN n1 rfl (EL.cons (EV.locN n2 rfl (EL.nil (kpAnd kp_Type.at ?_)))))
  refine type_ok kf (k:=k) hr' fun x fl pl hl' H' p=>?_
  refine XS.perm p ?_
  refine XS.cons (EX.setAttr (EV.locN n3 rfl (EV.locN n5 rfl ?_)))
  refine SA.ty_module kf .head ?_
  refine XS.cons (EX.setAttr (EV.locN n4 rfl (EV.locN n5 rfl ?_)))
  refine SA.ty_label kf .head ?_
  show XS _ _ _ _ _ ((x,AObj.inst ad.cType (TyD.at ⟨c+1,f,s,.none,0,fl,0,pl,md,lb,hl',0⟩))::(fl,.list [])::(pl,.list [])::(hl',.list [])::(ts,.inst ad.cTypes (tsAt (c+1) kd l))::(kd,.dictT n)::R) _ _
  refine XS.cons (EX.mono (Q:=fun fl' H' vs'=>fl'=.next/\vs'=[some (.ref ts),some (.str f),some (.int s),some (.str md),some (.str lb),some (.ref x)] /\
   H'.Perm ((x,.inst ad.cType (TyD.at ⟨c+1,f,s,.none,0,fl,0,pl,md,lb,hl',0⟩))::(fl,.list [])::(pl,.list [])::(hl',.list [])::(ts,.inst ad.cTypes (tsAt (c+1) kd l))::(kd,.dictT (if lb="" then n else n+1))::R)) ?_ ?_)
  ·refine EX.ifs (EB.cmp (EV.locN n4 rfl (EV.str (CP.of .neS ⟨_,.bool _,?_⟩))))
   refine ⟨fun h=>?_,fun h=>?_⟩
   ·have hlb:lb≠"":=by simpa using h
    refine XS.cons (EX.setItem (EV.locN n5 rfl (EV.attr (EV.locN n0 rfl (GA.own m_4 (kf.tsAttr _ (by decide)) (by rfl) (by rfl) ?_)))))
    refine EV.tuple (EL.cons (EV.locN n3 rfl (EL.cons (EV.locN n4 rfl (EL.nil (leAnd rfl ?_))))))
    have hu:=hr'.units
    refine SI.dictT .at5 (by have h4:sizeLine=16777216:=(by decide); omega) (by have h5:cLine=9900:=(by rfl); omega) ?_
    refine XS.nil ?_
    rw [if_neg hlb]
    exact ⟨rfl,rfl,Ext.pc .at1 (Ext.pc .at1 (Ext.pc .at1 (Ext.pc .at1 (Ext.pc .at1 (.refl _)))))⟩
   ·have hlb:lb="":=by simpa using h
    refine XS.nil ?_
    rw [if_pos hlb]
    exact ⟨rfl,rfl,.refl _⟩
  ·rintro fl' H' vs' ⟨rfl,rfl,p'⟩
   refine XS.cons (EX.ret (EV.locN n5 rfl ?_))
   exact hq x fl pl hl' _ p'
end
end Mine
end
section
set_option maxHeartbeats 4000000
namespace Mine
section
variable {D:Wd} {ad:Ads} {fm:Fm} {env:Env} {vs:List (Option V)} {A:Around} {H R W:HL}
theorem CC.drop {f:Addr} {xs:List V} {Q:V->HL->Prop} (h:CC D A f xs H (DropV Q)):CC D A f xs H Q:=⟨fun fm T s vs ws I hw=>codeAny_mono (h.run fm T s vs ws I hw) fun r s' hr=>by
 cases r with
 | error e=>exact hr.elim
 | ok r=>
  cases r <;> try exact hr.elim
  obtain ⟨T',x,H',st,I',hx,R,d,hq⟩:=hr
  exact ⟨T',x,R,st,d.inv I',hx,hq⟩⟩
theorem ts_new2 (kf:KF D ad) {k:Nat} (hr:Rm (k+3) A) {ts kd:Addr} {c:Int} {l:List (Str×V)} {f:Str} {s:Int} {Q:V->HL->Prop} (hl:l.length<=100)
  (hq:∀ x fl pl hl,Q (.ref x) ((x,.inst ad.cType (TyD.at ⟨c+1,f,s,.none,0,fl,0,pl,"","",hl,0⟩))::(ts,.inst ad.cTypes (tsAt (c+1) kd l))::(kd,.dictT 0)::R)) :
  CL D A (.ref ad.ts_new) [.ref ts,.str f,.int s] ((ts,.inst ad.cTypes (tsAt c kd l))::(kd,.dictT 0)::R) Q:=
 CL.drop (new_ok kf hr (.inl ⟨rfl,rfl,rfl⟩) hl (by simp +arith) fun x fl pl hl' H' p=>⟨_,.perm p (.cons .at1 (.cons .at1 (.cons .at1 (.refl _)))),hq x fl pl hl'⟩)
noncomputable def PlainTy (ad:Ads) (c:Int) (f:Str) (s:Int) (x:Addr) (o:AObj):Prop:=∃ fl pl hl,o=.inst ad.cType (TyD.at ⟨c,f,s,.none,0,fl,0,pl,"","",hl,0⟩)
theorem types_ok (kf:KF D ad) {k:Nat} (hr:Rm (k+5) A) {Q:V->HL->Prop}
  (hq:∀ ts kd a1 a2 a3 a4 a5 a6 a7 o2 o3 o4,PlainTy ad 2 "char" 1 a2 o2->PlainTy ad 3 "byte" 1 a3 o3->PlainTy ad 4 "integer" 4 a4 o4->
   Q (.ref ts) ((ts,.inst ad.cTypes (tsAt 7 kd [("boolean",.ref a1),("char",.ref a2),("byte",.ref a3),("integer",.ref a4),("mask",.ref a5),("nil",.ref a6),("none",.ref a7)]))::(kd,.dictT 0)::(a4,o4)::(a3,o3)::(a2,o2)::H)) :
  CL D A (.ref ad.cTypes) [] H Q:=by
 refine CL.make kf.tsMake hr fun ts A₁ hr₁=>?_
 refine CC.drop (CC.fnK (k:=k+3) (ps:=["self"]) (os:=[]) kf.ts_init hr₁ (fun doc pm cdv ct an ws h=>?_) rfl (by rfl) (by decide) (by rfl) fun fm env A' hns hsc hr'=>?_)
 ·revert ws h; refine bl1 ?_; intros; rfl
 ·
  have n0:=lN hsc hns "self" 0
  have kp1:KpA D (.ref ad.ts_new):=.of kf.ts_new.keep
  refine XS.cons (EX.setAttr (EV.int (EV.locN n0 rfl ?_)))
  refine SA.own .head (kf.tsAttr _ (by decide)) (Nat.le_of_ble_eq_true (by rfl)) ?_
  refine XS.cons (EX.setAttr (EV.dict0 dict0T fun kd=>EV.locN n0 rfl (SA.own .at1 (kf.tsAttr _ (by decide)) (Nat.le_of_ble_eq_true (by rfl)) ?_)))
  show XS _ _ _ _ _ ((ts,AObj.inst ad.cTypes (tsAt 0 kd []))::(kd,.dictT 0)::H) _ _
  refine XS.cons (EX.setAttr (EV.meth (EV.locN n0 rfl ?_)))
  refine GM.inst (.head _) kf.m_ts_new.get kf.m_ts_new.find kf.m_ts_new.fn (by rfl) ?_
  refine EL.cons (EV.str (EL.cons (EV.int (EL.nil (kpAnd kp1.at ?_)))))
  refine ts_new2 kf (k:=k) hr' (Nat.le_of_ble_eq_true (by rfl)) fun a1 fl1 pl1 hl1=>?_
  refine EV.locN n0 rfl ?_
  refine SA.own .at1 (kf.tsAttr _ (by decide)) (Nat.le_of_ble_eq_true (by rfl)) ?_
  show XS _ _ _ _ _ ((ts,AObj.inst ad.cTypes (tsAt 1 kd [("boolean",.ref a1)]))::_) _ _
  refine XS.perm (Ext.pc .at0 (Ext.pc .at1 (.refl _))) ?_
  refine XS.cons (EX.setAttr (EV.meth (EV.locN n0 rfl ?_)))
  refine GM.inst (.head _) kf.m_ts_new.get kf.m_ts_new.find kf.m_ts_new.fn (by rfl) ?_
  refine EL.cons (EV.str (EL.cons (EV.int (EL.nil (kpAnd kp1.at ?_)))))
  refine ts_new2 kf (k:=k) hr' (Nat.le_of_ble_eq_true (by rfl)) fun a2 fl2 pl2 hl2=>?_
  refine EV.locN n0 rfl ?_
  refine SA.own .at1 (kf.tsAttr _ (by decide)) (Nat.le_of_ble_eq_true (by rfl)) ?_
  show XS _ _ _ _ _ ((ts,AObj.inst ad.cTypes (tsAt 2 kd [("boolean",.ref a1),("char",.ref a2)]))::_) _ _
  refine XS.perm (Ext.pc .at0 (Ext.pc .at1 (.refl _))) ?_
  refine XS.cons (EX.setAttr (EV.meth (EV.locN n0 rfl ?_)))
  refine GM.inst (.head _) kf.m_ts_new.get kf.m_ts_new.find kf.m_ts_new.fn (by rfl) ?_
  refine EL.cons (EV.str (EL.cons (EV.int (EL.nil (kpAnd kp1.at ?_)))))
  refine ts_new2 kf (k:=k) hr' (Nat.le_of_ble_eq_true (by rfl)) fun a3 fl3 pl3 hl3=>?_
  refine EV.locN n0 rfl ?_
  refine SA.own .at1 (kf.tsAttr _ (by decide)) (Nat.le_of_ble_eq_true (by rfl)) ?_
  show XS _ _ _ _ _ ((ts,AObj.inst ad.cTypes (tsAt 3 kd [("boolean",.ref a1),("char",.ref a2),("byte",.ref a3)]))::_) _ _
  refine XS.perm (Ext.pc .at0 (Ext.pc .at1 (.refl _))) ?_
  refine XS.cons (EX.setAttr (EV.meth (EV.locN n0 rfl ?_)))
  refine GM.inst (.head _) kf.m_ts_new.get kf.m_ts_new.find kf.m_ts_new.fn (by rfl) ?_
  refine EL.cons (EV.str (EL.cons (EV.int (EL.nil (kpAnd kp1.at ?_)))))
  refine ts_new2 kf (k:=k) hr' (Nat.le_of_ble_eq_true (by rfl)) fun a4 fl4 pl4 hl4=>?_
  refine EV.locN n0 rfl ?_
  refine SA.own .at1 (kf.tsAttr _ (by decide)) (Nat.le_of_ble_eq_true (by rfl)) ?_
  show XS _ _ _ _ _ ((ts,AObj.inst ad.cTypes (tsAt 4 kd [("boolean",.ref a1),("char",.ref a2),("byte",.ref a3),("integer",.ref a4)]))::_) _ _
  refine XS.perm (Ext.pc .at0 (Ext.pc .at1 (.refl _))) ?_
  refine XS.cons (EX.setAttr (EV.meth (EV.locN n0 rfl ?_)))
  refine GM.inst (.head _) kf.m_ts_new.get kf.m_ts_new.find kf.m_ts_new.fn (by rfl) ?_
  refine EL.cons (EV.str (EL.cons (EV.int (EL.nil (kpAnd kp1.at ?_)))))
  refine ts_new2 kf (k:=k) hr' (Nat.le_of_ble_eq_true (by rfl)) fun a5 fl5 pl5 hl5=>?_
  refine EV.locN n0 rfl ?_
  refine SA.own .at1 (kf.tsAttr _ (by decide)) (Nat.le_of_ble_eq_true (by rfl)) ?_
  show XS _ _ _ _ _ ((ts,AObj.inst ad.cTypes (tsAt 5 kd [("boolean",.ref a1),("char",.ref a2),("byte",.ref a3),("integer",.ref a4),("mask",.ref a5)]))::_) _ _
  refine XS.perm (Ext.pc .at0 (Ext.pc .at1 (.refl _))) ?_
  refine XS.cons (EX.setAttr (EV.meth (EV.locN n0 rfl ?_)))
  refine GM.inst (.head _) kf.m_ts_new.get kf.m_ts_new.find kf.m_ts_new.fn (by rfl) ?_
  refine EL.cons (EV.str (EL.cons (EV.int (EL.nil (kpAnd kp1.at ?_)))))
  refine ts_new2 kf (k:=k) hr' (Nat.le_of_ble_eq_true (by rfl)) fun a6 fl6 pl6 hl6=>?_
  refine EV.locN n0 rfl ?_
  refine SA.own .at1 (kf.tsAttr _ (by decide)) (Nat.le_of_ble_eq_true (by rfl)) ?_
  show XS _ _ _ _ _ ((ts,AObj.inst ad.cTypes (tsAt 6 kd [("boolean",.ref a1),("char",.ref a2),("byte",.ref a3),("integer",.ref a4),("mask",.ref a5),("nil",.ref a6)]))::_) _ _
  refine XS.perm (Ext.pc .at0 (Ext.pc .at1 (.refl _))) ?_
  refine XS.cons (EX.setAttr (EV.meth (EV.locN n0 rfl ?_)))
  refine GM.inst (.head _) kf.m_ts_new.get kf.m_ts_new.find kf.m_ts_new.fn (by rfl) ?_
  refine EL.cons (EV.str (EL.cons (EV.int (EL.nil (kpAnd kp1.at ?_)))))
  refine ts_new2 kf (k:=k) hr' (Nat.le_of_ble_eq_true (by rfl)) fun a7 fl7 pl7 hl7=>?_
  refine EV.locN n0 rfl ?_
  refine SA.own .at1 (kf.tsAttr _ (by decide)) (Nat.le_of_ble_eq_true (by rfl)) ?_
  show XS _ _ _ _ _ ((ts,AObj.inst ad.cTypes (tsAt 7 kd [("boolean",.ref a1),("char",.ref a2),("byte",.ref a3),("integer",.ref a4),("mask",.ref a5),("nil",.ref a6),("none",.ref a7)]))::_) _ _
  refine XS.perm (Ext.pc .at0 (Ext.pc .at1 (.refl _))) ?_
  refine XS.nil ?_
  refine ⟨_,.cons .at2 (.cons .at2 (.cons .at2 (.cons .at5 (.refl _)))),rfl,hq ts kd a1 a2 a3 a4 a5 a6 a7 _ _ _ ⟨fl2,pl2,hl2,rfl⟩ ⟨fl3,pl3,hl3,rfl⟩ ⟨fl4,pl4,hl4,rfl⟩⟩
end
end Mine
end
section
set_option maxHeartbeats 4000000
namespace Mine
noncomputable def RowOk (is:List Int):Prop:=(∀ i∈is,0<=i/\i < 1024)/\is.length<=2000
section
variable {D:Wd} {ad:Ads} {fm:Fm} {env:Env} {vs:List (Option V)} {A:Around} {H R W:HL}
theorem area_ok (kf:KF D ad) {k:Nat} (hr:Rm (k+2) A) {n:Int} {imp nl:Addr} {Q:V->HL->Prop}
  (hq:∀ z H',z.imp=imp->z.nl=nl->DaH ad z ⟨(n+3).fdiv 4 * 4,[],[],[],[],false⟩ H' R->Q (.ref z.da) H'):CL D A (.ref ad.cDA) [.str "M",.int n,.ref imp] ((nl,.list [])::R) Q:=by
 refine CL.make kf.daMake hr fun x A₁ hr₁=>?_
 refine CC.fnK (k:=k) (ps:=["self","module","variables","import_index"]) (os:=[]) kf.da_init hr₁ (fun doc pm cdv ct an ws h=>?_) rfl (by rfl) (by decide) (by rfl) fun fm env A' hns hsc hr'=>?_
 ·revert ws h; refine bl4 ?_; intros; rfl
 ·
  have n0:=lN hsc hns "self" 0
  have n1:=lN hsc hns "module" 1
  have n2:=lN hsc hns "variables" 2
  have n3:=lN hsc hns "import_index" 3
  refine XS.cons (EX.setAttr (EV.locN n1 rfl (EV.locN n0 rfl ?_)))
  refine SA.own .head (kf.daAttr _ (by decide)) (Nat.le_of_ble_eq_true (by rfl)) ?_
  refine XS.cons (EX.setAttr (EV.locN n3 rfl (EV.locN n0 rfl ?_)))
  refine SA.own .head (kf.daAttr _ (by decide)) (Nat.le_of_ble_eq_true (by rfl)) ?_
  refine XS.cons (EX.setAttr (EV.bin (EV.bin (EV.bin (EV.locN n2 rfl (EV.int ?_))))))
  refine ⟨_,.add,?_⟩
  refine EV.int ?_
  refine ⟨_,.fdiv (by decide) rfl,?_⟩
  refine EV.int ?_
  refine ⟨_,.mul (mulOk (by decide)),?_⟩
  refine EV.locN n0 rfl ?_
  refine SA.own .head (kf.daAttr _ (by decide)) (Nat.le_of_ble_eq_true (by rfl)) ?_
  refine XS.cons (EX.setAttr (EV.list (EL.nil (leAnd rfl ?_))))
  intro wl
  refine EV.locN n0 rfl ?_
  refine SA.own .at1 (kf.daAttr _ (by decide)) (Nat.le_of_ble_eq_true (by rfl)) ?_
  refine XS.cons (EX.setAttr (EV.list (EL.nil (leAnd rfl ?_))))
  intro fl
  refine EV.locN n0 rfl ?_
  refine SA.own .at1 (kf.daAttr _ (by decide)) (Nat.le_of_ble_eq_true (by rfl)) ?_
  refine XS.cons (EX.setAttr (EV.dict0 dict0S fun sd=>EV.locN n0 rfl (SA.own .at1 (kf.daAttr _ (by decide)) (Nat.le_of_ble_eq_true (by rfl)) ?_)))
  refine XS.cons (EX.setAttr (EV.dict0 dict0I fun dd=>EV.locN n0 rfl (SA.own .at1 (kf.daAttr _ (by decide)) (Nat.le_of_ble_eq_true (by rfl)) ?_)))
  refine XS.nil ?_
  refine ⟨rfl,hq ⟨x,wl,fl,sd,dd,imp,nl⟩ _ rfl rfl ⟨0,0,?_⟩⟩
  have es:DS.size ⟨(n+3).fdiv 4 * 4,[],[],[],[],false⟩=(n+3).fdiv 4 * 4:=by simp [DS.size]
  rw [es]
  show List.Perm ((x,AObj.inst ad.cDA (daAt ⟨x,wl,fl,sd,dd,imp,nl⟩ ((n+3).fdiv 4 * 4)))::(dd,.dictI [] 0)::(sd,.dictS [] 0)::(fl,.list [])::(wl,.list [])::(nl,.list [])::R) _
  exact Ext.pc .at0 (Ext.pc .at3 (Ext.pc .at2 (Ext.pc .at1 (Ext.pc .at0 (.refl _)))))
theorem law_next_ok (kf:KF D ad) {k:Nat} (hr:Rm (k+1) A) {row:Addr} {is:List Int} {Q:V->HL->Prop} (hi:RowOk is)
  (hq:∀ n js,0<=n->n < 1024->RowOk js->Q (.int n) ((row,.list (js.map .int))::R)):CL D A (.ref ad.law_next) [.ref row] ((row,.list (is.map .int))::R) Q:=by
 refine CL.drop (CL.fnK (k:=k) (ps:=["row"]) (os:=[]) kf.law_next hr (fun doc pm cdv ct an ws h=>?_) rfl (by rfl) (by decide) (by rfl) fun fm env A' hns hsc hr'=>?_)
 ·revert ws h; refine bl1 ?_; intros; rfl
 ·
  have n0:=lN hsc hns "row" 0
  refine XS.cons (EX.ret (EV.ife (EB.cmp (EV.locN n0 rfl (EV.list (EL.nil (leAnd (by rfl) fun e=>?_)))))))
  have hu:=hr'.units
  have h5:cLine=9900:=by rfl
  refine CP.neNil m_1 (.head _) (by exact linL (Nat.add_le_add hu (Nat.le_of_eq h5.symm)) (by simp +arith)) fun c hc=>⟨_,.bool _,fun hb=>?_,fun hb=>?_⟩
  ·rcases List.eq_nil_or_concat is with rfl | ⟨js,n,rfl⟩
   ·exact absurd rfl (hc hb)
   ·refine EV.meth (EV.locN n0 rfl (GM.listN m_1 (EL.nil (kpAnd .blt ?_))))
    rw [List.concat_eq_append,List.map_append]
    refine CL.pop .at1 ?_ ?_
    ·have:=hi.2
     have h4:sizeLine=16777216:=by decide
     simp at this ⊢
     exact linL (Nat.add_le_add this (Nat.le_of_eq h4.symm)) (by simp +arith)
    have hn:=hi.1 n (by simp)
    exact ⟨_,.cons .at1 (.refl _),hq n js hn.1 hn.2 ⟨fun i h=>hi.1 i (by simp [h]),by have:=hi.2; simp at this; exact lin this (by simp +arith)⟩⟩
  ·refine EV.int ?_
   exact ⟨_,.cons .head (.refl _),hq 0 is (by decide) (by decide) hi⟩
end
end Mine
end
section
set_option maxHeartbeats 4000000
namespace Mine
section
variable {D:Wd} {ad:Ads} {fm:Fm} {env:Env} {vs:List (Option V)} {A:Around} {H R W:HL}
theorem fmod_row {f:Int} (h:0<=f):0<=f.fmod 1024/\f.fmod 1024 < 1024:=by
 rw [Int.fmod_eq_emod_of_nonneg _ (by decide)]; lia
theorem fdiv_row {f:Int} (h:0<=f):0<=f.fdiv 1024:=by
 rw [Int.fdiv_eq_ediv_of_nonneg _ (by decide)]; lia
theorem law_row_ok (kf:KF D ad) {k:Nat} (hr:Rm (k+1) A) {sc:Addr} {so:Obj} {ws:List Value} {n:Nat} {is:List Int} {Q:V->HL->Prop} (m:D.K.lookup sc=some so) (hoc:so.cls=.type "list") (hod:so.data=.seq ws.toArray n) (hws:∀ T,VRels T (is.map .int) ws) (hz:is.length<=2 ^ 20)
  (hq:∀ r js,RowOk js->Q (.ref r) ((r,.list (js.map .int))::H)):CL D A (.ref ad.law_row) [.ref sc] H Q:=by
 refine CL.drop (CL.fnK (k:=k) (ps:=["script"]) (os:=["row","cell","figure","lap"]) kf.law_row hr (fun doc pm cdv ct an ws h=>?_) rfl (by rfl) (by decide) (by rfl) fun fm env A' hns hsc hr'=>?_)
 ·revert ws h; refine bl1 ?_; intros; rfl
 ·
  have n0:=lN hsc hns "script" 0
  have n1:=lN hsc hns "row" 1
  have n2:=lN hsc hns "cell" 2
  have n3:=lN hsc hns "figure" 3
  have n4:=lN hsc hns "lap" 4
  have g_range:=gB hsc "range" kf.n_range boot_range
  have h4:sizeLine=16777216:=by decide
  refine XS.cons (EX.assignN n1 (EV.list (EL.nil (leAnd rfl ?_))))
  intro r
  refine XS.cons (EX.forL hr'.handled (EV.sliceToR (EV.locN n0 rfl (EV.int ⟨sc,so,ws,n,is.map .int,40,rfl,rfl,m,hoc,hod,hws,by simp; exact lin (Nat.add_le_add hz (Nat.le_of_eq h4.symm)) (by simp +arith),fun s1=>?_⟩))))
  have hcl:clipTo 40 (is.map V.int).length<=40:=Nat.min_le_left _ _
  generalize clipTo 40 (is.map V.int).length=c40 at hcl
  rw [<- List.map_take]
  refine ⟨s1,(is.take c40).map .int,rfl,fun i H' vs'=>∃ js,(∀ j∈js,0<=j/\j < 1024)/\js.length<=31 * i/\H'.Perm ((r,.list (js.map .int))::(s1,.list ((is.take c40).map .int))::H)/\∃ x y z,vs'=[some (.ref sc),some (.ref r),x,y,z],⟨[],by simp,by simp,List.Perm.swap _ _ _,none,none,none,rfl⟩,?_,?_,?_⟩
  ·rintro i H' vs' ⟨js,_,_,p,_⟩
   exact p.mem_iff.mpr m_1
  ·rintro it i x H₃ vs₃ N hN hx ⟨js,h1,h2,p,x',y',z',rfl⟩
   rw [List.getElem?_map,Option.map_eq_some_iff] at hx
   obtain ⟨q,hq',rfl⟩:=hx
   have hi40:i < 40:=by
    have:=(List.getElem?_eq_some_iff.mp hq').1
    rw [List.length_take] at this
    exact linL (Nat.add_le_add this (Nat.add_le_add (Nat.min_le_left (c40) (is.length)) hcl)) (by simp +arith)
   refine AS.locN n2 (XS.perm (.cons _ p) ?_)
   refine XS.cons (EX.assignN n3 (EV.mono (Q:=fun y H'=>∃ f,y=.int f/\0<=f/\H'=((it,AObj.io (.liter s1 (i+1)))::(r,.list (js.map .int))::(s1,.list ((is.take c40).map .int))::H)) (EV.ife ?_) ?_))
   ·refine EB.cmp (EV.locN n2 rfl (EV.int (CP.of .ge ⟨_,.bool _,?_⟩)))
    refine ⟨fun h=>?_,fun h=>?_⟩
    ·have h':0<=q:=of_decide_eq_true h
     refine EV.locN n2 rfl ?_
     exact ⟨q,rfl,h',rfl⟩
    ·have h':¬ 0<=q:=of_decide_eq_false h
     refine EV.bin (EV.int (EV.locN n2 rfl ?_))
     refine ⟨_,.sub,?_⟩
     exact ⟨_,rfl,by exact linZ (Int.lt_of_not_ge h') (by simp +arith),rfl⟩
   rintro y H' ⟨f,rfl,hf,rfl⟩
   refine XS.cons (EX.expr (EV.meth (EV.locN n1 rfl (GM.listN m_1 (EL.cons (EV.bin (EV.locN n3 rfl (EV.int ?_))))))))
   refine ⟨_,.mod (by decide),?_⟩
   refine EL.nil (kpAnd .blt ?_)
   refine CL.append .at1 (by simp; exact lin (Nat.add_le_add h2 (Nat.add_le_add (Nat.mul_le_mul_left 31 hi40) (Nat.le_of_eq h4.symm))) (by simp +arith only)) ?_
   refine ⟨trivial,?_⟩
   refine XS.cons (EX.assignN n3 (EV.bin (EV.locN n3 rfl (EV.int ?_))))
   refine ⟨_,.fdiv (by decide) rfl,?_⟩
   have e1:js.map V.int++[.int (f.fmod 1024)]=(js++[f.fmod 1024]).map .int:=by simp
   rw [e1]
   have hb1:∀ j∈js++[f.fmod 1024],0<=j/\j < 1024:=fun j hj=>by
    rcases List.mem_append.mp hj with hj | hj
    ·exact h1 j hj
    ·rw [List.mem_singleton.mp hj]; exact fmod_row hf
   refine XS.cons (EX.forR hr'.handled ?_)
   refine EV.call (EV.glbN g_range (EL.cons (EV.int (EL.nil (kpAnd .typ ?_)))))
   refine CL.range1 fun rg=>?_
   refine ⟨rg,30,_,rfl,.head,by decide,by decide,fun lp H' vs'=>∃ ks g,0<=g/\(∀ j∈ks,0<=j/\j < 1024)/\ks.length<=31 * i+1+lp/\H'.Perm ((it,.io (.liter s1 (i+1)))::(r,.list (ks.map .int))::(s1,.list ((is.take c40).map .int))::H)/\∃ z,vs'=[some (.ref sc),some (.ref r),some (.int q),some (.int g),z],
    ⟨js++[f.fmod 1024],f.fdiv 1024,fdiv_row hf,hb1,by simp; omega,List.Perm.swap _ _ _,z',rfl⟩,?_,?_⟩
   ·rintro it2 lp H4 vs4 N hN hlp ⟨ks,g,hg,hk1,hk2,pk,z2,rfl⟩
    refine AS.locN n4 (XS.perm (.cons _ pk) ?_)
    refine XS.cons (EX.ifs (EB.cmp (EV.locN n3 rfl (EV.int (CP.of .gt ⟨_,.bool _,?_⟩)))))
    refine ⟨fun h=>?_,fun h=>?_⟩
    ·refine XS.cons (EX.expr (EV.meth (EV.locN n1 rfl (GM.listN m_2 (EL.cons (EV.bin (EV.locN n3 rfl (EV.int ?_))))))))
     refine ⟨_,.mod (by decide),?_⟩
     refine EL.nil (kpAnd .blt ?_)
     refine CL.append .at2 (by simp; exact lin (Nat.add_le_add hk2 (Nat.add_le_add (Nat.mul_le_mul_left 31 hi40) (Nat.add_le_add (nLt (a:=lp) (b:=30) hlp) (Nat.le_of_eq h4.symm)))) (by simp +arith only)) ?_
     refine ⟨trivial,?_⟩
     refine XS.cons (EX.assignN n3 (EV.bin (EV.locN n3 rfl (EV.int ?_))))
     refine ⟨_,.fdiv (by decide) rfl,?_⟩
     have e2:ks.map V.int++[.int (g.fmod 1024)]=(ks++[g.fmod 1024]).map .int:=by simp
     rw [e2]
     refine XS.nil (XS.nil ?_)
     refine hN ⟨_,.at1,ks++[g.fmod 1024],g.fdiv 1024,fdiv_row hg,fun j hj=>?_,by simp; exact lin hk2 (by simp +arith),List.Perm.swap _ _ _,_,rfl⟩
     rcases List.mem_append.mp hj with hj | hj
     ·exact hk1 j hj
     ·rw [List.mem_singleton.mp hj]; exact fmod_row hg
    ·refine XS.nil (XS.nil ?_)
     exact hN ⟨_,.head,ks,g,hg,hk1,by exact lin hk2 (by simp +arith),.refl _,_,rfl⟩
   ·rintro H4 vs4 ⟨ks,g,hg,hk1,hk2,pk,z2,rfl⟩
    refine XS.nil (XS.perm pk (XS.nil (hN ⟨_,.head,ks,hk1,?_,.refl _,_,_,_,rfl⟩)))
    have:(30:Int).toNat=30:=rfl
    exact lin (Nat.add_le_add hk2 (Nat.le_of_eq this)) (by simp +arith)
  ·rintro H₃ vs₃ ⟨js,h1,h2,p,x',y',z',rfl⟩
   have hjl:js.length<=31 * 40:=by
    rw [List.length_map,List.length_take] at h2
    exact lin (Nat.add_le_add h2 (Nat.add_le_add (Nat.mul_le_mul_left 31 (Nat.min_le_left (c40) (is.length))) (Nat.mul_le_mul_left 31 hcl))) (by simp +arith only)
   refine XS.nil (XS.perm p (XS.cons (EX.assignN n1 (EV.sliceTo (EV.locN n1 rfl (EV.int ⟨r,js.map .int,160,rfl,rfl,.head _,by simp; exact lin (Nat.add_le_add hjl (Nat.le_of_eq h4.symm)) (by simp +arith),fun r2=>?_⟩))))))
   rw [<- List.map_take]
   generalize clipTo 160 (js.map V.int).length=c160
   refine XS.cons (EX.expr (EV.meth (EV.locN n1 rfl (GM.listN m_0 (EL.nil (kpAnd .blt ?_))))))
   refine CL.reverse .head (by simp [List.length_take]; exact lin (Nat.add_le_add (Nat.min_le_right (c160) (js.length)) (Nat.add_le_add hjl (Nat.le_of_eq h4.symm))) (by simp +arith only)) ?_
   refine ⟨trivial,?_⟩
   refine XS.cons (EX.ret (EV.locN n1 rfl ?_))
   rw [<- List.map_reverse]
   refine ⟨_,.cons .at1 (.cons .at1 (.refl _)),hq r2 _ ⟨fun j hj=>?_,?_⟩⟩
   ·exact h1 j (List.mem_of_mem_take (List.mem_reverse.mp hj))
   ·rw [List.length_reverse,List.length_take]; exact lin (Nat.add_le_add (Nat.min_le_right (c160) (js.length)) hjl) (by simp +arith only)
end
end Mine
end
section
set_option maxHeartbeats 4000000
namespace Mine
noncomputable def lawAt (n:Nat):Stmt:=(fnBody (stmtAt 23)).getD n (.Pass default)
section
variable {D:Wd} {ad:Ads} {fm:Fm} {env:Env} {vs:List (Option V)} {A:Around} {H R W:HL}
structure ImpAt (W:HL) (z:DaA):Prop where
 ex:∃ o oc c' cn qual t cvs doc pm ct,(z.imp,AObj.raw o)∈W/\o.data=.func (fnX (fnName (lawAt 8)) qual (fnParams (lawAt 8)) (fnBody (lawAt 8)) (fnScope (lawAt 8)) [("names",cn)] .none .none doc pm none (.ref c') ct) /\
  (c',AObj.raw oc)∈W/\oc.data=.fields cvs/\cvs[1]?=some (.str qual t)/\(cn,.cell (some (.ref z.nl)))∈W
theorem imp_ok (kf:KF D ad) {z:DaA} (h:ImpAt W z):ImpOk D ad z 1 W:=by
 obtain ⟨o,oc,c',cn,qual,t,cvs,doc,pm,ct,h1,h2,h3,h4,h5,h6⟩:=h.ex
 refine ⟨⟨o,_,h1,h2⟩,fun A H R st Q hr hW hD hq=>?_⟩
 refine .ofCC (CC.fnF (k:=0) (ps:=["name"]) (os:=[]) (hD.mem (hW _ h1)) h2 (hD.mem (hW _ h3)) h4 h5 hr (fun ws h=>?_) rfl (by decide) (by decide) (fun fm env hns hsc hcl A' hr'=>?_) (by decide))
 ·revert ws h; refine bl1 ?_; intros; rfl
 ·obtain ⟨e1,e2,p⟩:=hD
  refine XS.perm p ?_
  have n0:=lN hsc hns "name" 0
  have lf:env.scope.names.lookup ("names":Str)=some NameKind.free:=by rw [hsc]; rfl
  have cf:env.cells.lookup ("names":Str)=some cn:=by rw [hcl]; rfl
  have hcn:∀ {H':HL},(∀ q∈W,q∈H')->(cn,AObj.cell (some (.ref z.nl)))∈H':=fun h=>h _ h6
  have hWr:∀ (H':HL),∀ q∈W,q∈H'++R:=fun H' q hq=>List.mem_append_right _ (hW q hq)
  have tail:∀ (e1 e2:Nat),XS D fm A' env ((fnBody (lawAt 8)).drop 1) (daE ad z { st with imp:=true } (DS.size { st with imp:=true }) e1 e2++R) [some (.str "N")] (fun fl H' x=>match fl with | .ret x=>Q x H' | .next=>Q .none H' | _=>False):=fun e1 e2=>by
   refine XS.cons (EX.ret (EV.bin (EV.meth (EV.free lf cf (hcn (hWr _)) ?_))))
   have mnl:(z.nl,AObj.list [.str "N"])∈daE ad z { st with imp:=true } (DS.size { st with imp:=true }) e1 e2++R:=m_5
   refine GM.index mnl ?_
   refine EL.cons (EV.locN n0 rfl (EL.nil (kpAnd .blt ?_)))
   refine CL.index0 mnl ?_
   refine EV.int ?_
   exact ⟨_,.add,hq _ ⟨e1,e2,.refl _⟩⟩
  refine XS.cons (EX.ifs (EB.cmp (EV.locN n0 rfl (EV.free lf cf (hcn (hWr _)) ?_))))
  cases hi:st.imp with
  | true=>
   have est:st={ st with imp:=true }:=by cases st; simp at hi; subst hi; rfl
   refine CP.notIn (CP.inList (ys:=["N"]) ?_ ?_)
   ·unfold daE; rw [hi]; exact m_5
   refine ⟨_,rfl,_,.bool _,fun h=>absurd h (by decide),fun _=>XS.nil ?_⟩
   have:=tail e1 e2
   rw [<- est] at this
   exact this
  | false=>
   refine CP.notIn (CP.inList (ys:=[]) ?_ ?_)
   ·unfold daE; rw [hi]; exact m_5
   refine ⟨_,rfl,_,.bool _,fun _=>?_,fun h=>absurd h (by decide)⟩
   refine XS.cons (EX.expr (EV.meth (EV.free lf cf (hcn (hWr _)) ?_)))
   unfold daE
   rw [hi]
   refine GM.append (xs:=[]) m_5 ?_
   refine EL.cons (EV.locN n0 rfl (EL.nil (kpAnd .blt ?_)))
   refine CL.append (xs:=[]) .at5 (Nat.zero_le _) ?_
   refine ⟨trivial,XS.nil ?_⟩
   refine XS.perm ?_ (tail e1 e2)
   exact Ext.pc .at1 (Ext.pc .at1 (Ext.pc .at1 (Ext.pc .at1 (Ext.pc .at1 (.refl _)))))
end
end Mine
end
section
set_option maxHeartbeats 4000000
namespace Mine
theorem ifsT {K J:HL->List (Option V)->Prop} {H:HL} {vs:List (Option V)} (h:K H vs):ifsQ K J vs true H:=h
theorem ifsF {K J:HL->List (Option V)->Prop} {H:HL} {vs:List (Option V)} (h:J H vs):ifsQ K J vs false H:=h
noncomputable def bnd:Nat->Nat
 | 0=>3
 | i+1=>4 * bnd i+1
theorem bnd_le {i j:Nat} (h:i<=j):bnd i<=bnd j:=by
 induction h with
 | refl=>exact Nat.le_refl _
 | @step j _ ih=>exact Nat.le_trans ih (show bnd j<=4 * bnd j+1 by simp +arith)
theorem bnd3 (i:Nat):3<=bnd i:=bnd_le (Nat.zero_le i)
structure FT (D:Wd) (ad:Ads) (W:HL) (k:Nat) (m:Nat) (t:Addr) (d:TyD) (ps:List Int):Prop where
 al:AlT ad W t
 mem:(t,.inst ad.cType d.at)∈W
 po:PO D ad W k t ps
 li:LI D ad W k t ps
 asc:ps.Pairwise (· < ·)
 bd:∀ p∈ps,0<=p/\p < d.size
 sz:0<=d.size
 cnt:ps.length<=m
theorem FT.mono {D:Wd} {ad:Ads} {W W':HL} {k k' m m':Nat} {t:Addr} {d:TyD} {ps:List Int} (h:FT D ad W k m t d ps) (hk:k<=k') (hm:m<=m') (hs:∀ q∈W,q∈W'):FT D ad W' k' m' t d ps:=
 ⟨h.al.mono hs,hs _ h.mem,h.po.mono hk hs,h.li.mono hk hs,h.asc,h.bd,h.sz,Nat.le_trans h.cnt hm⟩
theorem ft_plain {D:Wd} {ad:Ads} (kf:KF D ad) {W:HL} {a:Addr} {d:TyD} (m:(a,.inst ad.cType d.at)∈W) (h1:d.form≠"pointer") (h2:d.form≠"array") (h3:d.form≠"record") (hs:0<=d.size):FT D ad W 1 0 a d []:=
 ⟨.inl ⟨d,m,h2⟩,m,po_plain kf m h1 h2 h3,li_plain kf m h1 h2 h3,.nil,(fun _ h=>by cases h),hs,Nat.zero_le _⟩
theorem ft_ptr {D:Wd} {ad:Ads} (kf:KF D ad) {W:HL} {a:Addr} {d:TyD} (m:(a,.inst ad.cType d.at)∈W) (h1:d.form="pointer") (hs:d.size=4):FT D ad W 1 1 a d [0]:=
 ⟨.inl ⟨d,m,by rw [h1]; decide⟩,m,po_ptr kf m h1,li_ptr kf m h1,List.pairwise_singleton _ _,(fun p h=>by rw [List.mem_singleton.mp h,hs]; decide),by exact linZ (Int.le_of_eq hs.symm) (by simp +arith),Nat.le_refl _⟩
theorem arr_asc {n:Nat} {sz:Int} {ps:List Int} (ha:ps.Pairwise (· < ·)) (hb:∀ p∈ps,0<=p/\p < sz):(arrPs n sz ps).Pairwise (· < ·)/\∀ p∈arrPs n sz ps,0<=p/\p < n * sz:=by
 induction n with
 | zero=>exact ⟨.nil,(fun _ h=>by cases h)⟩
 | succ n ih=>
  obtain ⟨h1,h2⟩:=ih
  rw [arrPs_succ]
  have hq:∀ q∈ps.map fun p=>(n:Int) * sz+p,n * sz<=q/\q < (n+1:Nat) * sz:=fun q hq=>by
   obtain ⟨p,hp,rfl⟩:=List.mem_map.mp hq
   have:=hb p hp
   have e:((n+1:Nat):Int) * sz=n * sz+sz:=by rw [Int.natCast_add,Int.add_mul]; simp
   exact ⟨linZ this.1 (by simp +arith only),linZL (Int.add_le_add (Int.le_of_eq e.symm) this.2) (by simp +arith only)⟩
  refine ⟨List.pairwise_append.mpr ⟨h1,List.pairwise_map.mpr (ha.imp fun h=>by exact linZL h (by simp +arith)),fun p hp q hq'=>?_⟩,fun p hp=>?_⟩
  ·have:=h2 p hp
   have:=hq q hq'
   omega
  ·rcases List.mem_append.mp hp with hp | hp
   ·have:=h2 p hp
    have hz:0<=sz\/ps=[]:=by
     cases ps with
     | nil=>exact .inr rfl
     | cons x r=>have:=hb x (.head _); exact .inl (by exact linZ (Int.add_le_add this.2 this.1) (by simp +arith only))
    have e:((n+1:Nat):Int) * sz=n * sz+sz:=by rw [Int.natCast_add,Int.add_mul]; simp
    rcases hz with hz | hz
    ·exact ⟨linZ this.1 (by simp +arith only),linZL (Int.add_le_add this.2 (Int.add_le_add (Int.le_of_eq e.symm) hz)) (by simp +arith only)⟩
    ·subst hz; rw [arrPs_nil] at hp; cases hp
   ·have h3:=hq p hp
    obtain ⟨p',hp',rfl⟩:=List.mem_map.mp hp
    have:=hb p' hp'
    have:0<=(n:Int) * sz:=Int.mul_nonneg (by simp +arith) (by exact linZ (Int.add_le_add this.2 h3.1) (by simp +arith only))
    exact ⟨linZ (Int.add_le_add this h3.1) (by simp +arith only),linZL h3.2 (by simp +arith only)⟩
theorem ft_arr {D:Wd} {ad:Ads} (kf:KF D ad) {W:HL} {a b:Addr} {d e:TyD} {n:Nat} {ps:List Int} (m:(a,.inst ad.cType d.at)∈W) (h1:d.form="array") (hb:d.base=.ref b) (hn:d.length=n) (hn3:n<=3) (hsz:d.size=n * e.size)
  (f:FT D ad W 1 1 b e ps) (he:e.form≠"array") (hs:e.size.natAbs < 2 ^ 64):FT D ad W 2 3 a d (arrPs n e.size ps):=by
 obtain ⟨a1,a2⟩:=arr_asc (n:=n) f.asc f.bd
 have hc:=f.cnt
 have hl:(arrPs n e.size ps).length<=3:=by
  rw [arrPs_length]
  exact Nat.le_trans (Nat.mul_le_mul hn3 hc) (Nat.le_refl _)
 exact ⟨.inr ⟨d,e,b,m,f.mem,h1,hb,he⟩,m,po_arr kf m f.mem h1 hb hn hn3 f.po hs (by exact lin hc (by simp +arith)),li_arr kf m f.mem h1 hb hn hn3 f.li hs (by exact lin hc (by simp +arith)),a1,(fun p hp=>by rw [hsz]; exact a2 p hp),by rw [hsz]; exact Int.mul_nonneg (by simp +arith) f.sz,hl⟩
structure Ff where
 fd:Fd
 td:TyD
 ps:List Int
noncomputable def Ff.fo (f:Ff) (off:Int):Fo:=⟨f.fd.o,f.fd.nm,"field",f.fd.t,off,f.ps⟩
set_option tactic.hygienic true in
theorem plc_asc:∀ {fs:List Ff} {offs:List Int} {s e:Int},Plc s (fs.map (·.fd)) offs e->(∀ f∈fs,f.ps.Pairwise (· < ·)/\(∀ p∈f.ps,0<=p/\p < f.fd.size)/\0<=f.fd.size)->
  ((List.zipWith Ff.fo fs offs).flatMap Fo.sh).Pairwise (· < ·)/\(∀ p∈(List.zipWith Ff.fo fs offs).flatMap Fo.sh,s<=p/\p < e)/\s<=e
 := by
 intro fs
 induction fs with
 | nil=>
  intro offs s e h _
  cases h
  exact ⟨.nil,(fun _ h=>nomatch h),Int.le_refl _⟩
 | cons f fs ih=>
  intro offs s e h hf
  cases h with
  | cons h1 h2 h3=>
   rename_i off offs'
   obtain ⟨f1,f2,f3⟩:=hf f (.head _)
   have h3':Plc (off+f.fd.size) (fs.map (·.fd)) offs' e:=h3
   obtain ⟨a1,a2,a3⟩:=ih h3' fun g hg=>hf g (.tail _ hg)
   have hq:∀ q∈(f.fo off).sh,off<=q/\q < off+f.fd.size:=fun q hq=>by
    obtain ⟨p,hp,rfl⟩:=List.mem_map.mp hq
    have:=f2 p hp
    show off<=off+p/\off+p < _
    exact ⟨linZ this.1 (by simp +arith only),linZL this.2 (by simp +arith only)⟩
   rw [List.zipWith_cons_cons,List.flatMap_cons]
   refine ⟨List.pairwise_append.mpr ⟨List.pairwise_map.mpr (f1.imp fun h=>by exact linZL h (by simp +arith)),a1,fun p hp q hq'=>?_⟩,fun p hp=>?_,by exact linZ (Int.add_le_add h1 (Int.add_le_add a3 f3)) (by simp +arith)⟩
   ·have:=hq p hp
    have:=a2 q hq'
    omega
   ·rcases List.mem_append.mp hp with hp | hp
    ·have:=hq p hp; exact ⟨linZ (Int.add_le_add h1 this.1) (by simp +arith),linZL (Int.add_le_add this.2 a3) (by simp +arith)⟩
    ·have:=a2 p hp; exact ⟨linZ (Int.add_le_add h1 (Int.add_le_add this.1 f3)) (by simp +arith only),linZL this.2 (by simp +arith only)⟩
theorem plc_cnt {m:Nat}:∀ {fs:List Ff} {offs:List Int},(∀ f∈fs,f.ps.length<=m)->((List.zipWith Ff.fo fs offs).flatMap Fo.sh).length<=fs.length * m
 := by
 intro fs
 induction fs with
 | nil=>intro _ _; exact Nat.zero_le _
 | cons f fs ih=>
  intro offs h
  cases offs with
  | nil=>exact Nat.zero_le _
  | cons off offs=>
  rw [List.zipWith_cons_cons,List.flatMap_cons,List.length_append]
  have h1:=h f (.head _)
  have h2:=ih (offs:=offs) fun g hg=>h g (.tail _ hg)
  have h3:((f.fo off).sh).length=f.ps.length:=by simp [Fo.sh,Ff.fo]
  rw [List.length_cons,Nat.add_mul,Nat.one_mul]
  exact lin (Nat.add_le_add h2 (Nat.add_le_add (Nat.le_of_eq h3) h1)) (by simp +arith)
structure RecB (D:Wd) (ad:Ads) (W:HL) (k:Nat) (recs:List Rec) (i:Nat) (r:Rec):Prop where
 ok:RecOk D ad W k recs i r
 form:r.d.form="record"
 seg:∃ segs,Ch D ad W k (.ref r.a) segs/\segs.flatten.Perm r.ps
 asc:r.ps.Pairwise (· < ·)
 bd:∀ p∈r.ps,0<=p/\p < r.d.size
 cnt:r.ps.length<=bnd (i+1)
 lv:r.d.level+1=r.ch.length
 sz:0<=r.d.size
theorem RecB.mono {D:Wd} {ad:Ads} {W W':HL} {k k':Nat} {recs:List Rec} {i:Nat} {r r':Rec} (h:RecB D ad W k recs i r) (hk:k<=k') (hs:∀ q∈W,q∈W'):RecB D ad W' k' (recs++[r']) i r:=by
 obtain ⟨segs,s1,s2⟩:=h.seg
 refine ⟨⟨hs _ h.ok.mem,?_,h.ok.len,h.ok.po.mono hk hs,h.ok.lp.mono hk hs,h.ok.mod,h.ok.small⟩,h.form,⟨segs,s1.mono hk hs,s2⟩,h.asc,h.bd,h.cnt,h.lv,h.sz⟩
 rcases h.ok.base with hb | ⟨j,b,e1,e2,r⟩
 ·exact .inl hb
 ·exact .inr ⟨j,b,e1,by rw [List.getElem?_append_left (List.getElem?_eq_some_iff.mp e2).1]; exact e2,r⟩
theorem RecB.mono' {D:Wd} {ad:Ads} {W W':HL} {k k':Nat} {recs:List Rec} {i:Nat} {r:Rec} (h:RecB D ad W k recs i r) (hk:k<=k') (hs:∀ q∈W,q∈W'):RecB D ad W' k' recs i r:=by
 obtain ⟨segs,s1,s2⟩:=h.seg
 exact ⟨⟨hs _ h.ok.mem,h.ok.base,h.ok.len,h.ok.po.mono hk hs,h.ok.lp.mono hk hs,h.ok.mod,h.ok.small⟩,h.form,⟨segs,s1.mono hk hs,s2⟩,h.asc,h.bd,h.cnt,h.lv,h.sz⟩
theorem RecB.ft {D:Wd} {ad:Ads} (kf:KF D ad) {W:HL} {k:Nat} {recs:List Rec} {i:Nat} {r:Rec} (h:RecB D ad W k recs i r):FT D ad W (k+1) (bnd (i+1)) r.a r.d r.ps:=
 ⟨.inl ⟨r.d,h.ok.mem,by rw [h.form]; decide⟩,h.ok.mem,h.ok.po.mono (Nat.le_succ _) fun _ q=>q,li_rec kf h.ok.mem h.form h.ok.lp,h.asc,h.bd,h.sz,h.cnt⟩
structure RecsB (D:Wd) (ad:Ads) (W:HL) (k:Nat) (recs:List Rec):Prop where
 b:∀ i r,recs[i]?=some r->RecB D ad W k recs i r
 adr:(recs.map (·.a)).Nodup
 num:(recs.map (·.d.number)).Nodup
theorem RecsB.ok {D:Wd} {ad:Ads} {W:HL} {k:Nat} {recs:List Rec} (h:RecsB D ad W k recs) (hc:recs.length<=7):RecsOk D ad W k recs:=⟨fun i r e=>(h.b i r e).ok,h.adr,h.num,hc⟩
theorem mkRec {D:Wd} {ad:Ads} (kf:KF D ad) {W:HL} {k:Nat} {recs:List Rec} {a:Addr} {d:TyD} {fs:List Ff} {offs:List Int} {hs:List Int} {s0 e:Int} {base:Option Nat} {ch:List Nat} {bps:List Int} (hi:recs.length<=6)
  (m1:(a,.inst ad.cType d.at)∈W) (hf:d.form="record") (m2:(d.fields,.list (fs.map fun f=>.ref f.fd.o))∈W) (m3:∀ f∈List.zipWith Ff.fo fs offs,f.ent ad∈W) (m4:(d.hidden,.list (hs.map .int))∈W)
  (hft:∀ f∈fs,FT D ad W (k+1) (bnd recs.length) f.fd.t f.td f.ps/\f.td.size=f.fd.size) (hlen:fs.length<=3) (hpl:Plc s0 (fs.map (·.fd)) offs e)
  (hb:(base=none/\d.base=.none/\s0=0/\bps=[]/\ch=[recs.length]/\d.level=0)\/∃ j b,base=some j/\recs[j]?=some b/\RecB D ad W k recs j b/\d.base=.ref b.a/\s0=b.d.size/\bps=b.ps/\ch=b.ch++[recs.length]/\d.level=b.d.level+1/\b.ch.length<=3)
  (hh:(hs=[]/\e<=d.size)\/∃ x,hs=[x]/\e<=x/\d.size=x+4) (hs0:0<=s0) (hm:d.module="M"\/d.module="N") :
  RecB D ad W (k+3) recs recs.length ⟨a,d,base,ch,bps++((List.zipWith Ff.fo fs offs).flatMap Fo.sh++hs)⟩:=by
 obtain ⟨p1,p2,p3⟩:=plc_asc hpl fun f hf'=>by
  obtain ⟨ft,es⟩:=hft f hf'
  exact ⟨ft.asc,(fun p hp=>by rw [<- es]; exact ft.bd p hp),by rw [<- es]; exact ft.sz⟩
 have hcnt:=plc_cnt (m:=bnd recs.length) (fs:=fs) (offs:=offs) fun f hf'=>(hft f hf').1.cnt
 have hol:=hpl.length
 rw [List.length_map] at hol
 have hes:(List.zipWith Ff.fo fs offs).map (fun f=>V.ref f.o)=fs.map fun f=>.ref f.fd.o:=by
  clear hcnt p1 p2 hpl m3 m2 hft hlen hb
  induction fs generalizing offs with
  | nil=>simp
  | cons f fs ih=>cases offs with
   | nil=>simp at hol
   | cons off offs=>simp only [List.zipWith_cons_cons,List.map_cons]; rw [ih (by simpa using hol)]; rfl
 have hfo:∀ f∈List.zipWith Ff.fo fs offs,∃ g∈fs,f.t=g.fd.t/\f.ps=g.ps:=fun f hf'=>by
  obtain ⟨n,hn,rfl⟩:=List.getElem_of_mem hf'
  rw [List.getElem_zipWith]
  exact ⟨_,List.getElem_mem _,rfl,rfl⟩
 have m2':(d.fields,AObj.list ((List.zipWith Ff.fo fs offs).map fun f=>.ref f.o))∈W:=by rw [hes]; exact m2
 have hbps:(∀ p∈bps,0<=p/\p < s0)/\bps.Pairwise (· < ·)/\bps.length<=bnd recs.length/\∃ segs,Ch D ad W k d.base segs/\segs.flatten.Perm bps:=by
  rcases hb with ⟨_,e2,_,e4,_⟩ | ⟨j,b,_,ej,B,e2,e3,e4,_⟩
  ·subst e4; rw [e2]
   exact ⟨(fun _ h=>by cases h),.nil,Nat.zero_le _,[],.nil,.refl _⟩
  ·subst e4; rw [e2,e3]
   obtain ⟨segs,s1,s2⟩:=B.seg
   exact ⟨B.bd,B.asc,Nat.le_trans B.cnt (bnd_le (List.getElem?_eq_some_iff.mp ej).1),segs,s1,s2⟩
 obtain ⟨b1,b2,b3,segs,s1,s2⟩:=hbps
 have hhs:hs.Pairwise (· < ·)/\(∀ p∈hs,e<=p/\p < d.size)/\hs.length<=1/\e<=d.size:=by
  rcases hh with ⟨rfl,h⟩ | ⟨x,rfl,h1,h2⟩
  ·exact ⟨.nil,(fun _ h=>by cases h),Nat.zero_le _,h⟩
  ·exact ⟨List.pairwise_singleton _ _,(fun p hp=>by rw [List.mem_singleton.mp hp]; exact ⟨linZ h1 (by simp +arith),linZL (Int.le_of_eq h2.symm) (by simp +arith)⟩),Nat.le_refl _,by exact linZ (Int.add_le_add h1 (Int.le_of_eq h2.symm)) (by simp +arith)⟩
 obtain ⟨h1,h2,h3,h4⟩:=hhs
 have own:((List.zipWith Ff.fo fs offs).flatMap Fo.sh++hs).Pairwise (· < ·)/\∀ p∈(List.zipWith Ff.fo fs offs).flatMap Fo.sh++hs,s0<=p/\p < d.size:=by
  refine ⟨List.pairwise_append.mpr ⟨p1,h1,fun p hp q hq=>?_⟩,fun p hp=>?_⟩
  ·have:=p2 p hp
   have:=h2 q hq
   omega
  ·rcases List.mem_append.mp hp with hp | hp
   ·have:=p2 p hp; exact ⟨linZ this.1 (by simp +arith),linZL (Int.add_le_add this.2 h4) (by simp +arith)⟩
   ·have:=h2 p hp; exact ⟨linZ (Int.add_le_add p3 this.1) (by simp +arith),linZL this.2 (by simp +arith)⟩
 have asc:(bps++((List.zipWith Ff.fo fs offs).flatMap Fo.sh++hs)).Pairwise (· < ·):=List.pairwise_append.mpr ⟨b2,own.1,fun p hp q hq=>by
  have:=b1 p hp
  have:=own.2 q hq
  lia⟩
 have cnt:(bps++((List.zipWith Ff.fo fs offs).flatMap Fo.sh++hs)).length<=bnd (recs.length+1):=by
  rw [List.length_append,List.length_append]
  show _<=4 * bnd recs.length+1
  have:fs.length * bnd recs.length<=3 * bnd recs.length:=Nat.mul_le_mul_right _ hlen
  exact lin (Nat.add_le_add hcnt (Nat.add_le_add this (Nat.add_le_add b3 h3))) (by simp +arith)
 have hb7:bnd (recs.length+1)<=2 ^ 16:=Nat.le_trans (bnd_le (j:=7) (by exact lin hi (by simp +arith))) (by decide)
 have chn:Ch D ad W (k+1) (.ref a) (((List.zipWith Ff.fo fs offs).flatMap Fo.sh++hs)::segs):=
  .cons m1 m2' (fun f hf'=>by
   obtain ⟨g,hg,e1,e2⟩:=hfo f hf'
   exact ⟨m3 f hf',by rw [e1,e2]; exact (hft g hg).1.po⟩) m4 (s1.mono (Nat.le_succ _) fun _ q=>q)
 have hperm:((((List.zipWith Ff.fo fs offs).flatMap Fo.sh++hs)::segs).flatten).Perm (bps++((List.zipWith Ff.fo fs offs).flatMap Fo.sh++hs)):=by
  rw [List.flatten_cons]
  exact (List.Perm.append_left _ s2).trans List.perm_append_comm
 have lp:LP D ad W (k+2) a (bps++((List.zipWith Ff.fo fs offs).flatMap Fo.sh++hs)):=by
  refine lp_rec kf (k:=k+1) (bps:=bps) m1 m2' (fun f hf'=>?_) m4 ?_ (.refl _) asc (by lia)
  ·obtain ⟨g,hg,e1,e2⟩:=hfo f hf'
   exact ⟨m3 f hf',by rw [e1,e2]; exact (hft g hg).1.li⟩
  ·rcases hb with ⟨_,e2,_,e4,_⟩ | ⟨j,b,_,_,B,e2,e3,e4,_⟩
   ·exact .inl ⟨e2,e4⟩
   ·exact .inr ⟨b.a,e2,by rw [e4]; exact B.ok.lp.mono (Nat.le_succ _) fun _ q=>q⟩
 have lvl:d.level+1=ch.length/\ch.length<=4:=by
  rcases hb with ⟨_,_,_,_,e5,e6⟩ | ⟨j,b,_,_,B,_,_,_,e5,e6,e7⟩
  ·rw [e5,e6]; exact ⟨rfl,by simp⟩
  ·have:=B.lv
   rw [e5,e6,List.length_append,List.length_singleton]
   lia
 refine ⟨⟨m1,?_,lvl.2,po_rec kf (k:=k) m1 hf chn hperm asc (Nat.le_trans cnt (Nat.le_trans hb7 (by decide))),lp.mono (by simp +arith) fun _ q=>q,hm,Nat.le_trans cnt hb7⟩,hf,⟨_,chn.mono (by simp +arith) fun _ q=>q,hperm⟩,asc,fun p hp=>?_,cnt,lvl.1,by show 0<=d.size; exact linZ (Int.add_le_add h4 (Int.add_le_add p3 hs0)) (by simp +arith)⟩
 ·rcases hb with ⟨e1,e2,_,_,e5,_⟩ | ⟨j,b,e1,ej,B,e2,_,_,e5,_⟩
  ·exact .inl ⟨e1,e2,e5⟩
  ·exact .inr ⟨j,b,e1,ej,(List.getElem?_eq_some_iff.mp ej).1,e2,e5⟩
 ·show 0<=p/\p < d.size
  rcases List.mem_append.mp hp with hp | hp
  ·have:=b1 p hp; exact ⟨linZ this.1 (by simp +arith only),linZL (Int.add_le_add this.2 (Int.add_le_add h4 p3)) (by simp +arith only)⟩
  ·have:=own.2 p hp; exact ⟨linZ (Int.add_le_add this.1 hs0) (by simp +arith only),linZL this.2 (by simp +arith only)⟩
end Mine
end
section
set_option maxHeartbeats 4000000
-- names: 1 4 5
namespace Mine
noncomputable def lawNs:List Str:=["script","types","records","pointer","number","record","fitting","lap","kind","t","asked","_law_import_at","data","places","texts_met","words","at","found","base","words_at","word","fixups","chain","one","cells","level","spot"]
structure Cz where
 co:Addr
 ct:Addr
 cd:Addr
 cs:Addr
 cx:Addr
 cn:Addr
 cr:Addr
structure LE (fm:Fm) (env:Env) (z:Cz):Prop where
 ns:fm.ns=lawNs
 sc:env.scope=fnScope (stmtAt 23)
 cl:env.cells=[(("row":Str),z.cr),("names",z.cn),("codes_of_x",z.cx),("step",z.cs),("due",z.cd),("start",z.ct),("own_one",z.co)]
structure Bs where
 a1:Addr
 a2:Addr
 a3:Addr
 a4:Addr
 a5:Addr
 a6:Addr
 a7:Addr
 pt:Addr
 d2:TyD
 d3:TyD
 d4:TyD
 dp:TyD
noncomputable def Bs.l7 (b:Bs):List (Str×V):=[("boolean",.ref b.a1),("char",.ref b.a2),("byte",.ref b.a3),("integer",.ref b.a4),("mask",.ref b.a5),("nil",.ref b.a6),("none",.ref b.a7)]
structure BsOk (ad:Ads) (W:HL) (b:Bs):Prop where
 m2:(b.a2,.inst ad.cType b.d2.at)∈W
 f2:b.d2.form="char"/\b.d2.size=1
 m3:(b.a3,.inst ad.cType b.d3.at)∈W
 f3:b.d3.form="byte"/\b.d3.size=1
 m4:(b.a4,.inst ad.cType b.d4.at)∈W
 f4:b.d4.form="integer"/\b.d4.size=4
 mp:(b.pt,.inst ad.cType b.dp.at)∈W
 fp:b.dp.form="pointer"/\b.dp.size=4
theorem BsOk.mono {ad:Ads} {W W':HL} {b:Bs} (h:BsOk ad W b) (hs:∀ q∈W,q∈W'):BsOk ad W' b:=⟨hs _ h.m2,h.f2,hs _ h.m3,h.f3,hs _ h.m4,h.f4,hs _ h.mp,h.fp⟩
noncomputable def recE (ad:Ads) (z:Cz) (b:Bs) (ts kd rw rl:Addr) (recs:List Rec) (js:List Int) (c:Int) (m:Nat) (o:Option V):HL:=
 [(rw,.list (js.map .int)),(z.cr,.cell (some (.ref rw))),(z.co,.cell o),(ts,.inst ad.cTypes (tsAt c kd b.l7)),(kd,.dictT m),(rl,.list (recs.map fun r=>.ref r.a))]
noncomputable def recL (sv:V) (ts rl pt:Addr) (yv:Nat->Option V):List (Option V):=[some sv,some (.ref ts),some (.ref rl),some (.ref pt),yv 4,yv 5,yv 6,yv 7,yv 8,yv 9,yv 10,yv 11,yv 12,yv 13,yv 14,yv 15,yv 16,yv 17,yv 18,yv 19,yv 20,yv 21,yv 22,yv 23,yv 24,yv 25,yv 26]
noncomputable def fldL (sv:V) (ts rl pt:Addr) (i:Nat) (ra:Addr) (yv:Nat->Option V):List (Option V):=[some sv,some (.ref ts),some (.ref rl),some (.ref pt),some (.int i),some (.ref ra),yv 6,yv 7,yv 8,yv 9,yv 10,yv 11,yv 12,yv 13,yv 14,yv 15,yv 16,yv 17,yv 18,yv 19,yv 20,yv 21,yv 22,yv 23,yv 24,yv 25,yv 26]
inductive RecV (sv:V) (ts rl pt:Addr):List (Option V)->Prop where
 | mk (yv:Nat->Option V):RecV sv ts rl pt (recL sv ts rl pt yv)
inductive FldV (sv:V) (ts rl pt:Addr) (i:Nat) (ra:Addr):List (Option V)->Prop where
 | mk (yv:Nat->Option V):FldV sv ts rl pt i ra (fldL sv ts rl pt i ra yv)
theorem RecV.of {sv:V} {ts rl pt:Addr} {vs:List (Option V)} (e:recL sv ts rl pt (fun i=>(vs[i]?).getD none)=vs):RecV sv ts rl pt vs:=e ▸ .mk _
theorem FldV.of {sv:V} {ts rl pt:Addr} {i:Nat} {ra:Addr} {vs:List (Option V)} (e:fldL sv ts rl pt i ra (fun i=>(vs[i]?).getD none)=vs):FldV sv ts rl pt i ra vs:=e ▸ .mk _
inductive RJh (D:Wd) (ad:Ads) (z:Cz) (b:Bs) (ts kd rw rl:Addr) (R:HL) (i:Nat) (H:HL):Prop where
 | mk (recs:List Rec) (W:HL) (js:List Int) (c:Int) (m:Nat) (o:Option V) (h1:recs.length=i) (h2:RecsB D ad W (3 * i+2) recs) (h3:BsOk ad W b) (h4:RowOk js) (h5:∀ r∈recs,r.d.number<=c) (h6:m<=i) (p:H.Perm (recE ad z b ts kd rw rl recs js c m o++(W++R)))
inductive RJ (D:Wd) (ad:Ads) (z:Cz) (b:Bs) (ts kd rw rl:Addr) (R:HL) (sv:V) (i:Nat) (H:HL) (vs:List (Option V)):Prop where
 | mk (h:RJh D ad z b ts kd rw rl R i H) (v:RecV sv ts rl b.pt vs)
theorem str_small:∀ i:Nat,i < 7->(Str.ofString "R").length+(Str.ofString (toString (i:Int))).length<=sizeLine:=by decide
section
variable {D:Wd} {ad:Ads} {fm:Fm} {env:Env} {vs:List (Option V)} {A:Around} {H R W:HL} {z:Cz}
@[reducible] noncomputable def forBody (s:Stmt):List Stmt:=(pt s).b
theorem EV.next {k:Nat} {rw cr:Addr} {js:List Int} {p1 p2 p3:Pos} {Q:V->HL->Prop} (kf:KF D ad) (g:GlbN D env "_law_next" (.ref ad.law_next)) (kp:KpA D (.ref ad.law_next)) (c:CelN env "row" cr) (hr:Rm (k+1) A) (hj:RowOk js)
  (hq:∀ x js',0<=x->x < 1024->RowOk js'->Q (.int x) ((rw,.list (js'.map .int))::(cr,.cell (some (.ref rw)))::R)) :
  EV D fm A env (.Call (.Name (Str.ofString "_law_next") p1) [.Name (Str.ofString "row") p2] [] p3) ((rw,.list (js.map .int))::(cr,.cell (some (.ref rw)))::R) vs Q:=
 EV.call (EV.glbN g (EL.cons (EV.celN c m_1 (EL.nil (kpAnd kp.at (law_next_ok kf hr hj hq))))))
theorem EV.nextMod {k k0:Nat} {rw cr:Addr} {js:List Int} {m:Int} {p1 p2 p3 p4 p5:Pos} {Q:V->HL->Prop} (kf:KF D ad) (g:GlbN D env "_law_next" (.ref ad.law_next)) (kp:KpA D (.ref ad.law_next)) (c:CelN env "row" cr) (hr:Rm (k+1) A) (hm:0 < m) (hj:RowOk js)
  (hq:∀ x js',0<=x->x < m->RowOk js'->Q (.int x) ((rw,.list (js'.map .int))::(cr,.cell (some (.ref rw)))::R)) :
  EV D fm A env (.BinOp (.Call (.Name (Str.ofString "_law_next") p1) [.Name (Str.ofString "row") p2] [] p3) .Mod (.Constant (.int m) k0 p4) p5) ((rw,.list (js.map .int))::(cr,.cell (some (.ref rw)))::R) vs Q:=
 EV.bin (EV.call (EV.glbN g (EL.cons (EV.celN c m_1 (EL.nil (kpAnd kp.at (law_next_ok kf hr hj fun n js' h0 h1 hj'=>EV.int ⟨_,.mod (by exact Int.ne_of_gt (linZL hm (by simp +arith))),hq _ js' (by rw [Int.fmod_eq_emod_of_nonneg _ (by exact linZ hm (by simp +arith))]; exact Int.emod_nonneg _ (by exact Int.ne_of_gt (linZL hm (by simp +arith only)))) (by rw [Int.fmod_eq_emod_of_nonneg _ (by exact linZ hm (by simp +arith only))]; exact Int.emod_lt_of_pos _ hm) hj'⟩)))))))
noncomputable def mkE (ad:Ads) (z:Cz) (b:Bs) (ts kd rw rl ra fl pl hl:Addr) (recs:List Rec) (js:List Int) (c:Int) (m:Nat) (o:Option V) (rd:TyD) (fs:List Ff):HL:=
 [(rw,.list (js.map .int)),(z.cr,.cell (some (.ref rw))),(z.co,.cell o),(ts,.inst ad.cTypes (tsAt c kd b.l7)),(kd,.dictT m),(rl,.list (recs.map fun r=>.ref r.a)),
  (ra,.inst ad.cType rd.at),(fl,.list (fs.map fun f=>.ref f.fd.o)),(pl,.list []),(hl,.list [])]
theorem rec_start (kf:KF D ad) {b:Bs} {ts kd rw rl:Addr} {sv:V} {i:Nat} {Q:Fl->HL->List (Option V)->Prop} (hr:Rm 60 A) (L:LE fm env z) (hi:i < 6)
  (h:RJ D ad z b ts kd rw rl R sv i H vs) (hq:∀ (recs:List Rec) (W:HL) (js:List Int) (c:Int) (m:Nat) (b1:Bool) (md lb:Str) (ra fl pl hl:Addr) (vs':List (Option V)),FldV sv ts rl b.pt i ra vs'->recs.length=i->RecsB D ad W (3 * i+2) recs->BsOk ad W b->RowOk js->(∀ r∈recs,r.d.number<=c)->m<=i+1->(md="M"\/md="N")->
   XS D fm A env ((forBody (lawAt 4)).drop 2) (mkE ad z b ts kd rw rl ra fl pl hl recs js (c+1) m (some (.bool b1)) ⟨c+1,"record",0,.none,0,fl,0,pl,md,lb,hl,0⟩ []++(W++R))
    vs' Q) :
  XS D fm A env (forBody (lawAt 4)) H (vs.set 4 (some (.int i))) Q:=by
 obtain ⟨⟨recs,W,js,c,m,o,hlen,hB,hb,hrow,hnum,hm,p⟩,⟨yv⟩⟩:=h
 obtain ⟨hns,hsc,hcl⟩:=L
 have n1:=lN hsc hns "types" 1
 have n4:=lN hsc hns "number" 4
 have n5:=lN hsc hns "record" 5
 have k_row:=cN (c:=z.cr) hsc hcl "row"
 have k_own_one:=cN (c:=z.co) hsc hcl "own_one"
 have kp_law_next:=KpA.of kf.law_next.keep
 have g_law_next:=gN hsc "_law_next" kf.n_law_next
 have g_len:=gB hsc "len" kf.n_len boot_len
 have g_str:=gB hsc "str" kf.n_str boot_str
 have kp_Obj:=KpA.of kf.obKeep
 have g_Obj:=gN hsc "Obj" kf.n_Obj
 have kp_place_fields:=KpA.of kf.place_fields.keep
 have g_place_fields:=gN hsc "place_fields" kf.n_place_fields
 have g_range:=gB hsc "range" kf.n_range boot_range
 have kp_ts:KpA D (.ref ad.ts_new):=.of kf.ts_new.keep
 refine XS.perm p ?_
 unfold recE
 -- own_one
 refine XS.cons (EX.assignCN k_own_one (EV.mono (Q:=fun v H'=>∃ b1 js1,v=.bool b1/\RowOk js1/\H'=(rw,.list (js1.map .int))::(z.cr,.cell (some (.ref rw)))::(z.co,.cell o)::(ts,.inst ad.cTypes (tsAt c kd b.l7))::(kd,.dictT m)::(rl,.list (recs.map fun r=>.ref r.a))::(W++R)) ?_ ?_))
 ·refine EV.or2 (EV.cmp (EV.nextMod kf g_law_next kp_law_next k_row hr (by decide) hrow fun x js1 hx0 hx1 hrow1=>EV.int (.of .gt ⟨_,.bool _,fun _=>⟨_,js1,rfl,hrow1,rfl⟩,fun _=>EV.cmp (EV.locN n4 rfl (EV.int (.of .eq ⟨_,js1,rfl,hrow1,rfl⟩)))⟩)))
 rintro v H' ⟨b1,js1,rfl,hrow1,rfl⟩
 refine ⟨o,_,.at2,?_⟩
 refine XS.perm (Ext.pc .at1 (Ext.pc .at1 (.refl _))) ?_
 -- record
 refine XS.cons (EX.assignN n5 (EV.meth (EV.locN n1 rfl ?_)))
 refine GM.inst m_3 kf.m_ts_new.get kf.m_ts_new.find kf.m_ts_new.fn (by rfl) ?_
 refine EL.cons (EV.str (EL.cons (EV.int (EL.cons ?_))))
 refine EV.mono (Q:=fun v H'=>∃ md:Str,v=.str md/\(md="M"\/md="N")/\H'=(rw,.list (js1.map .int))::(z.cr,.cell (some (.ref rw)))::(z.co,.cell (some (.bool b1)))::(ts,.inst ad.cTypes (tsAt c kd b.l7))::(kd,.dictT m)::(rl,.list (recs.map fun r=>.ref r.a))::(W++R))
  (EV.ife (EB.val (EV.celN k_own_one m_2 ⟨b1,.bool _,fun _=>EV.str ⟨_,rfl,.inl rfl,rfl⟩,fun _=>EV.str ⟨_,rfl,.inr rfl,rfl⟩⟩))) ?_
 rintro v H' ⟨md,rfl,hmd,rfl⟩
 refine EL.cons (EV.bin (EV.str (EV.call (EV.glbN g_str (EL.cons (EV.locN n4 rfl (EL.nil (kpAnd .typ ?_))))))))
 refine CL.strInt (by simp +arith) (by lia) ?_
 refine ⟨_,.cat (str_small i (by exact linL hi (by simp +arith))),?_⟩
 refine EL.nil (kpAnd kp_ts.at ?_)
 refine CL.perm (Ext.pc .at3 (Ext.pc .at3 (.refl _))) ?_
 refine new_ok kf (k:=50) (hr.le (by decide)) (.inr rfl) (Nat.le_of_ble_eq_true (by rfl)) (by exact lin (Nat.add_le_add hm hi) (by simp +arith)) fun ra fl pl hl H' p'=>?_
 refine XS.perm (p'.trans (Ext.pc .at6 (Ext.pc .at6 (Ext.pc .at6 (Ext.pc .at4 (Ext.pc .at4 (Ext.pc .at4 (.refl _)))))))) ?_
 have hm':∀ x:Str,(if x="" then m else m+1)<=i+1:=fun x=>by split <;> exact lin hm (by simp +arith)
 exact hq recs W js1 c _ b1 md _ ra fl pl hl _ (.of rfl) hlen hB hb hrow1 hnum (hm' _) hmd
end
end Mine
end
section
set_option maxHeartbeats 4000000
-- names: 2 5 6
namespace Mine
section
variable {D:Wd} {ad:Ads} {fm:Fm} {env:Env} {vs:List (Option V)} {A:Around} {H R W:HL} {z:Cz}
theorem rec_base (kf:KF D ad) {b:Bs} {ts kd rw rl ra fl pl hl:Addr} {recs:List Rec} {js:List Int} {c:Int} {m i k:Nat} {b1:Bool} {rd:TyD} {sv:V} {Q:Fl->HL->List (Option V)->Prop} (hr:Rm 60 A) (L:LE fm env z) {yv:Nat->Option V}
  (hB:RecsB D ad W k recs) (hlen:recs.length<=6) (hj:RowOk js) (hrd:rd.base=.none)
  (hq:∀ (js:List Int) (base:V) (vs':List (Option V)),FldV sv ts rl b.pt i ra vs'->RowOk js->(base=.none\/∃ (j:Nat) (r:Rec),recs[j]?=some r/\base=.ref r.a/\r.d.level < 3)->
   XS D fm A env ((forBody (lawAt 4)).drop 4) (mkE ad z b ts kd rw rl ra fl pl hl recs js c m (some (.bool b1)) { rd with base:=base } []++(W++R))
    vs' Q) :
  XS D fm A env ((forBody (lawAt 4)).drop 2) (mkE ad z b ts kd rw rl ra fl pl hl recs js c m (some (.bool b1)) rd []++(W++R))
    (fldL sv ts rl b.pt i ra yv) Q:=by
 obtain ⟨hns,hsc,hcl⟩:=L
 have n2:=lN hsc hns "records" 2
 have n5:=lN hsc hns "record" 5
 have n6:=lN hsc hns "fitting" 6
 have k_row:=cN (c:=z.cr) hsc hcl "row"
 have k_own_one:=cN (c:=z.co) hsc hcl "own_one"
 have kp_law_next:=KpA.of kf.law_next.keep
 have g_law_next:=gN hsc "_law_next" kf.n_law_next
 have g_len:=gB hsc "len" kf.n_len boot_len
 unfold mkE
 generalize hE:([(rw,AObj.list (js.map .int)),(z.cr,.cell (some (.ref rw))),(z.co,.cell (some (.bool b1))),(ts,.inst ad.cTypes (tsAt c kd b.l7)),(kd,.dictT m),(rl,.list (recs.map fun r=>.ref r.a)),
  (ra,.inst ad.cType rd.at),(fl,.list (([]:List Ff).map fun f=>.ref f.fd.o)),(pl,.list []),(hl,.list [])]:HL)++(W++R)=E
 have hW:∀ q∈W,q∈E:=fun q hq=>by rw [<- hE]; exact List.mem_append_right _ (List.mem_append_left _ hq)
 have mrl:(rl,AObj.list (recs.map fun r=>.ref r.a))∈E:=by rw [<- hE]; exact List.mem_append_left _ (by simp)
 have mco:(z.co,AObj.cell (some (.bool b1)))∈E:=by rw [<- hE]; exact List.mem_append_left _ (by simp)
 refine XS.cons (EX.assignComp ["other"] (by decide) (cl:=[("own_one",z.co)]) n6.l n6.i ?_ (swaps_c hsc (by rfl)) ?_ (by decide) (by decide))
 ·simp only [closureFor,cellOf,hcl]
  rfl
 ·refine EV.locN n2 rfl ?_
  refine PI.list mrl fun it=>?_
  intro acc fm' hns' env' he'
  have hse':=rel_scope he' hsc
  have hce':=rel_cells he'
  have m0:=lN hse' hns' "other" 0
  have k_own_one:=cN (c:=z.co) hse' hce' "own_one"
  refine CS.list rfl rfl ⟨PI.self m_1 trivial,fun n H' vs'=>∃ (j:Nat) (ys:List Nat),n=recs.length - j/\j<=recs.length/\(∀ y∈ys,∃ r,recs[y]?=some r/\r.d.level < 3)/\ys.length<=j/\H'.Perm ((it,.io (.liter rl j))::(acc,.list (ys.map (Mine.ra recs)))::E)/\∃ y,vs'=[y],
    ⟨recs.length,0,[],rfl,Nat.zero_le _,(fun _ h=>by cases h),Nat.le_refl _,List.Perm.swap _ _ _,none,rfl⟩,?_⟩
  rintro n H₃ vs₃ N hN ⟨j,ys,rfl,hjl,hys,hyl,p2,y2,rfl⟩
  refine NX.perm p2 (NX.list hr.handled .head (t_2 mrl) (fun x hx=>?_) (fun hx=>?_))
  ·rw [List.getElem?_map,Option.map_eq_some_iff] at hx
   obtain ⟨r,hr',rfl⟩:=hx
   have hjlt:j < recs.length:=(List.getElem?_eq_some_iff.mp hr').1
   have mr:=hW _ (hB.b j r hr').ok.mem
   refine AS.locN m0 (IFS.one ?_)
   have era:Mine.ra recs j=.ref r.a:=ra_of hr'
   refine EB.mono (Q:=fun b H'=>H'=(it,.io (.liter rl (j+1)))::(acc,.list (ys.map (Mine.ra recs)))::E/\(b=true->r.d.level < 3)) (EB.and (EB.cmp (EV.attr (EV.locN m0 rfl (GA.ty kf (t_2 mr) (hq:=EV.int (cmpAnd .lt ⟨fun h1=>?_,fun _=>⟨rfl,fun h=>by cases h⟩⟩))))))) ?_
   ·have h1':r.d.level < 3:=of_decide_eq_true h1
    refine EB.and (EB.or (EB.val (EV.celN k_own_one (t_2 mco) ⟨b1,.bool _,fun _=>?_,fun _=>⟨fun _=>EB.and0 ⟨rfl,fun _=>h1'⟩,fun h=>by cases h⟩⟩)))
    refine EB.or (EB.cmp (EV.attr (EV.locN m0 rfl (GA.ty kf (t_2 mr) (hq:=EV.str (cmpAnd .eqS ⟨fun _=>EB.or0 ⟨(fun h=>by cases h),fun _=>⟨rfl,(fun h=>by cases h)⟩⟩,fun _=>⟨fun _=>EB.and0 ⟨rfl,fun _=>h1'⟩,fun h=>by cases h⟩⟩))))))
   ·rintro bb H' ⟨rfl,hbb⟩
    cases bb with
    | false=>
     exact ifsF (hN ⟨recs.length - (j+1),sub_dn hjlt,j+1,ys,rfl,hjlt,hys,Nat.le_succ_of_le hyl,.refl _,_,rfl⟩)
    | true=>
     refine ifsT (EV.locN m0 rfl ?_)
     refine ⟨ys.map (Mine.ra recs),_,.at1,?_,hN ⟨recs.length - (j+1),sub_dn hjlt,j+1,ys++[j],rfl,hjlt,fun y hy=>?_,by rw [List.length_append]; exact Nat.succ_le_succ hyl,?_,_,rfl⟩⟩
     ·have h4:sizeLine=16777216:=by decide
      simp; exact lin (Nat.add_le_add hyl (Nat.add_le_add hjl (Nat.add_le_add hlen (Nat.le_of_eq h4.symm)))) (by simp +arith)
     ·rcases List.mem_append.mp hy with hy | hy
      ·exact hys y hy
      ·rw [List.mem_singleton.mp hy]; exact ⟨r,hr',hbb rfl⟩
     ·rw [List.map_append,List.map_singleton,era]
      exact List.Perm.swap _ _ _
  ·have hx':j=recs.length:=by
    rw [List.getElem?_map,Option.map_eq_none_iff,List.getElem?_eq_none_iff] at hx
    exact linE hjl (by simp +arith) hx (by simp +arith)
   subst hx'
   subst hE
   show XS _ _ _ _ _ _ _ _
   have hu:=hr.units
   have h5:cLine=9900:=by rfl
   have hfin:∀ (js:List Int) (e:Addr) , RowOk js->XS D fm A env ((forBody (lawAt 4)).drop 4) ((rw,.list (js.map .int))::(z.cr,.cell (some (.ref rw)))::(e,.list [])::(acc,.list (ys.map (Mine.ra recs)))::(z.co,.cell (some (.bool b1)))::(ts,.inst ad.cTypes (tsAt c kd b.l7))::(kd,.dictT m)::(rl,.list (recs.map fun r=>.ref r.a)) ::
     (ra,.inst ad.cType rd.at)::(fl,.list (([]:List Ff).map fun f=>.ref f.fd.o))::(pl,.list [])::(hl,.list [])::(W++R)) ((fldL sv ts rl b.pt i ra yv).set 6 (some (.ref acc))) Q:=fun js e hj=>by
    refine XS.drop (.cons .at2 (.cons .at2 (.refl _))) ?_
    have:=hq js .none ((fldL sv ts rl b.pt i ra yv).set 6 (some (.ref acc))) (.of rfl) hj (.inl rfl)
    rw [<- hrd] at this
    exact this
   refine XS.perm (H':=(rw,.list (js.map .int))::(z.cr,.cell (some (.ref rw)))::(acc,.list (ys.map (Mine.ra recs)))::(z.co,.cell (some (.bool b1)))::(ts,.inst ad.cTypes (tsAt c kd b.l7))::(kd,.dictT m)::(rl,.list (recs.map fun r=>.ref r.a)) ::
     (ra,.inst ad.cType rd.at)::(fl,.list (([]:List Ff).map fun f=>.ref f.fd.o))::(pl,.list [])::(hl,.list [])::(W++R)) (Ext.pc .at1 (Ext.pc .at1 (.refl _))) ?_
   refine XS.cons (EX.ifs (EB.and (EB.cmp (EV.locN n6 rfl (EV.list (EL.nil (leAnd (by rfl) fun e=>?_)))))))
   refine CP.neNil m_3 (.head _) (by exact linL (Nat.add_le_add hu (Nat.le_of_eq h5.symm)) (by simp +arith)) fun bb hbb=>⟨_,.bool _,fun hne=>?_,fun _=>?_⟩
   ·obtain ⟨y,ys',rfl⟩:∃ y ys',ys=y::ys':=List.exists_cons_of_ne_nil fun e=>hbb hne (by rw [e]; rfl)
    refine EB.perm (Ext.pc .at1 (Ext.pc .at1 (.refl _))) (EB.and (EB.cmp (EV.nextMod kf g_law_next kp_law_next k_row hr (by decide) hj fun x js1 hx0 hx1 hj1=>EV.int (cmpAnd .gt ⟨fun _=>EB.and0 ⟨fun _=>?_,(fun h=>by cases h)⟩,fun _=>⟨(fun h=>by cases h),fun _=>XS.nil (hfin js1 e hj1)⟩⟩))))
    refine XS.cons (EX.setAttr (EV.sub (EV.locN n6 rfl (EV.bin (EV.next kf g_law_next kp_law_next k_row hr hj1 fun x2 js2 hx2 hx3 hj2=>EV.call (EV.glbN g_len (EL.cons (EV.locN n6 rfl (EL.nil ⟨.blt,CL.len m_3 ?_ ⟨_,.mod ?_,?_⟩⟩)))))))))
    ·have h4:sizeLine=16777216:=by decide
     simp at hyl ⊢; exact lin (Nat.add_le_add hyl (Nat.add_le_add hlen (Nat.le_of_eq h4.symm))) (by simp +arith)
    ·simp
     lia
    ·have hn:0 < (((y::ys').map (Mine.ra recs)).length:Int):=by simp only [List.length_map,List.length_cons]; simp +arith
     have hm1:0<=x2.fmod (((y::ys').map (Mine.ra recs)).length:Int)/\x2.fmod (((y::ys').map (Mine.ra recs)).length:Int) < (((y::ys').map (Mine.ra recs)).length:Int):=by
      rw [Int.fmod_eq_emod_of_nonneg _ (Int.le_of_lt hn)]
      exact ⟨Int.emod_nonneg _ (Int.ne_of_gt hn),Int.emod_lt_of_pos _ hn⟩
     generalize x2.fmod (((y::ys').map (Mine.ra recs)).length:Int)=ix at hm1
     have hlt:ix.toNat < (y::ys').length:=by have:=hm1.2; simp at this ⊢; omega
     obtain ⟨r,er,hlv⟩:=hys _ (List.getElem_mem hlt)
     refine GI.list m_3 hm1.1 (by have:=hm1.2; simp at this hyl; lia) (by rw [List.getElem?_map,List.getElem?_eq_getElem hlt]; rfl) ?_
     refine EV.locN n5 rfl ?_
     rw [ra_of er]
     refine SA.ty_base kf .at8 (XS.nil ?_)
     refine XS.drop (.cons .at3 (.cons .at3 (.refl _))) ?_
     refine XS.perm ?_ (hq js2 (.ref r.a) ((fldL sv ts rl b.pt i ra yv).set 6 (some (.ref acc))) (.of rfl) hj2 (.inr ⟨_,r,er,rfl,hlv⟩))
     exact (Ext.perm .at6).symm
   ·refine ⟨(fun h=>by cases h),fun _=>XS.nil ?_⟩
    refine XS.perm (Ext.pc .at1 (Ext.pc .at1 (.refl _))) ?_
    exact hfin js e hj
end
end Mine
end
section
set_option maxHeartbeats 4000000
-- names: 1 2 3 5 7 8 9
namespace Mine
noncomputable def fdE (ad:Ads) (z:Cz) (b:Bs) (ts kd rw rl ra fl pl hl:Addr) (recs:List Rec) (js:List Int) (c:Int) (m:Nat) (o:Option V) (rd:TyD) (fs:List Ff) (W R:HL):HL:=
 mkE ad z b ts kd rw rl ra fl pl hl recs js c m o rd fs++(fs.map (fun f=>obEnt ad f.fd 0)++(W++R))
inductive FJh (D:Wd) (ad:Ads) (z:Cz) (b:Bs) (ts kd rw rl ra fl pl hl:Addr) (recs:List Rec) (c₀:Int) (m k:Nat) (o:Option V) (rd:TyD) (W₀ R:HL) (lap:Nat) (H:HL):Prop where
 | mk (fs:List Ff) (W:HL) (js:List Int) (c:Int) (h1:fs.length=lap) (h2:∀ f∈fs,FT D ad W (k+1) (bnd recs.length) f.fd.t f.td f.ps/\f.td.size=f.fd.size) (h3:∀ q∈W₀,q∈W) (h4:c₀<=c) (h5:RowOk js) (p:H.Perm (fdE ad z b ts kd rw rl ra fl pl hl recs js c m o rd fs W R))
inductive FJ (D:Wd) (ad:Ads) (z:Cz) (b:Bs) (ts kd rw rl ra fl pl hl:Addr) (recs:List Rec) (c₀:Int) (m k i:Nat) (o:Option V) (rd:TyD) (W₀ R:HL) (sv:V) (lap:Nat) (H:HL) (vs:List (Option V)):Prop where
 | mk (h:FJh D ad z b ts kd rw rl ra fl pl hl recs c₀ m k o rd W₀ R lap H) (v:FldV sv ts rl b.pt i ra vs)
theorem perm4 {α:Type} (X O W R:List α):(X++(O++(W++R))).Perm (O++((W++X)++R)):=by
 have h1:(X++(O++(W++R))).Perm (O++(X++(W++R))):=by
  rw [<- List.append_assoc,<- List.append_assoc O]
  exact List.Perm.append_right _ List.perm_append_comm
 refine h1.trans (List.Perm.append_left _ ?_)
 rw [<- List.append_assoc]
 exact List.Perm.append_right _ List.perm_append_comm
noncomputable def fldBody:List Stmt:=forBody ((forBody (lawAt 4)).getD 4 (.Pass default))
theorem fstr_small:∀ i:Nat,i < 4->(Str.ofString "f").length+(Str.ofString (toString (i:Int))).length<=sizeLine:=by decide
section
variable {D:Wd} {ad:Ads} {fm:Fm} {env:Env} {vs:List (Option V)} {A:Around} {H R W:HL} {z:Cz}
theorem fld_end (kf:KF D ad) {b:Bs} {ts kd rw rl ra fl pl hl:Addr} {recs:List Rec} {js:List Int} {c₀ c:Int} {m i k lap:Nat} {o:Option V} {rd:TyD} {W₀:HL} {fs:List Ff} {sv:V} {Q:Fl->HL->List (Option V)->Prop} (hr:Rm 60 A) (L:LE fm env z) {yv:Nat->Option V} {y8:Option V}
  {tt:Addr} {td:TyD} {ps:List Int} (hfl:rd.fields=fl) (hlen:fs.length=lap) (hlap:lap < 3) (hft:∀ f∈fs,FT D ad W (k+1) (bnd recs.length) f.fd.t f.td f.ps/\f.td.size=f.fd.size) (hW:∀ q∈W₀,q∈W) (hc:c₀<=c) (hj:RowOk js)
  (ft:FT D ad W (k+1) (bnd recs.length) tt td ps) (p:H.Perm (fdE ad z b ts kd rw rl ra fl pl hl recs js c m o rd fs W R))
  (hq:∀ H' vs',FJ D ad z b ts kd rw rl ra fl pl hl recs c₀ m k i o rd W₀ R sv (lap+1) H' vs'->Q .next H' vs') :
  XS D fm A env (fldBody.drop 4) H ((((fldL sv ts rl b.pt i ra yv).set 7 (some (.int lap))).set 8 y8).set 9 (some (.ref tt))) Q:=by
 obtain ⟨hns,hsc,hcl⟩:=L
 have n1:=lN hsc hns "types" 1
 have n2:=lN hsc hns "records" 2
 have n3:=lN hsc hns "pointer" 3
 have n5:=lN hsc hns "record" 5
 have n7:=lN hsc hns "lap" 7
 have n8:=lN hsc hns "kind" 8
 have n9:=lN hsc hns "t" 9
 have kp_Obj:=KpA.of kf.obKeep
 have g_Obj:=gN hsc "Obj" kf.n_Obj
 have g_str:=gB hsc "str" kf.n_str boot_str
 refine XS.perm p ?_
 unfold fdE mkE
 refine XS.cons (EX.expr (EV.meth (EV.attr (EV.locN n5 rfl ?_))))
 refine GA.ty kf m_6 (hq:=?_)
 rw [hfl]
 refine GM.append m_7 ?_
 refine EL.cons (EV.call (EV.glbN g_Obj (EL.cons (EV.bin (EV.str (EV.call (EV.glbN g_str (EL.cons (EV.locN n7 rfl (EL.nil (kpAnd .typ ?_)))))))))))
 refine CL.strInt (by simp +arith) (by lia) ?_
 refine ⟨_,.cat (fstr_small lap (by exact linL hlap (by simp +arith))),?_⟩
 refine EL.cons (EV.str (EL.cons (EV.locN n9 rfl (EL.cons (EV.int (EL.nil (kpAnd kp_Obj.at ?_)))))))
 refine obj_ok kf (k:=50) (hr.le (by decide)) fun x=>?_
 refine EL.nil (kpAnd .blt ?_)
 refine CL.append .at8 ?_ ?_
 ·have h4:sizeLine=16777216:=by decide
  simp; exact lin (Nat.add_le_add (Nat.le_of_eq hlen) (Nat.add_le_add hlap (Nat.le_of_eq h4.symm))) (by simp +arith)
 refine ⟨trivial,XS.nil (hq _ _ ⟨⟨fs++[⟨⟨x,Str.ofString "f"++Str.ofString (toString (lap:Int)),tt,td.size⟩,td,ps⟩],W,js,c,by simp [hlen],fun f hf=>?_,hW,hc,hj,?_⟩,(.of rfl)⟩)⟩
 ·rcases List.mem_append.mp hf with hf | hf
  ·exact hft f hf
  ·rw [List.mem_singleton.mp hf]; exact ⟨ft,rfl⟩
 ·unfold fdE mkE
  rw [List.map_append,List.map_append]
  refine Ext.pc .at2 (Ext.pc .at2 (Ext.pc .at2 (Ext.pc .at2 (Ext.pc .at2 (Ext.pc .at2 (Ext.pc .at2 (Ext.pc .at0 (Ext.pc .at1 (Ext.pc .at1 ?_)))))))))
  exact (List.perm_middle (l₁:=fs.map fun f=>obEnt ad f.fd 0) (l₂:=W++R)).symm.trans (.of_eq (by simp [obEnt]))
theorem fld_turn (kf:KF D ad) {b:Bs} {ts kd rw rl ra fl pl hl:Addr} {recs:List Rec} {c₀:Int} {m i k lap:Nat} {o:Option V} {rd:TyD} {W₀:HL} {sv:V} {Q:Fl->HL->List (Option V)->Prop} (hr:Rm 60 A) (L:LE fm env z)
  (hfl:rd.fields=fl) (hlap:lap < 3) (hk:2<=k) (hB:RecsB D ad W₀ k recs) (hlen:recs.length<=6) (hb:BsOk ad W₀ b) (hm:m<=100)
  (h:FJ D ad z b ts kd rw rl ra fl pl hl recs c₀ m k i o rd W₀ R sv lap H vs) (hq:∀ H' vs',FJ D ad z b ts kd rw rl ra fl pl hl recs c₀ m k i o rd W₀ R sv (lap+1) H' vs'->Q .next H' vs') :
  XS D fm A env fldBody H (vs.set 7 (some (.int lap))) Q:=by
 obtain ⟨⟨fs,W,js,c,hfs,hft,hW,hc,hj,p⟩,⟨yv⟩⟩:=h
 have L':=L
 obtain ⟨hns,hsc,hcl⟩:=L
 have n1:=lN hsc hns "types" 1
 have n2:=lN hsc hns "records" 2
 have n3:=lN hsc hns "pointer" 3
 have n5:=lN hsc hns "record" 5
 have n7:=lN hsc hns "lap" 7
 have n8:=lN hsc hns "kind" 8
 have n9:=lN hsc hns "t" 9
 have k_row:=cN (c:=z.cr) hsc hcl "row"
 have kp_law_next:=KpA.of kf.law_next.keep
 have g_law_next:=gN hsc "_law_next" kf.n_law_next
 have g_len:=gB hsc "len" kf.n_len boot_len
 have kp_ts:KpA D (.ref ad.ts_new):=.of kf.ts_new.keep
 have hb':=hb.mono hW
 refine XS.perm p ?_
 unfold fdE mkE
 refine XS.cons (EX.assignN n8 (EV.nextMod kf g_law_next kp_law_next k_row hr (by decide) hj fun x js1 hx0 hx1 hj1=>?_))
 refine XS.cons (EX.assignN n9 (EV.sub ?_))
 have hb3:=bnd3 recs.length
 have fin:∀ (js':List Int) (c':Int) (W' H':HL) (tt:Addr) (td:TyD) (ps:List Int) (y8':Option V),RowOk js'->c<=c'->(∀ q∈W,q∈W')->FT D ad W' (k+1) (bnd recs.length) tt td ps->H'.Perm (fdE ad z b ts kd rw rl ra fl pl hl recs js' c' m o rd fs W' R)->
   XS D fm A env (fldBody.drop 4) H' ((((fldL sv ts rl b.pt i ra yv).set 7 (some (.int lap))).set 8 y8').set 9 (some (.ref tt))) Q:=fun js' c' W' H' tt td ps y8' hj' hc' hW' ft p'=>
  fld_end kf hr L' hfl hfs hlap (fun f hf=>⟨(hft f hf).1.mono (Nat.le_refl _) (Nat.le_refl _) hW',(hft f hf).2⟩) (fun q hq=>hW' q (hW q hq)) (Int.le_trans hc hc') hj' ft p' hq
 refine EV.list (EL.cons (EV.attr (EV.locN n1 rfl ?_)))
 refine GA.own m_3 (kf.tsAttr _ (by decide)) (by rfl) rfl ?_
 refine EL.cons (EV.attr (EV.locN n1 rfl ?_))
 refine GA.own m_3 (kf.tsAttr _ (by decide)) (by rfl) rfl ?_
 refine EL.cons (EV.locN n3 rfl (EL.cons (EV.cnone (EL.cons (EV.cnone (EL.nil (leAnd rfl ?_)))))))
 intro a
 refine EV.locN n8 rfl ?_
 have hx5:x=0\/x=1\/x=2\/x=3\/x=4:=by lia
 rcases hx5 with rfl | rfl | rfl | rfl | rfl
 ·refine GI.list (.head _) (by decide) (by decide) rfl ?_
  refine XS.cons (EX.ifs (EB.cmp (EV.locN n8 rfl (EV.int (cmpAnd .eq ⟨fun h=>absurd h (by decide),fun _=>XS.nil ?_⟩)))))
  refine XS.cons (EX.ifs (EB.cmp (EV.locN n8 rfl (EV.int (cmpAnd .eq ⟨fun h=>absurd h (by decide),fun _=>XS.nil ?_⟩)))))
  refine XS.drop (.cons .at0 (.refl _)) (fin js1 c W _ b.a4 b.d4 [] _ hj1 (Int.le_refl _) (fun _ h=>h) ((ft_plain kf hb'.m4 ?_ ?_ ?_ ?_).mono (by simp +arith) (by simp +arith) fun _ h=>h) (.refl _))
  ·rw [hb.f4.1]; decide
  ·rw [hb.f4.1]; decide
  ·rw [hb.f4.1]; decide
  ·rw [hb.f4.2]; decide
 ·refine GI.list (.head _) (by decide) (by decide) rfl ?_
  refine XS.cons (EX.ifs (EB.cmp (EV.locN n8 rfl (EV.int (cmpAnd .eq ⟨fun h=>absurd h (by decide),fun _=>XS.nil ?_⟩)))))
  refine XS.cons (EX.ifs (EB.cmp (EV.locN n8 rfl (EV.int (cmpAnd .eq ⟨fun h=>absurd h (by decide),fun _=>XS.nil ?_⟩)))))
  refine XS.drop (.cons .at0 (.refl _)) (fin js1 c W _ b.a2 b.d2 [] _ hj1 (Int.le_refl _) (fun _ h=>h) ((ft_plain kf hb'.m2 ?_ ?_ ?_ ?_).mono (by simp +arith) (by simp +arith) fun _ h=>h) (.refl _))
  ·rw [hb.f2.1]; decide
  ·rw [hb.f2.1]; decide
  ·rw [hb.f2.1]; decide
  ·rw [hb.f2.2]; decide
 ·refine GI.list (.head _) (by decide) (by decide) rfl ?_
  refine XS.cons (EX.ifs (EB.cmp (EV.locN n8 rfl (EV.int (cmpAnd .eq ⟨fun h=>absurd h (by decide),fun _=>XS.nil ?_⟩)))))
  refine XS.cons (EX.ifs (EB.cmp (EV.locN n8 rfl (EV.int (cmpAnd .eq ⟨fun h=>absurd h (by decide),fun _=>XS.nil ?_⟩)))))
  exact XS.drop (.cons .at0 (.refl _)) (fin js1 c W _ b.pt b.dp [0] _ hj1 (Int.le_refl _) (fun _ h=>h) ((ft_ptr kf hb'.mp hb.fp.1 hb.fp.2).mono (by simp +arith) (by exact lin hb3 (by simp +arith)) fun _ h=>h) (.refl _))
 ·refine GI.list (.head _) (by decide) (by decide) rfl ?_
  refine XS.forget .head ?_
  refine XS.cons (EX.ifs (EB.cmp (EV.locN n8 rfl (EV.int (cmpAnd .eq ⟨fun _=>?_,fun h=>absurd h (by decide)⟩)))))
  refine XS.perm (H':=(rw,.list (js1.map .int))::(z.cr,.cell (some (.ref rw)))::(z.co,.cell o)::(ts,.inst ad.cTypes (tsAt c kd b.l7))::(kd,.dictT m)::(rl,.list (recs.map fun r=>.ref r.a)) ::
   (ra,.inst ad.cType rd.at)::(fl,.list (fs.map fun f=>.ref f.fd.o))::(pl,.list [])::(hl,.list [])::(fs.map (fun f=>obEnt ad f.fd 0)++(W++R))) (.refl _) ?_
  refine XS.cons (EX.assignN n9 (EV.meth (EV.locN n1 rfl ?_)))
  refine GM.inst m_3 kf.m_ts_new.get kf.m_ts_new.find kf.m_ts_new.fn (by rfl) ?_
  refine EL.cons (EV.str (EL.cons (EV.int (EL.nil (kpAnd kp_ts.at ?_)))))
  refine CL.perm (Ext.pc .at3 (Ext.pc .at3 (.refl _))) ?_
  refine new_ok kf (k:=50) (hr.le (by decide)) (.inl ⟨rfl,rfl,rfl⟩) (Nat.le_of_ble_eq_true (by rfl)) (by exact lin hm (by simp +arith)) fun ta fl2 pl2 hl2 H' p'=>?_
  refine XS.perm (p'.trans (Ext.pc .at6 (Ext.pc .at6 (.refl _)))) ?_
  have mW:∀ (X:HL) (q:Addr×AObj),q∈W->q∈X++(fs.map (fun f=>obEnt ad f.fd 0)++(W++R)):=fun X q h=>List.mem_append_right _ (List.mem_append_right _ (List.mem_append_left _ h))
  refine XS.cons (EX.setAttr (EV.sub (EV.list (EL.cons (EV.locN n3 rfl (EL.cons (EV.attr (EV.locN n1 rfl ?_))))))))
  refine GA.own m_6 (kf.tsAttr _ (by decide)) (by rfl) rfl ?_
  refine EL.nil (leAnd rfl ?_)
  intro la
  refine EV.perm (Ext.pc .at1 (Ext.pc .at1 (.refl _))) (EV.nextMod kf g_law_next kp_law_next k_row hr (by decide) hj1 fun x2 js2 hx2 hx3 hj2=>?_)
  have hbase:∃ bb e ps,[V.ref b.pt,.ref b.a3][x2.toNat]?=some (.ref bb)/\FT D ad W 1 1 bb e ps/\e.form≠"array"/\e.size.natAbs < 2 ^ 64:=by
   have:x2=0\/x2=1:=by lia
   rcases this with rfl | rfl
   ·exact ⟨b.pt,b.dp,[0],rfl,ft_ptr kf hb'.mp hb.fp.1 hb.fp.2,by rw [hb.fp.1]; decide,by rw [hb.fp.2]; decide⟩
   ·refine ⟨b.a3,b.d3,[],rfl,(ft_plain kf hb'.m3 ?_ ?_ ?_ ?_).mono (Nat.le_refl _) (by simp +arith) fun _ h=>h,by rw [hb.f3.1]; decide,by rw [hb.f3.2]; decide⟩
    ·rw [hb.f3.1]; decide
    ·rw [hb.f3.1]; decide
    ·rw [hb.f3.1]; decide
    ·rw [hb.f3.2]; decide
  obtain ⟨bb,e,ps,ebb,ftb,hnf,hes⟩:=hbase
  refine GI.list m_2 hx2 (by lia) ebb ?_
  refine EV.locN n9 rfl ?_
  refine SA.ty_base kf .at3 ?_
  refine XS.drop (.cons .at3 (.refl _)) ?_
  refine XS.cons (EX.setAttr (EV.bin (EV.int (EV.perm (Ext.pc .at1 (Ext.pc .at1 (.refl _))) (EV.nextMod kf g_law_next kp_law_next k_row hr (by decide) hj2 fun x3 js3 hx4 hx5 hj3=>⟨_,.add,EV.locN n9 rfl (SA.ty_length kf .at2 ?_)⟩)))))
  have hn:∃ n:Nat,1+x3=n/\n<=3:=⟨(1+x3).toNat,by lia,by lia⟩
  obtain ⟨n,en,hn3⟩:=hn
  rw [en]
  refine XS.perm (H':=(ta,.inst ad.cType (TyD.at ⟨c+1,"array",0,.ref bb,n,fl2,0,pl2,"","",hl2,0⟩))::(rw,.list (js3.map .int))::(z.cr,.cell (some (.ref rw)))::(fl2,.list [])::(pl2,.list [])::(hl2,.list []) ::
   (ts,.inst ad.cTypes (tsAt (c+1) kd b.l7))::(kd,.dictT m)::(z.co,.cell o)::(rl,.list (recs.map fun r=>.ref r.a))::(ra,.inst ad.cType rd.at)::(fl,.list (fs.map fun f=>.ref f.fd.o))::(pl,.list [])::(hl,.list [])::(fs.map (fun f=>obEnt ad f.fd 0)++(W++R))) (.refl _) ?_
  refine XS.cons (EX.setAttr (EV.bin (EV.attr (EV.locN n9 rfl (GA.ty kf (.head _) (hq:=EV.attr (EV.attr (EV.locN n9 rfl (GA.ty kf (.head _) (hq:=GA.ty kf (mW [_,_,_,_,_,_,_,_,_,_,_,_,_,_] _ ftb.mem) (hq:=⟨_,.mul (mulOk hes),EV.locN n9 rfl (SA.ty_size kf .head ?_)⟩)))))))))))
  refine XS.nil ?_
  refine XS.cons (EX.ifs (EB.cmp (EV.locN n8 rfl (EV.int (cmpAnd .eq ⟨fun h=>absurd h (by decide),fun _=>XS.nil ?_⟩)))))
  have mta:(ta,AObj.inst ad.cType (TyD.at ⟨c+1,"array",n * e.size,.ref bb,n,fl2,0,pl2,"","",hl2,0⟩))∈W++[(ta,AObj.inst ad.cType (TyD.at ⟨c+1,"array",n * e.size,.ref bb,n,fl2,0,pl2,"","",hl2,0⟩)),(fl2,.list []),(pl2,.list []),(hl2,.list [])]:=List.mem_append_right _ (.head _)
  refine fin js3 (c+1) _ _ ta _ (arrPs n e.size ps) _ hj3 (by simp +arith) (fun q h=>List.mem_append_left _ h) ((ft_arr kf mta rfl rfl rfl hn3 rfl (ftb.mono (Nat.le_refl _) (Nat.le_refl _) fun q h=>List.mem_append_left _ h) hnf hes).mono (by exact lin hk (by simp +arith)) hb3 fun _ h=>h) ?_
  unfold fdE mkE
  refine Ext.pc .at1 (Ext.pc .at1 (Ext.pc .at6 (Ext.pc .at4 (Ext.pc .at4 (Ext.pc .at4 (Ext.pc .at4 (Ext.pc .at4 (Ext.pc .at4 (Ext.pc .at4 ?_)))))))))
  exact perm4 [_,_,_,_] _ _ _
 ·refine GI.list (.head _) (by decide) (by decide) rfl ?_
  refine XS.forget .head ?_
  refine XS.cons (EX.ifs (EB.cmp (EV.locN n8 rfl (EV.int (cmpAnd .eq ⟨fun h=>absurd h (by decide),fun _=>XS.nil ?_⟩)))))
  refine XS.cons (EX.ifs (EB.cmp (EV.locN n8 rfl (EV.int (cmpAnd .eq ⟨fun _=>?_,fun h=>absurd h (by decide)⟩)))))
  refine XS.perm (H':=(rw,.list (js1.map .int))::(z.cr,.cell (some (.ref rw)))::(z.co,.cell o)::(ts,.inst ad.cTypes (tsAt c kd b.l7))::(kd,.dictT m)::(rl,.list (recs.map fun r=>.ref r.a)) ::
   (ra,.inst ad.cType rd.at)::(fl,.list (fs.map fun f=>.ref f.fd.o))::(pl,.list [])::(hl,.list [])::(fs.map (fun f=>obEnt ad f.fd 0)++(W++R))) (.refl _) ?_
  have hu:=hr.units
  have h5:cLine=9900:=by rfl
  refine XS.cons (EX.assignN n9 (EV.ife (EB.cmp (EV.locN n2 rfl (EV.list (EL.nil (leAnd (by rfl) fun e=>?_)))))))
  refine CP.neNil m_6 (.head _) (by exact linL (Nat.add_le_add hu (Nat.le_of_eq h5.symm)) (by simp +arith)) fun bb hbb=>⟨_,.bool _,fun hne=>?_,fun _=>?_⟩
  ·have hpos:0 < recs.length:=Nat.pos_of_ne_zero fun e=>hbb hne (by rw [List.length_eq_zero_iff.mp e]; rfl)
   refine EV.sub (EV.locN n2 rfl (EV.bin (EV.perm (Ext.pc .at1 (Ext.pc .at1 (.refl _))) (EV.next kf g_law_next kp_law_next k_row hr hj1 fun x2 js2 hx2 hx3 hj2=>EV.call (EV.glbN g_len (EL.cons (EV.locN n2 rfl (EL.nil ⟨.blt,CL.len m_6 ?_ ⟨_,.mod ?_,?_⟩⟩))))))))
   ·have h4:sizeLine=16777216:=by decide
    simp; exact lin (Nat.add_le_add hlen (Nat.le_of_eq h4.symm)) (by simp +arith)
   ·rw [List.length_map]; lia
   ·rw [List.length_map]
    have hm1:0<=x2.fmod (recs.length:Int)/\x2.fmod (recs.length:Int) < recs.length:=by
     rw [Int.fmod_eq_emod_of_nonneg _ (by simp +arith)]
     exact ⟨Int.emod_nonneg _ (by omega),Int.emod_lt_of_pos _ (by lia)⟩
    generalize x2.fmod (recs.length:Int)=ix at hm1
    have hlt:ix.toNat < recs.length:=by lia
    have er:recs[ix.toNat]?=some recs[ix.toNat]:=List.getElem?_eq_getElem hlt
    refine GI.list m_6 hm1.1 (by lia) (by rw [List.getElem?_map,er]; rfl) ?_
    refine XS.nil (XS.drop (.cons .at2 (.refl _)) ?_)
    exact fin js2 c W _ _ _ _ _ hj2 (Int.le_refl _) (fun _ h=>h) (((hB.b _ _ er).ft kf).mono (Nat.le_refl _) (bnd_le (by exact hlt)) hW) (.refl _)
  ·refine EV.locN n3 rfl (XS.nil (XS.drop (.cons .at0 (.refl _)) ?_))
   exact fin js1 c W _ b.pt b.dp [0] _ hj1 (Int.le_refl _) (fun _ h=>h) ((ft_ptr kf hb'.mp hb.fp.1 hb.fp.2).mono (by simp +arith) (by exact lin hb3 (by simp +arith)) fun _ h=>h) (.refl _)
end
end Mine
end
section
set_option maxHeartbeats 4000000
namespace Mine
theorem midW {α:Type} (q:α) (X O W R:List α):(q::(X++(O++(W++R)))).Perm (X++(O++(W++(q::R)))):=by
 refine List.perm_middle.symm.trans (List.Perm.append_left _ ?_)
 refine List.perm_middle.symm.trans (List.Perm.append_left _ ?_)
 exact List.perm_middle.symm
theorem Ext.of_perm {q:Addr×AObj} {H H':HL} (p:H.Perm (q::H')):∃ R,Ext q.1 q.2 H R/\R.Perm H':=by
 obtain ⟨R,e⟩:=Ext.of_mem (p.mem_iff.mpr (.head _))
 exact ⟨R,e,(List.perm_cons q).mp (e.perm.symm.trans p)⟩
section
variable {D:Wd} {ad:Ads} {fm:Fm} {env:Env} {vs:List (Option V)} {A:Around} {H R W:HL} {z:Cz}
theorem FJ.push {b:Bs} {ts kd rw rl ra fl pl hl:Addr} {recs:List Rec} {c₀:Int} {m k i lap:Nat} {o:Option V} {rd:TyD} {W₀:HL} {sv:V} (q:Addr×AObj) (h:FJ D ad z b ts kd rw rl ra fl pl hl recs c₀ m k i o rd W₀ R sv lap H vs) :
  FJ D ad z b ts kd rw rl ra fl pl hl recs c₀ m k i o rd W₀ (q::R) sv lap (q::H) vs:=by
 obtain ⟨⟨fs,W,js,c,h1,h2,h3,h4,h5,p⟩,r⟩:=h
 exact ⟨⟨fs,W,js,c,h1,h2,h3,h4,h5,(p.cons q).trans (midW q _ _ _ _)⟩,r⟩
theorem FJ.pop {b:Bs} {ts kd rw rl ra fl pl hl:Addr} {recs:List Rec} {c₀:Int} {m k i lap:Nat} {o:Option V} {rd:TyD} {W₀:HL} {sv:V} {q:Addr×AObj} (h:FJ D ad z b ts kd rw rl ra fl pl hl recs c₀ m k i o rd W₀ (q::R) sv lap H vs) :
  ∃ H',Ext q.1 q.2 H H'/\FJ D ad z b ts kd rw rl ra fl pl hl recs c₀ m k i o rd W₀ R sv lap H' vs:=by
 obtain ⟨⟨fs,W,js,c,h1,h2,h3,h4,h5,p⟩,r⟩:=h
 obtain ⟨H',e,p'⟩:=Ext.of_perm (p.trans (midW q _ _ _ _).symm)
 exact ⟨H',e,⟨fs,W,js,c,h1,h2,h3,h4,h5,p'⟩,r⟩
theorem rec_fields (kf:KF D ad) {b:Bs} {ts kd rw rl ra fl pl hl:Addr} {recs:List Rec} {js:List Int} {c:Int} {m i k:Nat} {o:Option V} {rd:TyD} {sv:V} {Q:Fl->HL->List (Option V)->Prop} (hr:Rm 60 A) (L:LE fm env z) {yv:Nat->Option V}
  (hfl:rd.fields=fl) (hk:2<=k) (hB:RecsB D ad W k recs) (hlen:recs.length<=6) (hb:BsOk ad W b) (hm:m<=100) (hj:RowOk js)
  (hq:∀ n H' vs',n<=3->FJ D ad z b ts kd rw rl ra fl pl hl recs c m k i o rd W R sv n H' vs'->XS D fm A env ((forBody (lawAt 4)).drop 5) H' vs' Q) :
  XS D fm A env ((forBody (lawAt 4)).drop 4) (mkE ad z b ts kd rw rl ra fl pl hl recs js c m o rd []++(W++R)) (fldL sv ts rl b.pt i ra yv) Q:=by
 have L':=L
 obtain ⟨hns,hsc,hcl⟩:=L
 have n7:=lN hsc hns "lap" 7
 have k_row:=cN (c:=z.cr) hsc hcl "row"
 have kp_law_next:=KpA.of kf.law_next.keep
 have g_law_next:=gN hsc "_law_next" kf.n_law_next
 have g_range:=gB hsc "range" kf.n_range boot_range
 unfold mkE
 refine XS.cons (EX.forR hr.handled (EV.call (EV.glbN g_range (EL.cons (EV.nextMod kf g_law_next kp_law_next k_row hr (by decide) hj fun x js1 hx0 hx1 hj1=>EL.nil ⟨.typ,CL.range1 fun rg=>?_⟩)))))
 have hx:(x.toNat:Int)=x:=by lia
 refine ⟨rg,x,_,rfl,.head,hx0,by lia,fun lap H' vs'=>FJ D ad z b ts kd rw rl ra fl pl hl recs c m k i o rd W R sv lap H' vs',⟨⟨[],W,js1,c,rfl,(fun _ h=>by cases h),(fun _ h=>h),Int.le_refl _,hj1,.refl _⟩,(.of rfl)⟩,?_,?_⟩
 ·intro it lap H₃ vs₃ N hN hlap h
  have h':=h.push (it,.io (.riter (lap+1) (x - (lap+1)) 1))
  refine AS.locN n7 (fld_turn kf hr L' hfl (by lia) hk hB hlen hb hm h' fun H' vs' h''=>?_)
  obtain ⟨H'',e,h3⟩:=h''.pop
  exact hN ⟨H'',e,h3⟩
 ·intro H₃ vs₃ h
  refine XS.nil (hq _ _ _ (by lia) h)
end
end Mine
end
section
set_option maxHeartbeats 4000000
-- names: 2 4 5
namespace Mine
section
variable {D:Wd} {ad:Ads} {fm:Fm} {env:Env} {vs:List (Option V)} {A:Around} {H R W:HL} {z:Cz}
theorem permSwap {α:Type} (X Y Z:List α):(X++(Y++Z)).Perm (Y++(X++Z)):=by
 rw [<- List.append_assoc,<- List.append_assoc]
 exact List.Perm.append_right _ List.perm_append_comm
theorem zip_ents {ad:Ads}:∀ {fs:List Ff} {offs:List Int},List.zipWith (obEnt ad) (fs.map (·.fd)) offs=(List.zipWith Ff.fo fs offs).map (Fo.ent ad)
 := by
 intro fs
 induction fs with
 | nil=>intro _; rfl
 | cons f fs ih=>
  intro offs
  cases offs with
  | nil=>rfl
  | cons off offs=>exact congrArg (_::·) ih
theorem ext_ne {H R:HL} {a b:Addr} {o o':AObj} (nd:(H.map (·.1)).Nodup) (e:Ext a o H R) (m:(b,o')∈R):b≠a:=by
 have:=(e.perm.map (·.1)).nodup_iff.mp nd
 rw [List.map_cons] at this
 intro h
 exact (List.nodup_cons.mp this).1 (by rw [<- h]; exact List.mem_map_of_mem (f:=(·.1)) m)
theorem size_of {e:Int}:∃ S:Int,(if (e+3).fdiv 4 * 4 > 4 then (e+3).fdiv 4 * 4 else 4)=S/\e<=S/\4<=S:=by
 refine ⟨_,rfl,?_⟩
 rw [Int.fdiv_eq_ediv_of_nonneg _ (by decide)]
 split <;> lia
theorem obs_ents {ad:Ads} {fs:List Ff} {offs:List Int} {X:HL}:∀ f∈List.zipWith Ff.fo fs offs,f.ent ad∈(List.zipWith Ff.fo fs offs).map (Fo.ent ad)++X:=fun f hf=>List.mem_append_left _ (List.mem_map_of_mem hf)
theorem rec_tail (kf:KF D ad) {b:Bs} {ts kd rw rl ra fl pl hl:Addr} {recs:List Rec} {js:List Int} {c c':Int} {m i:Nat} {o:Option V} {d:TyD} {sv:V} {fs:List Ff} {offs hs:List Int} {s0 e:Int} {Q:Fl->HL->List (Option V)->Prop} {W':HL} (hr:Rm 60 A) (L:LE fm env z) {yv:Nat->Option V}
  (hfl:d.fields=fl) (hhl:d.hidden=hl) (hrec:d.form="record") (hmd:d.module="M"\/d.module="N") (hnum:d.number=c) (hc:c<=c') (hB:∀ (j:Nat) (r:Rec),recs[j]?=some r->RecB D ad W' (3 * i+2) recs j r) (hadr:(recs.map (·.a)).Nodup) (hnn:(recs.map (·.d.number)).Nodup)
  (hlen:recs.length=i) (hi:i < 6) (hb:BsOk ad W' b) (hm:m<=i+1) (hj:RowOk js) (hnums:∀ r∈recs,r.d.number < c) (hft:∀ f∈fs,FT D ad W' (3 * i+2+1) (bnd recs.length) f.fd.t f.td f.ps/\f.td.size=f.fd.size) (hf3:fs.length<=3)
  (hpl:Plc s0 (fs.map (·.fd)) offs e) (hbs:(d.base=.none/\s0=0/\d.level=0)\/∃ (j:Nat) (r:Rec),recs[j]?=some r/\d.base=.ref r.a/\r.d.level < 3/\s0=r.d.size/\d.level=r.d.level+1) (hh:(hs=[]/\e<=d.size)\/∃ x,hs=[x]/\e<=x/\d.size=x+4)
  (hq:∀ H' vs',RJ D ad z b ts kd rw rl R sv (i+1) H' vs'->Q .next H' vs') :
  XS D fm A env ((forBody (lawAt 4)).drop 7) ((rw,.list (js.map .int))::(z.cr,.cell (some (.ref rw)))::(z.co,.cell o)::(ts,.inst ad.cTypes (tsAt c' kd b.l7))::(kd,.dictT m)::(rl,.list (recs.map fun r=>.ref r.a)) ::
   (ra,.inst ad.cType d.at)::(fl,.list (fs.map fun f=>.ref f.fd.o))::(pl,.list [])::(hl,.list (hs.map .int))::((List.zipWith Ff.fo fs offs).map (Fo.ent ad)++(W'++R)))
   (fldL sv ts rl b.pt i ra yv) Q:=by
 obtain ⟨hns,hsc,hcl⟩:=L
 have n2:=lN hsc hns "records" 2
 have n4:=lN hsc hns "number" 4
 have n5:=lN hsc hns "record" 5
 refine XS.nodup fun hnd=>?_
 have hne:∀ r∈recs,r.a≠ra:=fun r hr e=>by
  obtain ⟨j,hj,rfl⟩:=List.getElem_of_mem hr
  have hm:=(hB j _ (List.getElem?_eq_getElem hj)).ok.mem
  exact ext_ne hnd (a:=ra) .at6 (List.mem_append_right [_,_,_,_,_,_,_,_,_] (List.mem_append_right _ (List.mem_append_left _ hm))) e
 refine XS.cons (EX.setAttr (EV.bin (EV.int (EV.locN n4 rfl ⟨_,.add,EV.locN n5 rfl (SA.ty_exno kf .at6 ?_)⟩))))
 refine XS.cons (EX.expr (EV.meth (EV.locN n2 rfl ?_)))
 refine GM.append m_6 ?_
 refine EL.cons (EV.locN n5 rfl (EL.nil (kpAnd .blt ?_)))
 refine CL.append .at6 ?_ ?_
 ·have h4:sizeLine=16777216:=by decide
  simp; exact lin (Nat.add_le_add (Nat.le_of_eq hlen) (Nat.add_le_add hi (Nat.le_of_eq h4.symm))) (by simp +arith)
 refine ⟨trivial,XS.nil (hq _ _ ⟨?_,.of rfl⟩)⟩
 let d':TyD:={ d with exno:=7+(i:Int) }
 let OB:=(List.zipWith Ff.fo fs offs).map (Fo.ent ad)
 let W2:HL:=(ra,.inst ad.cType d'.at)::(fl,.list (fs.map fun f=>.ref f.fd.o))::(pl,.list [])::(hl,.list (hs.map .int))::(OB++W')
 have hW2:∀ q∈W',q∈W2:=fun q hq=>t_4 (List.mem_append_right _ hq)
 obtain ⟨base,ch,bps,hbx⟩:∃ (base:Option Nat) (ch:List Nat) (bps:List Int),(base=none/\d'.base=.none/\s0=0/\bps=[]/\ch=[recs.length]/\d'.level=0)\/∃ (j:Nat) (r:Rec),base=some j/\recs[j]?=some r/\RecB D ad W2 (3 * i+2) recs j r/\d'.base=.ref r.a/\s0=r.d.size/\bps=r.ps/\ch=r.ch++[recs.length]/\d'.level=r.d.level+1/\r.ch.length<=3:=by
  rcases hbs with ⟨h1,h2,h3⟩ | ⟨j,r,h1,h2,h3,h4,h5⟩
  ·exact ⟨none,[recs.length],[],.inl ⟨rfl,h1,h2,rfl,rfl,h3⟩⟩
  ·refine ⟨some j,_,_,.inr ⟨j,r,rfl,h1,(hB j r h1).mono' (Nat.le_refl _) hW2,h2,h4,rfl,rfl,h5,?_⟩⟩
   have:=(hB j r h1).lv
   lia
 have hs0:0<=s0:=by
  rcases hbs with ⟨_,h2,_⟩ | ⟨j,r,h1,_,_,h4,_⟩
  ·exact (Int.le_of_eq h2.symm)
  ·have:=(hB j r h1).sz; exact Int.le_trans this (Int.le_of_eq h4.symm)
 have new:=mkRec kf (k:=3 * i+2) (W:=W2) (a:=ra) (d:=d') (hs:=hs) (base:=base) (ch:=ch) (bps:=bps) (by exact lin (Nat.add_le_add (Nat.le_of_eq hlen) hi) (by simp +arith)) (.head _) hrec (by show (d.fields,_)∈_; rw [hfl]; exact m_1) (fun f hf=>List.mem_append_right [_,_,_,_] (obs_ents f hf)) (by show (d.hidden,_)∈_; rw [hhl]; exact m_3)
  (fun f hf=>⟨(hft f hf).1.mono (Nat.le_refl _) (Nat.le_refl _) hW2,(hft f hf).2⟩) hf3 hpl hbx hh hs0 hmd
 generalize hnew:(⟨ra,d',base,ch,bps++((List.zipWith Ff.fo fs offs).flatMap Fo.sh++hs)⟩:Rec)=nr at new
 have na:nr.a=ra:=by rw [<- hnew]
 have nn:nr.d.number=c:=by rw [<- hnew]; exact hnum
 refine ⟨recs++[nr],W2,js,c',m,o,by simp [hlen],⟨fun j r e=>?_,?_,?_⟩,hb.mono hW2,hj,fun r hr'=>?_,hm,?_⟩
 ·rcases Nat.lt_or_ge j recs.length with hlt | hge
  ·rw [List.getElem?_append_left hlt] at e
   exact (hB j r e).mono (by simp +arith) hW2
  ·rw [List.getElem?_append_right hge] at e
   have hj0:j - recs.length=0:=by
    rcases Nat.eq_zero_or_pos (j - recs.length) with h | h
    ·exact h
    ·rw [List.getElem?_eq_none (by simp; exact h)] at e; cases e
   rw [hj0] at e
   have er:nr=r:=by simpa using e
   have ej:j=recs.length:=by exact linE (Nat.add_le_add (sbA (j) (recs.length)) (Nat.le_of_eq hj0)) (by simp +arith) hge (by simp +arith)
   rw [<- er,ej]
   exact new.mono (by simp +arith) fun _ h=>h
 ·rw [List.map_append]
  refine List.nodup_append.mpr ⟨hadr,by simp,fun x hx y hy=>?_⟩
  obtain ⟨r,hr',rfl⟩:=List.mem_map.mp hx
  rw [List.map_singleton,List.mem_singleton] at hy
  rw [hy,na]
  exact hne r hr'
 ·rw [List.map_append]
  refine List.nodup_append.mpr ⟨hnn,by simp,fun x hx y hy=>?_⟩
  obtain ⟨r,hr',rfl⟩:=List.mem_map.mp hx
  rw [List.map_singleton,List.mem_singleton] at hy
  have:=hnums r hr'
  rw [hy,nn]
  exact Int.ne_of_lt (linZL this (by simp +arith))
 ·rcases List.mem_append.mp hr' with hr' | hr'
  ·have:=hnums r hr'; exact linZ (Int.add_le_add hc this) (by simp +arith)
  ·rw [List.mem_singleton.mp hr',nn]; exact hc
 ·unfold recE
  rw [List.map_append,List.map_singleton,na]
  refine Ext.pc .at2 (Ext.pc .at2 (Ext.pc .at2 (Ext.pc .at2 (Ext.pc .at2 (Ext.pc .at0 ?_)))))
  exact .of_eq (by simp [W2,OB,d'])
theorem rec_end (kf:KF D ad) {b:Bs} {ts kd rw rl ra fl pl hl:Addr} {recs:List Rec} {c:Int} {m i n:Nat} {o:Option V} {rd:TyD} {sv:V} {Q:Fl->HL->List (Option V)->Prop} (hr:Rm 60 A) (L:LE fm env z)
  (hfl:rd.fields=fl) (hhl:rd.hidden=hl) (hrec:rd.form="record") (hmd:rd.module="M"\/rd.module="N") (hnum:rd.number=c) (hB:RecsB D ad W (3 * i+2) recs) (hlen:recs.length=i) (hi:i < 6) (hb:BsOk ad W b) (hm:m<=i+1) (hn:n<=3)
  (hnums:∀ r∈recs,r.d.number < c) (hbase:rd.base=.none\/∃ (j:Nat) (r:Rec),recs[j]?=some r/\rd.base=.ref r.a/\r.d.level < 3)
  (h:FJ D ad z b ts kd rw rl ra fl pl hl recs c m (3 * i+2) i o rd W R sv n H vs) (hq:∀ H' vs',RJ D ad z b ts kd rw rl R sv (i+1) H' vs'->Q .next H' vs') :
  XS D fm A env ((forBody (lawAt 4)).drop 5) H vs Q:=by
 obtain ⟨⟨fs,W',js,c',hfs,hft,hW,hc,hj,p⟩,⟨yv⟩⟩:=h
 obtain ⟨hns,hsc,hcl⟩:=L
 have n2:=lN hsc hns "records" 2
 have n4:=lN hsc hns "number" 4
 have n5:=lN hsc hns "record" 5
 have k_row:=cN (c:=z.cr) hsc hcl "row"
 have kp_law_next:=KpA.of kf.law_next.keep
 have g_law_next:=gN hsc "_law_next" kf.n_law_next
 have kp_place_fields:=KpA.of kf.place_fields.keep
 have g_place_fields:=gN hsc "place_fields" kf.n_place_fields
 refine XS.perm p ?_
 unfold fdE mkE
 have hB':∀ (j:Nat) (r:Rec),recs[j]?=some r->RecB D ad W' (3 * i+2) recs j r:=fun j r e=>(hB.b j r e).mono' (Nat.le_refl _) hW
 -- the base's numbers
 obtain ⟨s0,lv,hbs⟩:∃ (s0 lv:Int),(rd.base=.none/\s0=0/\lv=0)\/∃ (j:Nat) (r:Rec),recs[j]?=some r/\rd.base=.ref r.a/\r.d.level < 3/\s0=r.d.size/\lv=r.d.level+1:=by
  rcases hbase with h | ⟨j,r,e1,e2,e3⟩
  ·exact ⟨0,0,.inl ⟨h,rfl,rfl⟩⟩
  ·exact ⟨_,_,.inr ⟨j,r,e1,e2,e3,rfl,rfl⟩⟩
 refine XS.cons (EX.expr (EV.call (EV.glbN g_place_fields (EL.cons (EV.locN n5 rfl (EL.nil (kpAnd kp_place_fields.at ?_)))))))
 refine CL.perm (H':=(ra,.inst ad.cType rd.at)::((fs.map (·.fd)).map (obEnt ad · 0)++((rw,.list (js.map .int))::(z.cr,.cell (some (.ref rw)))::(z.co,.cell o)::(ts,.inst ad.cTypes (tsAt c' kd b.l7))::(kd,.dictT m)::(rl,.list (recs.map fun r=>.ref r.a))::(fl,.list (fs.map fun f=>.ref f.fd.o))::(pl,.list [])::(hl,.list [])::(W'++R)))) ?_ ?_
 ·refine Ext.pc .at6 ?_
  rw [List.map_map]
  exact (List.perm_append_comm (l₁:=[_,_,_,_,_,_,_,_,_]) (l₂:=(fs.map (fun f=>obEnt ad f.fd 0))++(W'++R))).trans (by rw [List.append_assoc]; exact List.Perm.append_left _ List.perm_append_comm)
 have mW:∀ q∈W',q∈(rw,AObj.list (js.map .int))::(z.cr,.cell (some (.ref rw)))::(z.co,.cell o)::(ts,.inst ad.cTypes (tsAt c' kd b.l7))::(kd,.dictT m)::(rl,.list (recs.map fun r=>.ref r.a))::(fl,.list (fs.map fun f=>.ref f.fd.o))::(pl,.list [])::(hl,.list [])::(W'++R):=fun q hq=>
  List.mem_append_right [_,_,_,_,_,_,_,_,_] (List.mem_append_left _ hq)
 refine place_fields_ok (k:=50) kf (hr.le (by decide)) (s0:=s0) (lv:=lv) (by rw [hfl,List.map_map]; exact m_6) (fun f hf=>?_) ?_ fun offs e H' hpl p'=>?_
 ·obtain ⟨g,hg,rfl⟩:=List.mem_map.mp hf
  obtain ⟨ft,es⟩:=hft g hg
  exact ⟨ft.al.mono mW,g.td,mW _ ft.mem,es⟩
 ·rcases hbs with ⟨h1,h2,h3⟩ | ⟨j,r,h1,h2,h3,h4,h5⟩
  ·exact .inl ⟨h1,h2,h3⟩
  ·exact .inr ⟨r.a,r.d,h2,mW _ (hB' j r h1).ok.mem,h4,h5⟩
 refine ⟨trivial,?_⟩
 obtain ⟨S,hS,hS1,hS2⟩:=size_of (e:=e)
 rw [hS,zip_ents] at p'
 have c0:c<=c':=hc
 have key:∀ (js:List Int) (hl:Addr) (d:TyD) (hs:List Int) (yv:Nat->Option V),RowOk js->d.fields=fl->d.hidden=hl->d.form="record"->(d.module="M"\/d.module="N")->d.number=c->d.base=rd.base->d.level=lv->((hs=[]/\e<=d.size)\/∃ x,hs=[x]/\e<=x/\d.size=x+4)->
   XS D fm A env ((forBody (lawAt 4)).drop 7) ((rw,.list (js.map .int))::(z.cr,.cell (some (.ref rw)))::(z.co,.cell o)::(ts,.inst ad.cTypes (tsAt c' kd b.l7))::(kd,.dictT m)::(rl,.list (recs.map fun r=>.ref r.a)) ::
    (ra,.inst ad.cType d.at)::(fl,.list (fs.map fun f=>.ref f.fd.o))::(pl,.list [])::(hl,.list (hs.map .int))::((List.zipWith Ff.fo fs offs).map (Fo.ent ad)++(W'++R)))
    (fldL sv ts rl b.pt i ra yv) Q:=fun js hl d hs yv hj a1 a2 a3 a4 a5 a6 a7 a8=>
  rec_tail kf hr ⟨hns,hsc,hcl⟩ a1 a2 a3 a4 a5 c0 hB' hB.adr hB.num hlen hi (hb.mono hW) hm hj hnums hft (by exact Nat.le_trans (Nat.le_of_eq hfs) hn) hpl (by rw [a6,a7]; exact hbs) a8 hq
 refine XS.perm (H':=(rw,.list (js.map .int))::(z.cr,.cell (some (.ref rw)))::(z.co,.cell o)::(ts,.inst ad.cTypes (tsAt c' kd b.l7))::(kd,.dictT m)::(rl,.list (recs.map fun r=>.ref r.a)) ::
    (ra,.inst ad.cType (TyD.at { rd with level:=lv,size:=S }))::(fl,.list (fs.map fun f=>.ref f.fd.o))::(pl,.list [])::(hl,.list [])::((List.zipWith Ff.fo fs offs).map (Fo.ent ad)++(W'++R))) ?_ ?_
 ·refine p'.trans ?_
  refine (List.Perm.cons _ (?_:List.Perm _ ([(rw,AObj.list (js.map .int)),(z.cr,.cell (some (.ref rw))),(z.co,.cell o),(ts,.inst ad.cTypes (tsAt c' kd b.l7)),(kd,.dictT m),(rl,.list (recs.map fun r=>.ref r.a)),(fl,.list (fs.map fun f=>.ref f.fd.o)),(pl,.list []),(hl,.list [])]++((List.zipWith Ff.fo fs offs).map (Fo.ent ad)++(W'++R))))).trans ?_
  ·exact permSwap _ [_,_,_,_,_,_,_,_,_] _
  ·exact Ext.pc .at1 (Ext.pc .at1 (Ext.pc .at1 (Ext.pc .at1 (Ext.pc .at1 (Ext.pc .at1 (.refl _))))))
 refine XS.cons (EX.ifs (EB.cmp (EV.nextMod kf g_law_next kp_law_next k_row hr (by decide) hj fun x js2 hx0 hx1 hj2=>EV.int (cmpAnd .eq ⟨fun _=>?_,fun _=>XS.nil ?_⟩))))
 ·refine XS.cons (EX.setAttr (EV.list (EL.cons (EV.attr (EV.locN n5 rfl (GA.ty kf m_6 (hq:=EL.nil (leAnd (by rfl) fun hl2=>EV.locN n5 rfl (SA.ty_hidden kf .at7 ?_)))))))))
  refine XS.cons (EX.augA (EV.locN n5 rfl (GA.ty kf (.head _) (hq:=EV.int (IP.add (SA.ty_size kf .head ?_))))))
  refine XS.nil (XS.drop (.cons .at10 (.refl _)) ?_)
  refine XS.perm ?_ (key js2 hl2 { rd with level:=lv,size:=S+4,hidden:=hl2 } [S] yv hj2 hfl rfl hrec hmd hnum rfl rfl (.inr ⟨S,rfl,hS1,rfl⟩))
  exact Ext.pc .at2 (Ext.pc .at2 (Ext.pc .at2 (Ext.pc .at2 (Ext.pc .at2 (Ext.pc .at2 (Ext.pc .at0 (Ext.pc .at1 (Ext.pc .at1 (.refl _)))))))))
 ·exact key js2 hl { rd with level:=lv,size:=S } [] yv hj2 hfl hhl hrec hmd hnum rfl rfl (.inl ⟨rfl,hS1⟩)
end
end Mine
end
section
set_option maxHeartbeats 4000000
-- names: 0 1 2 3 4
namespace Mine
section
variable {D:Wd} {ad:Ads} {fm:Fm} {env:Env} {vs:List (Option V)} {A:Around} {H R W:HL} {z:Cz}
theorem RJ.push {b:Bs} {ts kd rw rl:Addr} {sv:V} {i:Nat} (q:Addr×AObj) (h:RJ D ad z b ts kd rw rl R sv i H vs):RJ D ad z b ts kd rw rl (q::R) sv i (q::H) vs:=by
 obtain ⟨⟨recs,W,js,c,m,o,h1,h2,h3,h4,h5,h6,p⟩,r⟩:=h
 exact ⟨⟨recs,W,js,c,m,o,h1,h2,h3,h4,h5,h6,(p.cons q).trans (midW q _ [] _ _)⟩,r⟩
theorem RJ.pop {b:Bs} {ts kd rw rl:Addr} {sv:V} {i:Nat} {q:Addr×AObj} (h:RJ D ad z b ts kd rw rl (q::R) sv i H vs):∃ H',Ext q.1 q.2 H H'/\RJ D ad z b ts kd rw rl R sv i H' vs:=by
 obtain ⟨⟨recs,W,js,c,m,o,h1,h2,h3,h4,h5,h6,p⟩,r⟩:=h
 obtain ⟨H',e,p'⟩:=Ext.of_perm (p.trans (midW q _ [] _ _).symm)
 exact ⟨H',e,⟨recs,W,js,c,m,o,h1,h2,h3,h4,h5,h6,p'⟩,r⟩
theorem rec_whole (kf:KF D ad) {b:Bs} {ts kd rw rl:Addr} {sv:V} {i:Nat} {Q:Fl->HL->List (Option V)->Prop} (hr:Rm 60 A) (L:LE fm env z) (hi:i < 6)
  (h:RJ D ad z b ts kd rw rl R sv i H vs) (hq:∀ H' vs',RJ D ad z b ts kd rw rl R sv (i+1) H' vs'->Q .next H' vs') :
  XS D fm A env (forBody (lawAt 4)) H (vs.set 4 (some (.int i))) Q:=
 rec_start kf hr L hi h fun recs W js c m b1 md lb ra fl pl hl vs' hv hlen hB hb hj hnum hm hmd=>by
  obtain ⟨yv⟩:=hv
  refine rec_base kf (k:=3 * i+2) hr L hB (by exact lin (Nat.add_le_add (Nat.le_of_eq hlen) hi) (by simp +arith)) hj rfl fun js2 base vs2 hv2 hj2 hbase=>?_
  obtain ⟨yv2⟩:=hv2
  exact rec_fields kf (k:=3 * i+2) hr L rfl (by simp +arith) hB (by exact lin (Nat.add_le_add (Nat.le_of_eq hlen) hi) (by simp +arith)) hb (by exact lin (Nat.add_le_add hm hi) (by simp +arith)) hj2 fun n H' vs' hn hF=>
    rec_end kf (rd:=⟨c+1,"record",0,base,0,fl,0,pl,md,lb,hl,0⟩) (c:=c+1) (fl:=fl) (hl:=hl) (ra:=ra) (pl:=pl) (recs:=recs) (m:=m) hr L rfl rfl rfl hmd rfl hB hlen hi hb hm hn (fun r hr'=>Int.lt_add_one_of_le (hnum r hr')) hbase hF hq
theorem law_records (kf:KF D ad) {b:Bs} {ts kd rw rl:Addr} {sv:V} {Q:Fl->HL->List (Option V)->Prop} (hr:Rm 60 A) (L:LE fm env z)
  (h:RJ D ad z b ts kd rw rl R sv 0 H vs) (hq:∀ n H' vs',n<=6->RJ D ad z b ts kd rw rl R sv n H' vs'->Q .next H' vs'):EX D fm A env (lawAt 4) H vs Q:=by
 have L':=L
 obtain ⟨⟨recs,W,js,c,m,o,hlen,h2,h3,hj,h5,h6,p⟩,⟨yv⟩⟩:=h
 obtain ⟨hns,hsc,hcl⟩:=L
 have n0:=lN hsc hns "script" 0
 have n1:=lN hsc hns "types" 1
 have n2:=lN hsc hns "records" 2
 have n3:=lN hsc hns "pointer" 3
 have n4:=lN hsc hns "number" 4
 have k_row:=cN (c:=z.cr) hsc hcl "row"
 have kp_law_next:=KpA.of kf.law_next.keep
 have g_law_next:=gN hsc "_law_next" kf.n_law_next
 have g_range:=gB hsc "range" kf.n_range boot_range
 refine EX.perm p ?_
 unfold recE
 refine EX.forR hr.handled (EV.call (EV.glbN g_range (EL.cons (EV.nextMod kf g_law_next kp_law_next k_row hr (by decide) hj fun x js1 hx0 hx1 hj1=>EL.nil ⟨.typ,CL.range1 fun rg=>?_⟩))))
 have hx:(x.toNat:Int)=x:=by lia
 refine ⟨rg,x,_,rfl,.head,hx0,by lia,fun i H' vs'=>RJ D ad z b ts kd rw rl R sv i H' vs',⟨⟨recs,W,js1,c,m,o,hlen,h2,h3,hj1,h5,h6,.refl _⟩,(.of rfl)⟩,?_,?_⟩
 ·intro it i H₃ vs₃ N hN hi h
  refine AS.locN n4 (rec_whole kf hr L' (by lia) (h.push (it,.io (.riter (i+1) (x - (i+1)) 1))) fun H' vs' h''=>?_)
  obtain ⟨H'',e,h3⟩:=h''.pop
  exact hN ⟨H'',e,h3⟩
 ·intro H₃ vs₃ h
  exact XS.nil (hq _ _ _ (by lia) h)
theorem law_part1 (kf:KF D ad) {sc:Addr} {so:Obj} {ws:List Value} {nw:Nat} {is:List Int} {Q:Fl->HL->List (Option V)->Prop} (hr:Rm 60 A) (L:LE fm env z) (msc:D.K.lookup sc=some so) (hoc:so.cls=.type "list") (hod:so.data=.seq ws.toArray nw) (hws:∀ T,VRels T (is.map .int) ws) (hz:is.length<=2 ^ 20)
  (hq:∀ b ts kd rw rl n H' vs',n<=6->RJ D ad z b ts kd rw rl R (.ref sc) n H' vs'->XS D fm A env ((fnBody (stmtAt 23)).drop 5) H' vs' Q) :
  XS D fm A env (fnBody (stmtAt 23)) ((z.cr,.cell none)::(z.co,.cell none)::R) (some (.ref sc)::List.replicate 26 none) Q:=by
 have L':=L
 obtain ⟨hns,hsc,hcl⟩:=L
 have n0:=lN hsc hns "script" 0
 have n1:=lN hsc hns "types" 1
 have n2:=lN hsc hns "records" 2
 have n3:=lN hsc hns "pointer" 3
 have n4:=lN hsc hns "number" 4
 have k_row:=cN (c:=z.cr) hsc hcl "row"
 have kp_law_row:=KpA.of kf.law_row.keep
 have g_law_row:=gN hsc "_law_row" kf.n_law_row
 have kp_Types:=KpA.of kf.tsKeep
 have g_Types:=gN hsc "Types" kf.n_Types
 refine XS.cons (EX.assignCN k_row (EV.call (EV.glbN g_law_row (EL.cons (EV.locN n0 rfl (EL.nil (kpAnd kp_law_row.at (law_row_ok (k:=50) kf (hr.le (by decide)) msc hoc hod hws hz fun rw js hj=>?_))))))))
 refine ⟨none,_,.at1,?_⟩
 refine XS.cons (EX.assignN n1 (EV.call (EV.glbN g_Types (EL.nil (kpAnd kp_Types.at ?_)))))
 refine types_ok kf (k:=50) (hr.le (by decide)) fun ts kd a1 a2 a3 a4 a5 a6 a7 o2 o3 o4 ho2 ho3 ho4=>?_
 obtain ⟨f2,p2,h2,rfl⟩:=ho2
 obtain ⟨f3,p3,h3,rfl⟩:=ho3
 obtain ⟨f4,p4,h4,rfl⟩:=ho4
 refine XS.cons (EX.assignN n2 (EV.list (EL.nil (leAnd rfl ?_))))
 intro rl
 refine XS.cons (EX.assignN n3 (EV.meth (EV.locN n1 rfl ?_)))
 have kp_ts:KpA D (.ref ad.ts_new):=.of kf.ts_new.keep
 refine GM.inst m_1 kf.m_ts_new.get kf.m_ts_new.find kf.m_ts_new.fn (by rfl) ?_
 refine EL.cons (EV.str (EL.cons (EV.int (EL.nil (kpAnd kp_ts.at ?_)))))
 refine CL.perm (Ext.pc .at1 (Ext.pc .at1 (.refl _))) ?_
 refine new_ok kf (k:=50) (hr.le (by decide)) (.inl ⟨rfl,rfl,rfl⟩) (Nat.le_of_ble_eq_true (by rfl)) (by simp +arith) fun pt fl pl hl H' p'=>?_
 refine XS.perm p' ?_
 let b:Bs:=⟨a1,a2,a3,a4,a5,a6,a7,pt,⟨2,"char",1,.none,0,f2,0,p2,"","",h2,0⟩,⟨3,"byte",1,.none,0,f3,0,p3,"","",h3,0⟩,⟨4,"integer",4,.none,0,f4,0,p4,"","",h4,0⟩,⟨8,"pointer",4,.none,0,fl,0,pl,"","",hl,0⟩⟩
 refine XS.cons (law_records (R:=R) kf (b:=b) (ts:=ts) (kd:=kd) (rw:=rw) (rl:=rl) (sv:=.ref sc) hr L' ⟨⟨[],[(pt,.inst ad.cType b.dp.at),(a4,.inst ad.cType b.d4.at),(a3,.inst ad.cType b.d3.at),(a2,.inst ad.cType b.d2.at),(fl,.list []),(pl,.list []),(hl,.list [])],js,8,0,none,rfl,⟨(fun j r e=>by cases e),.nil,.nil⟩,⟨m_3,⟨rfl,rfl⟩,m_2,⟨rfl,rfl⟩,m_1,⟨rfl,rfl⟩,m_0,⟨rfl,rfl⟩⟩,hj,(fun r h=>by cases h),Nat.le_refl _,?_⟩,(.of rfl)⟩ fun n H' vs' hn hJ=>?_)
 ·unfold recE
  exact Ext.pc .at11 (Ext.pc .at10 (Ext.pc .at10 (Ext.pc .at4 (Ext.pc .at4 (Ext.pc .at4 (Ext.pc .at0 (Ext.pc .at3 (Ext.pc .at3 (Ext.pc .at3 (.refl _))))))))))
 ·exact hq b ts kd rw rl n H' vs' hn hJ
end
end Mine
end
section
set_option maxHeartbeats 4000000
-- names: 10 11 12 13 14
namespace Mine
structure As where
 rw:Addr
 rl:Addr
 P:Addr
 al:Addr
 pd:Addr
 tm:Addr
noncomputable def askL (sv:V) (ts:Addr) (x:As) (zz:DaA) (yv:Nat->Option V):List (Option V):=
 [some sv,some (.ref ts),some (.ref x.rl),yv 3,yv 4,yv 5,yv 6,yv 7,yv 8,yv 9,some (.ref x.al),yv 11,some (.ref zz.da),some (.ref x.pd),some (.ref x.tm),yv 15,yv 16,yv 17,yv 18,yv 19,yv 20,yv 21,yv 22,yv 23,yv 24,yv 25,yv 26]
inductive AskV (sv:V) (ts:Addr) (x:As) (zz:DaA):List (Option V)->Prop where
 | mk (yv:Nat->Option V):AskV sv ts x zz (askL sv ts x zz yv)
theorem AskV.of {sv:V} {ts:Addr} {x:As} {zz:DaA} {vs:List (Option V)} (e:askL sv ts x zz (fun i=>(vs[i]?).getD none)=vs):AskV sv ts x zz vs:=e ▸ .mk _
section
variable {D:Wd} {ad:Ads} {fm:Fm} {env:Env} {vs:List (Option V)} {A:Around} {H R W:HL} {z:Cz}
theorem RecsB.mono {k k':Nat} {recs:List Rec} {W':HL} (h:RecsB D ad W k recs) (hk:k<=k') (hs:∀ q∈W,q∈W'):RecsB D ad W' k' recs:=⟨fun i r e=>(h.b i r e).mono' hk hs,h.adr,h.num⟩
theorem DaH.permR {zz:DaA} {st:DS} {H R R':HL} (h:DaH ad zz st H R) (p:R.Perm R'):DaH ad zz st H R':=by
 obtain ⟨e1,e2,q⟩:=h
 exact ⟨e1,e2,q.trans (List.Perm.append_left _ p)⟩
theorem law_part2 (kf:KF D ad) {b:Bs} {ts kd rw rl P c:Addr} {sv:V} {n:Nat} {o4:Option V} {Q:Fl->HL->List (Option V)->Prop} (hr:Rm 100 A) (L:LE fm env z) (hn:n<=6) (hcode:env.code=.ref c) (hC:∀ h,D.K.In h->CodeHd h c P)
  (h:RJ D ad z b ts kd rw rl ((P,.raw (tabObj #[]))::(z.cn,.cell none)::(z.ct,.cell none)::R) sv n H vs)
  (hq:∀ (recs:List Rec) (W:HL) (js:List Int) (s0:Int) (op:Obj) (zz:DaA) (al pd tm:Addr) (ep1 ep2:Nat) (H':HL) (vs':List (Option V)),AskV sv ts ⟨rw,rl,P,al,pd,tm⟩ zz vs'->recs.length<=6->RecsB D ad W 20 recs->ImpOk D ad zz 1 W->RowOk js->0<=s0->s0 < 30->TabO op->
   DaH ad zz ⟨(s0+3).fdiv 4 * 4,[],[],[],[],false⟩ H' ((rw,.list (js.map .int))::(z.cr,.cell (some (.ref rw)))::(rl,.list (recs.map fun r=>.ref r.a))::(z.ct,.cell (some (.int s0)))::(al,.list [])::(pd,.dictI [] ep1)::(tm,.dictS [] ep2)::(P,.raw op)::(W++R))->
   XS D fm A env ((fnBody (stmtAt 23)).drop 12) H' vs' Q) :
  XS D fm A env ((fnBody (stmtAt 23)).drop 5) H vs Q:=by
 obtain ⟨⟨recs,W,js,c0,m,o,hlen,hB,hb,hj,hnum,hm,p⟩,⟨yv⟩⟩:=h
 obtain ⟨hns,hsc,hcl⟩:=L
 have n10:=lN hsc hns "asked" 10
 have n11:=lN hsc hns "_law_import_at" 11
 have n12:=lN hsc hns "data" 12
 have n13:=lN hsc hns "places" 13
 have n14:=lN hsc hns "texts_met" 14
 have k_row:=cN (c:=z.cr) hsc hcl "row"
 have k_names:=cN (c:=z.cn) hsc hcl "names"
 have k_start:=cN (c:=z.ct) hsc hcl "start"
 have kp_law_next:=KpA.of kf.law_next.keep
 have g_law_next:=gN hsc "_law_next" kf.n_law_next
 have kp_DataArea:=KpA.of kf.daKeep
 have g_DataArea:=gN hsc "DataArea" kf.n_DataArea
 refine XS.perm p ?_
 unfold recE
 refine XS.drop (.cons .at2 (.cons .at2 (.cons .at2 (.refl _)))) ?_
 refine XS.perm (H':=(rw,.list (js.map .int))::(z.cr,.cell (some (.ref rw)))::(z.cn,.cell none)::(z.ct,.cell none)::(P,.raw (tabObj #[]))::(rl,.list (recs.map fun r=>.ref r.a))::(W++R)) ?_ ?_
 ·refine Ext.pc .at0 (Ext.pc .at0 ?_)
  exact ((permSwap W [_,_,_] R).cons _).trans (Ext.pc .at2 (Ext.pc .at2 (Ext.pc .at1 (Ext.pc .at0 (.refl _)))))
 refine XS.cons (EX.assignCN k_names (EV.list (EL.nil (leAnd (by rfl) fun nl=>⟨none,_,.at3,?_⟩))))
 refine XS.perm (H':=(rw,.list (js.map .int))::(z.cr,.cell (some (.ref rw)))::(z.ct,.cell none)::(z.cn,.cell (some (.ref nl)))::(nl,.list [])::(P,.raw (tabObj #[]))::(rl,.list (recs.map fun r=>.ref r.a))::(W++R)) ?_ ?_
 ·exact Ext.pc .at2 (Ext.pc .at2 (Ext.pc .at2 (Ext.pc .at0 (Ext.pc .at0 (.refl _)))))
 refine XS.cons (EX.assignCN k_start (EV.nextMod kf g_law_next kp_law_next k_row hr (by decide) hj fun s0 js1 hs0 hs1 hj1=>⟨none,_,.at2,?_⟩))
 refine XS.cons (EX.assignN n10 (EV.list (EL.nil (leAnd rfl ?_))))
 intro al
 refine XS.cons ?_
 refine EX.nestDef rfl rfl rfl hcode hC (cl:=[("names",z.cn)]) ?_ n11.l n11.i .at6 fun f c' qual oc cvs t doc pm ctv op hop hd hv=>?_
 ·simp only [closureFor,cellOf,hcl]
  rfl
 refine XS.cons (EX.assignN n12 (EV.call (EV.glbN g_DataArea (EL.cons (EV.str (EL.cons (EV.celN k_start m_4 (EL.cons (EV.locN n11 rfl (EL.nil (kpAnd kp_DataArea.at ?_)))))))))))
 refine CL.perm (Ext.pc .at8 (.refl _)) ?_
 refine area_ok kf (k:=50) (hr.le (by decide)) (imp:=f) (nl:=nl) fun zz H' himp hnl hDa=>?_
 refine XS.cons (EX.assignN n13 (EV.dict0 dict0I fun pd=>?_))
 refine XS.cons (EX.assignN n14 (EV.dict0 dict0S fun tm=>?_))
 have hDa2:=(hDa.cons (q:=(pd,.dictI [] 0))).cons (q:=(tm,.dictS [] 0))
 let W2:HL:=(f,.raw (fnMade (fnName (lawAt 8)) qual (fnParams (lawAt 8)) (fnBody (lawAt 8)) (fnScope (lawAt 8)) [("names",z.cn)] doc pm c' ctv))::(c',.raw oc)::(z.cn,.cell (some (.ref nl)))::W
 have hImp:ImpAt W2 zz:=⟨_,oc,c',z.cn,qual,t,cvs,doc,pm,ctv,by rw [himp]; exact .head _,rfl,m_1,hd,hv,by rw [hnl]; exact m_2⟩
 refine hq recs W2 js1 s0 op zz al pd tm 0 0 _ _ ?_ (by exact Nat.le_trans (Nat.le_of_eq hlen) hn) (hB.mono (by exact lin (Nat.add_le_add hn (Nat.add_le_add hn hn)) (by simp +arith)) fun q h=>t_3 h) (imp_ok kf hImp) hj1 hs0 hs1 hop (hDa2.permR ?_)
 ·exact AskV.of (vs:=List.set _ 14 _) rfl
 exact Ext.pc .at7 (Ext.pc .at7 (Ext.pc .at8 (Ext.pc .at6 (Ext.pc .at5 (Ext.pc .at1 (Ext.pc .at0 (Ext.pc .at2 (Ext.pc .at0 (Ext.pc .at0 (Ext.pc .at0 (.refl _)))))))))))
end
end Mine
end
section
set_option maxHeartbeats 4000000
namespace Mine
set_option genInjectivity true in
inductive Blk where
 | d (i:Nat)
 | s (t:Str)
inductive Hist (recs:List Rec) (a0:Int):DS->List Blk->Prop where
 | nil:Hist recs a0 ⟨a0,[],[],[],[],false⟩ []
 | d {st:DS} {bs:List Blk} {i:Nat}:Hist recs a0 st bs->st.place (rc recs i).d.number=none->(∀ j∈(rc recs i).ch,j≠i->(rc recs j).d.module="M"->(st.place (rc recs j).d.number).isSome)->Hist recs a0 (stepD recs i st) (bs++[.d i])
 | s {st:DS} {bs:List Blk} {t:Str}:Hist recs a0 st bs->st.tplace t=none->t.cps.size<=9->Hist recs a0 (stepS t st) (bs++[.s t])
 | i {st:DS} {bs:List Blk}:Hist recs a0 st bs->Hist recs a0 { st with imp:=true } bs
theorem Hist.run {recs:List Rec} {a0:Int} {st st':DS} {bs:List Blk} {l:List Nat} (h:Hist recs a0 st bs) (r:Run recs st l st'):Hist recs a0 st' (bs++l.map .d):=by
 induction r with
 | nil=>simpa using h
 | snoc _ h1 h2 ih=>
  rw [List.map_append,<- List.append_assoc]
  exact Hist.d ih h1 h2
noncomputable def Mea (recs:List Rec) (st:DS) (n:Nat):Prop:=st.mem.length+2 ^ 17 * un recs st+n<=2 ^ 22/\st.fix.length+4 * un recs st<=2 ^ 22/\st.descs.length+un recs st<=2 ^ 20
theorem Mea.bud {recs:List Rec} {st:DS} {n:Nat} (h:Mea recs st n):Bud recs st:=by unfold Mea at h; unfold Bud; exact ⟨lin h.1 (by simp +arith),⟨lin h.2.1 (by simp +arith),lin h.2.2 (by simp +arith)⟩⟩
theorem Mea.le {recs:List Rec} {st:DS} {n m:Nat} (h:Mea recs st n) (hm:m<=n):Mea recs st m:=by unfold Mea at h ⊢; exact ⟨lin (Nat.add_le_add h.1 hm) (by simp +arith),⟨lin h.2.1 (by simp +arith),lin h.2.2 (by simp +arith)⟩⟩
theorem Mea.run {recs:List Rec} {st st':DS} {l:List Nat} {n:Nat} (b:Mea recs st n) (h:Run recs st l st') (hl:∀ i∈l,i < 7/\(rc recs i).ps.length+6<=2 ^ 17):Mea recs st' n:=by
 induction h with
 | nil=>exact b
 | @snoc st2 l i _ h1 h2 ih=>
  have hb:=ih fun j hj=>hl j (List.mem_append_left _ hj)
  obtain ⟨hi,hz⟩:=hl i (List.mem_append_right _ (.head _))
  have e1:=un_step hi h1
  have e2:=stepD_len recs i st2
  have e3:(stepD recs i st2).descs.length=st2.descs.length+1:=by rw [stepD_descs]; simp
  unfold Mea at hb ⊢
  exact ⟨lin (Nat.add_le_add (Nat.le_of_eq e2.1) (Nat.add_le_add (Nat.mul_le_mul_left 131072 e1) (Nat.add_le_add hb.1 hz))) (by simp +arith),⟨lin (Nat.add_le_add e2.2 (Nat.add_le_add (Nat.mul_le_mul_left 4 e1) hb.2.1)) (by simp +arith),lin (Nat.add_le_add (Nat.le_of_eq e3) (Nat.add_le_add e1 hb.2.2)) (by simp +arith)⟩⟩
theorem stepS_eq (t:Str) (st:DS):stepS t st={ st with mem:=st.mem++sw t,texts:=st.texts++[(t,st.size)] }:=by
 unfold stepS; rw [pushes]
theorem stepS_un (recs:List Rec) (t:Str) (st:DS):un recs (stepS t st)=un recs st:=by
 rw [stepS_eq]; rfl
theorem Mea.str {recs:List Rec} {st:DS} {n:Nat} {t:Str} (b:Mea recs st (n+16)) (ht:t.cps.size<=9):Mea recs (stepS t st) n:=by
 have h:=sw_len t
 have e:=stepS_un recs t st
 unfold Mea at b ⊢
 rw [e,stepS_eq]
 simp only [List.length_append]
 exact ⟨lin (Nat.add_le_add b.1 (Nat.add_le_add h ht)) (by simp +arith),⟨lin b.2.1 (by simp +arith),lin b.2.2 (by simp +arith)⟩⟩
theorem Mea.start {recs:List Rec} {a0:Int}:Mea recs ⟨a0,[],[],[],[],false⟩ 128:=by
 have:un recs ⟨a0,[],[],[],[],false⟩<=7:=by
  unfold un
  exact Nat.le_trans (List.length_filter_le _ _) (by simp)
 unfold Mea
 simp only [List.length_nil]
 lia
set_option tactic.hygienic true in
theorem Hist.texts {recs:List Rec} {a0:Int} {st:DS} {bs:List Blk} (h:Hist recs a0 st bs):(st.texts.map (·.1)).Nodup:=by
 induction h with
 | nil=>exact .nil
 | d h h1 h2 ih=>
  rename_i st bs i
  have:(stepD recs i st).texts=st.texts:=by
   unfold stepD
   have e1:∀ (m:Nat) (st:DS),(lvls recs (rc recs i).ch st m).texts=st.texts:=by
    intro m
    induction m with
    | zero=>intro st; rfl
    | succ m ih=>
     intro st
     rw [lvls_succ]
     have:∀ st:DS,(lvl recs (rc recs i).ch st m).texts=st.texts:=fun st=>by
      unfold lvl
      split
      ·unfold refSt; split <;> rfl
      ·rfl
     rw [this,ih]
   rw [pushes]
   show (lvls recs (rc recs i).ch (st2 (rc recs i) st) 4).texts=_
   rw [e1]; rfl
  rw [this]; exact ih
 | s h h1 h2 ih=>
  rename_i st bs t
  rw [stepS_eq]
  simp only [List.map_append,List.map_cons,List.map_nil]
  refine List.nodup_append.mpr ⟨ih,by simp,fun x hx y hy e=>?_⟩
  rw [List.mem_singleton] at hy
  subst hy
  subst e
  obtain ⟨p,hp,e⟩:=List.mem_map.mp hx
  unfold DS.tplace at h1
  rw [Option.map_eq_none_iff,List.find?_eq_none] at h1
  exact h1 p hp (by simpa using e)
 | i h ih=>exact ih
set_option tactic.hygienic true in
theorem dput_same {α:Type} [DecidableEq α] {k:α} {v:Int} {l:List (α×Int)} (nd:(l.map (·.1)).Nodup) (h:((l.find? fun p=>p.1=k).map (·.2))=some v):dput k (.int v) (l.map fun p=>(p.1,V.int p.2))=l.map fun p=>(p.1,V.int p.2):=by
 rw [Option.map_eq_some_iff] at h
 obtain ⟨q,hq,e⟩:=h
 have hm:=List.mem_of_find?_eq_some hq
 have hk:q.1=k:=by simpa using List.find?_some hq
 unfold dput
 rw [if_pos (by
  rw [List.any_eq_true]
  exact ⟨(q.1,.int q.2),List.mem_map_of_mem (f:=fun p:α×Int=>(p.1,V.int p.2)) hm,by simpa using hk⟩)]
 rw [List.map_map]
 refine List.map_congr_left fun p hp=>?_
 show (if p.1=k then (p.1,V.int v) else (p.1,V.int p.2))=(p.1,V.int p.2)
 split
 ·rename_i e2
  have:p=q:=by
   obtain ⟨i,hi,e3⟩:=List.getElem_of_mem hp
   obtain ⟨j,hj,e4⟩:=List.getElem_of_mem hm
   have:i=j:=by
    refine (List.getElem_inj (xs:=l.map (·.1)) (h₀:=by simpa using hi) (h₁:=by simpa using hj) nd).mp ?_
    rw [List.getElem_map,List.getElem_map,e3,e4,e2,hk]
   subst this
   exact e3.symm.trans e4
  rw [this,e]
 ·rfl
end Mine
end
section
set_option maxHeartbeats 4000000
namespace Mine
@[reducible] noncomputable def ifBody (s:Stmt):List Stmt:=(pt s).b
@[reducible] noncomputable def ifElse (s:Stmt):List Stmt:=(pt s).o
noncomputable def askIf:Stmt:=(forBody (lawAt 12)).getD 0 (.Pass default)
noncomputable def askStr:List Stmt:=ifBody askIf
section
variable {D:Wd} {ad:Ads} {fm:Fm} {env:Env} {vs:List (Option V)} {A:Around} {H R W:HL} {z:Cz}
theorem size1 (n:Nat):Builtin.Range.rangeSize 0 (n:Int) 1=(n - (0:Nat):Int):=by
 exact rs1 (Int.natCast_nonneg _)
theorem EV.nextF {k k0:Nat} {rw cr:Addr} {js:List Int} {m:Int} {p1 p2 p3 p4 p5:Pos} {Q:V->HL->Prop} (kf:KF D ad) (g:GlbN D env "_law_next" (.ref ad.law_next)) (kp:KpA D (.ref ad.law_next)) (hl:env.scope.names.lookup (Str.ofString "row")=some .free) (hc:env.cells.lookup (Str.ofString "row")=some cr) (hr:Rm (k+1) A) (hm:0 < m) (hj:RowOk js)
  (hq:∀ x js',0<=x->x < m->RowOk js'->Q (.int x) ((rw,.list (js'.map .int))::(cr,.cell (some (.ref rw)))::R)) :
  EV D fm A env (.BinOp (.Call (.Name (Str.ofString "_law_next") p1) [.Name (Str.ofString "row") p2] [] p3) .Mod (.Constant (.int m) k0 p4) p5) ((rw,.list (js.map .int))::(cr,.cell (some (.ref rw)))::R) vs Q:=
 EV.bin (EV.call (EV.glbN g (EL.cons (EV.free hl hc m_1 (EL.nil (kpAnd kp.at (law_next_ok kf hr hj fun n js' h0 h1 hj'=>EV.int ⟨_,.mod (by exact Int.ne_of_gt (linZL hm (by simp +arith))),hq _ js' (by rw [Int.fmod_eq_emod_of_nonneg _ (by exact linZ hm (by simp +arith))]; exact Int.emod_nonneg _ (by exact Int.ne_of_gt (linZL hm (by simp +arith only)))) (by rw [Int.fmod_eq_emod_of_nonneg _ (by exact linZ hm (by simp +arith only))]; exact Int.emod_lt_of_pos _ hm) hj'⟩)))))))
theorem law_words (kf:KF D ad) {rw c P:Addr} {js:List Int} {op:Obj} {Q:Fl->HL->List (Option V)->Prop} (hr:Rm 90 A) (L:LE fm env z) (hLs:fm.L≠sysModules) (hcode:env.code=.ref c) (hC:∀ h,D.K.In h->CodeHd h c P) (hj:RowOk js) (hop:TabO op)
  (hq:∀ y js' op',y.cps.size<=9->RowOk js'->TabO op'->Q .next ((P,.raw op')::(rw,.list (js'.map .int))::(z.cr,.cell (some (.ref rw)))::R) (vs.set 15 (some (.str y)))) :
  EX D fm A env (askStr.getD 0 (.Pass default)) ((rw,.list (js.map .int))::(z.cr,.cell (some (.ref rw)))::(P,.raw op)::R) vs Q:=by
 obtain ⟨hns,hsc,hcl⟩:=L
 have n15:=lN hsc hns "words" 15
 have k_row:=cN (c:=z.cr) hsc hcl "row"
 have kp_law_next:=KpA.of kf.law_next.keep
 have g_law_next:=gN hsc "_law_next" kf.n_law_next
 have g_range:=gB hsc "range" kf.n_range boot_range
 refine EX.assignN n15 (EV.joinGen (by decide) hr hLs hcode hC (cl:=[("row",z.cr)]) rfl ?_ (by decide) rfl rfl rfl ?_)
 ·simp only [closureFor,cellOf,hcl]
  rfl
 refine EV.call (EV.glbN g_range (EL.cons (EV.nextMod kf g_law_next kp_law_next k_row hr (by decide) hj fun x js1 hx0 hx1 hj1=>EL.nil ⟨.typ,CL.range1 fun rg=>?_⟩)))
 have hx:(x.toNat:Int)=x:=by lia
 rw [<- hx]
 generalize x.toNat=n at hx
 have hn:n<=3:=by lia
 refine PI.range .head (small_of (by exact Int.le_trans hx0 (Int.le_of_eq hx.symm)) (by lia)) fun it=>?_
 refine ⟨n,op,(rw,.list (js1.map .int))::(z.cr,.cell (some (.ref rw)))::R,fun _ H=>∃ js,RowOk js/\H=(rw,.list (js.map .int))::(z.cr,.cell (some (.ref rw)))::R,by exact lin hn (by simp +arith),hop,?_,⟨js1,hj1,rfl⟩,?_,?_⟩
 ·rw [size1]
  refine Ext.pc .at0 (Ext.pc .at2 (Ext.pc .at0 (Ext.pc .at0 (.refl _))))
 ·intro fm' env' A' hns' hsc' hcl' hr' i H₃ X hi hJ
  obtain ⟨js2,hj2,rfl⟩:=hJ
  have fl:env'.scope.names.lookup (Str.ofString "row")=some .free:=by rw [hsc']; rfl
  have fc:env'.cells.lookup (Str.ofString "row")=some z.cr:=by rw [hcl']; rfl
  have h_next:GlbN D env' "_law_next" (.ref ad.law_next):=.k (by rw [hsc']; rfl) kf.n_law_next
  have h_chr:GlbN D env' "chr" (.raw (.builtin "chr")):=.b (by rw [hsc']; rfl) kf.n_chr boot_chr
  refine EV.drop (EV.perm (permSwap X [_,_] R) ?_)
  refine EV.sub (EV.list (EL.cons (EV.str (EL.cons (EV.str ?_)))))
  refine EL.cons (EV.call (EV.glbN h_chr (EL.cons (EV.bin (EV.int (EV.nextF kf h_next kp_law_next fl fc hr' (by decide) hj2 fun x3 js3 hx2 hx3 hj3=>⟨_,.add,EL.nil ⟨.blt,CL.chr (by exact linZ hx2 (by simp +arith)) (by exact linZ hx3 (by simp +arith)) ?_⟩⟩))))))
  refine EL.cons (EV.str (EL.nil (leAnd (by rfl) fun e=>?_)))
  refine EV.perm (Ext.pc .at1 (Ext.pc .at1 (.refl _))) (EV.nextF kf h_next kp_law_next fl fc hr' (by decide) hj3 fun x4 js4 hx4 hx5 hj4=>?_)
  have hx4':x4=0\/x4=1\/x4=2\/x4=3:=by lia
  have fin:∀ t:Str,t.cps.size<=3->DropV (JoinQ X fun H=>∃ js,RowOk js/\H=(rw,AObj.list (js.map .int))::(z.cr,.cell (some (.ref rw)))::R) (.str t) ((rw,AObj.list (js4.map .int))::(z.cr,.cell (some (.ref rw)))::(e,.list [.str "a",.str "bc",.str ⟨#[(1+x3).toNat]⟩,.str "xyz"])::(X++R)):=fun t ht=>
   ⟨_,.cons .at2 (.refl _),t,_,rfl,ht,(permSwap X [_,_] R).symm,js4,hj4,rfl⟩
  rcases hx4' with rfl | rfl | rfl | rfl
  ·exact GI.list m_2 (by decide) (by decide) rfl (fin _ (by decide))
  ·exact GI.list m_2 (by decide) (by decide) rfl (fin _ (by decide))
  ·exact GI.list m_2 (by decide) (by decide) rfl (fin _ (Nat.le_of_ble_eq_true (by rfl)))
  ·exact GI.list m_2 (by decide) (by decide) rfl (fin _ (by decide))
 ·rintro y H₃ op' hy ⟨js2,hj2,rfl⟩ hop'
  exact hq y js2 op' (by exact lin (Nat.add_le_add hy (Nat.add_le_add hn (Nat.add_le_add hn hn))) (by simp +arith)) hj2 hop'
end
end Mine
end
section
set_option maxHeartbeats 4000000
-- names: 12 14 15 16
namespace Mine
noncomputable def askE (z:Cz) (x:As) (recs:List Rec) (s0:Int) (js:List Int) (op:Obj) (asked:List Nat) (places:List (Int×Int)) (texts:List (Str×Int)) (ep1 ep2:Nat) (X:HL):HL:=
 (x.rw,.list (js.map .int))::(z.cr,.cell (some (.ref x.rw)))::(x.rl,.list (recs.map fun r=>.ref r.a))::(z.ct,.cell (some (.int s0)))::(x.al,.list (asked.map (ra recs)))::(x.pd,.dictI (places.map fun p=>(p.1,.int p.2)) ep1) ::
  (x.tm,.dictS (texts.map fun p=>(p.1,.int p.2)) ep2)::(x.P,.raw op)::X
noncomputable def lk (l:List (Int×Int)) (n:Int):Option Int:=(l.find? fun p=>p.1=n).map (·.2)
structure AskOk (recs:List Rec) (st:DS) (bs:List Blk) (asked:List Nat) (places:List (Int×Int)):Prop where
 a:∀ i∈asked,∃ r p,recs[i]?=some r/\r.d.module="M"/\st.place r.d.number=some p/\lk places r.d.number=some p
 p:∀ n v,lk places n=some v->st.place n=some v
 c:∀ i,.d i∈bs->∃ a∈asked,i∈(rc recs a).ch/\(rc recs i).d.module="M"
inductive AJh (ad:Ads) (z:Cz) (x:As) (zz:DaA) (recs:List Rec) (W R:HL) (s0 a0:Int) (lap:Nat) (H:HL):Prop where
 | mk (js:List Int) (op:Obj) (st:DS) (bs:List Blk) (asked:List Nat) (places:List (Int×Int)) (ep1 ep2:Nat) (hj:RowOk js) (hop:TabO op) (hh:Hist recs a0 st bs) (hm:Mea recs st (16 * (8 - lap))) (ha:asked.length<=lap) (hp:places.length<=lap) (ht:st.texts.length<=lap) (hok:AskOk recs st bs asked places)
  (hd:DaH ad zz st H (askE z x recs s0 js op asked places st.texts ep1 ep2 (W++R)))
inductive AJ (ad:Ads) (z:Cz) (x:As) (zz:DaA) (recs:List Rec) (W R:HL) (s0 a0:Int) (sv:V) (ts:Addr) (lap:Nat) (H:HL) (vs:List (Option V)):Prop where
 | mk (h:AJh ad z x zz recs W R s0 a0 lap H) (v:AskV sv ts x zz vs)
theorem askP {α:Type} (L X:List α) (a b c d e f g p:α):(L++(a::b::c::d::e::f::g::p::X)).Perm (a::b::p::(L++(c::d::e::f::g::X))):=by
 refine List.perm_middle.trans (.cons _ (List.perm_middle.trans (.cons _ ?_)))
 refine (List.Perm.append_left L (?_:List.Perm _ (p::c::d::e::f::g::X))).trans List.perm_middle
 have h:(c::d::e::f::g::p::X)=[c,d,e,f,g]++p::X:=rfl
 rw [h]
 exact List.perm_middle
theorem places_dget (l:List (Int×Int)) (n:Int):dget n (l.map fun p=>(p.1,V.int p.2))=(lk l n).map .int:=by
 rw [dget_map]; unfold lk; simp [Option.map_map,Function.comp_def]
section
variable {D:Wd} {ad:Ads} {fm:Fm} {env:Env} {vs:List (Option V)} {A:Around} {H R W:HL} {z:Cz}
theorem ask_str (kf:KF D ad) {x:As} {zz:DaA} {recs:List Rec} {c:Addr} {s0 a0:Int} {sv:V} {ts:Addr} {lap:Nat} {Q:Fl->HL->List (Option V)->Prop} (hr:Rm 90 A) (L:LE fm env z) (hLs:fm.L≠sysModules) (hcode:env.code=.ref c) (hC:∀ h,D.K.In h->CodeHd h c x.P) (hlap:lap < 8)
  (h:AJ ad z x zz recs W R s0 a0 sv ts lap H vs) (hq:∀ H' vs',AJ ad z x zz recs W R s0 a0 sv ts (lap+1) H' vs'->Q .next H' vs'):XS D fm A env askStr H vs Q:=by
 have L':=L
 obtain ⟨⟨js,op,st,bs,asked,places,ep1,ep2,hj,hop,hh,hm,ha,hp,ht,hok,e1,e2,pp⟩,⟨yv⟩⟩:=h
 obtain ⟨hns,hsc,hcl⟩:=L
 have n12:=lN hsc hns "data" 12
 have n14:=lN hsc hns "texts_met" 14
 have n15:=lN hsc hns "words" 15
 have n16:=lN hsc hns "at" 16
 have kp1:KpA D (.ref ad.da_string_address):=.of kf.da_string_address.keep
 refine XS.perm (pp.trans (askP _ _ _ _ _ _ _ _ _ _)) ?_
 refine XS.cons (law_words kf hr L' hLs hcode hC hj hop fun y js' op' hy hj' hop'=>?_)
 have p2:((x.P,AObj.raw op')::(x.rw,.list (js'.map .int))::(z.cr,.cell (some (.ref x.rw)))::(daE ad zz st st.size e1 e2++((x.rl,.list (recs.map fun r=>.ref r.a))::(z.ct,.cell (some (.int s0)))::(x.al,.list (asked.map (ra recs)))::(x.pd,.dictI (places.map fun p=>(p.1,.int p.2)) ep1) ::
  (x.tm,.dictS (st.texts.map fun p=>(p.1,.int p.2)) ep2)::(W++R)))).Perm (daE ad zz st st.size e1 e2++askE z x recs s0 js' op' asked places st.texts ep1 ep2 (W++R)):=
  (Ext.pc .at1 (Ext.pc .at1 (.refl _))).trans (askP _ _ _ _ _ _ _ _ _ _).symm
 have ht4:sizeLine=16777216:=by decide
 have key:∀ (p:Int) (st':DS) (bs':List Blk) (H':HL),Hist recs a0 st' bs'->Mea recs st' (16 * (8 - (lap+1)))->st'.descs=st.descs->(∀ i,Blk.d i∈bs'->Blk.d i∈bs)->st'.texts.length<=lap+1->((st.tplace y=some p/\st'.texts=st.texts)\/(st.tplace y=none/\st'.texts=st.texts++[(y,p)]))->
   DaH ad zz st' H' (askE z x recs s0 js' op' asked places st.texts ep1 ep2 (W++R))->
   XS D fm A env (askStr.drop 2) H' (((askL sv ts x zz yv).set 15 (some (.str y))).set 16 (some (.int p))) Q:=by
  rintro p st' bs' H' hh' hm' hds hbs htl hcase ⟨e1',e2',p'⟩
  refine XS.perm p' ?_
  unfold daE askE
  refine XS.cons (EX.ifs (EB.cmp ?_))
  refine EV.meth (EV.locN n14 rfl ?_)
  refine GM.getS m_12 ?_
  refine EL.cons (EV.locN n15 rfl (EL.cons (EV.locN n16 rfl (EL.nil (kpAnd .blt ?_)))))
  refine CL.getS m_12 ?_
  have hget:(dget y (st.texts.map fun p=>(p.1,V.int p.2))).getD (.int p)=.int p:=by
   rw [st.tplace_dget]
   rcases hcase with ⟨h1,_⟩ | ⟨h1,_⟩
   ·rw [h1]; rfl
   ·rw [h1]; rfl
  rw [hget]
  refine EV.locN n16 rfl (cmpAnd .ne ⟨fun h=>by simp at h,fun _=>XS.nil ?_⟩)
  refine XS.cons (EX.setItem (EV.locN n16 rfl (EV.locN n14 rfl (EV.locN n15 rfl (SI.dictS .at12 ?_ fun ep'=>XS.nil (hq _ _ ⟨⟨js',op',st',bs',asked,places,ep1,ep',hj',hop',hh',hm',by exact lin ha (by simp +arith),by exact lin hp (by simp +arith),htl,⟨fun i hi=>?_,fun n v hn=>?_,fun i hi=>hok.c i (hbs i hi)⟩,e1',e2',?_⟩,(.of rfl)⟩))))))
  ·simp; exact lin (Nat.add_le_add ht (Nat.add_le_add hlap (Nat.le_of_eq ht4.symm))) (by simp +arith)
  ·obtain ⟨r,v,b1,b2,b3,b4⟩:=hok.a i hi
   exact ⟨r,v,b1,b2,by unfold DS.place at b3 ⊢; rw [hds]; exact b3,b4⟩
  ·have:=hok.p n v hn
   unfold DS.place at this ⊢; rw [hds]; exact this
  ·have et:dput y (.int p) (st.texts.map fun p=>(p.1,V.int p.2))=st'.texts.map fun p=>(p.1,V.int p.2):=by
    rcases hcase with ⟨h1,h2⟩ | ⟨h1,h2⟩
    ·rw [h2]; exact dput_same hh.texts h1
    ·rw [h2]; exact dput_new _ _ _ (by unfold DS.tplace at h1; simpa using h1)
   rw [et]
   exact (Ext.perm .at12).symm
 refine XS.perm p2 ?_
 unfold daE askE
 refine XS.cons (EX.assignN n16 (EV.meth (EV.locN n12 rfl (GM.da kf m_0 (EL.cons (EV.locN n15 rfl (EL.nil (kpAnd kp1.at ?_))))))))
 refine string_address_ok kf (k:=50) (hr.le (by decide)) (R:=askE z x recs s0 js' op' asked places st.texts ep1 ep2 (W++R)) (st:=st) DaH.of ?_ ?_ ?_ (fun p H' h1 h2=>?_) (fun H' h1 h2=>?_)
 ·have:=hm; unfold Mea at this; lia
 ·exact lin hy (by simp +arith)
 ·exact lin (Nat.add_le_add ht hlap) (by simp +arith)
 ·exact key p st bs H' hh (hm.le (by exact lin (Nat.add_le_add (Nat.mul_le_mul_left 16 (sbE (8) (lap+1) (lin hlap (by simp +arith)))) (Nat.mul_le_mul_left 14 (sbA (8) (lap)))) (by simp +arith only))) rfl (fun _ h=>h) (by exact lin ht (by simp +arith)) (.inl ⟨h1,rfl⟩) h2
 ·refine key st.size (stepS y st) (bs++[.s y]) H' (hh.s h1 hy) (Mea.str (hm.le (by exact lin (Nat.add_le_add (Nat.mul_le_mul_left 16 (sbE (8) (lap+1) (lin hlap (by simp +arith)))) (Nat.mul_le_mul_left 16 (sbA (8) (lap)))) (by simp +arith only))) hy) (by rw [stepS_eq]) (fun i hi=>?_) (by rw [stepS_eq]; simp; omega) (.inr ⟨h1,by rw [stepS_eq]⟩) h2
  rcases List.mem_append.mp hi with hi | hi
  ·exact hi
  ·cases List.mem_singleton.mp hi
end
end Mine
end
section
set_option maxHeartbeats 4000000
-- names: 2 5 10 12 13 17
namespace Mine
noncomputable def askRec:List Stmt:=ifElse askIf
noncomputable def askD:List Stmt:=ifBody (askRec.getD 0 (.Pass default))
theorem lk_put {l:List (Int×Int)} {n v m:Int}:lk (if l.any (fun p=>p.1=n) then l.map (fun p=>if p.1=n then (p.1,v) else p) else l++[(n,v)]) m=if m=n then some v else lk l m:=by
 unfold lk
 by_cases hany:l.any (fun p=>p.1=n)=true
 ·rw [if_pos hany]
  induction l with
  | nil=>simp at hany
  | cons q r ih=>
   rw [List.map_cons,List.find?_cons,List.find?_cons]
   by_cases hq:q.1=n
   ·rw [if_pos hq]
    by_cases hm:m=n
    ·subst hm
     simp [hq]
    ·have h1:¬ q.1=m:=fun h=>hm (h.symm.trans hq)
     simp only [h1,decide_false]
     rw [if_neg hm]
     by_cases hr:r.any (fun p=>p.1=n)=true
     ·have:=ih hr; rw [if_neg hm] at this; exact this
     ·congr 1
      clear ih hany
      induction r with
      | nil=>rfl
      | cons q' r' ih'=>
       have:¬ q'.1=n:=fun h=>hr (by simp [h])
       rw [List.map_cons,if_neg this,List.find?_cons,List.find?_cons]
       by_cases hq':q'.1=m
       ·simp [hq']
       ·simp only [hq',decide_false]
        exact ih' fun h=>hr (by simp only [List.any_cons,h,Bool.or_true])
   ·rw [if_neg hq]
    have hr:r.any (fun p=>p.1=n)=true:=by simpa [hq] using hany
    by_cases h1:q.1=m
    ·have hm:¬ m=n:=fun h=>hq (h1.trans h)
     simp [h1,hm]
    ·simp only [h1,decide_false]
     exact ih hr
 ·rw [if_neg hany]
  rw [List.find?_append]
  have hnone:l.find? (fun p=>p.1=n)=none:=by
   rw [List.find?_eq_none]
   intro q hq h
   exact hany (List.any_eq_true.mpr ⟨q,hq,h⟩)
  by_cases hm:m=n
  ·subst hm
   rw [if_pos rfl,hnone]
   simp
  ·rw [if_neg hm]
   have:¬ n=m:=fun h=>hm h.symm
   cases hf:l.find? (fun p=>p.1=m) <;> simp [this]
noncomputable def put (l:List (Int×Int)) (n v:Int):List (Int×Int):=if l.any (fun p=>p.1=n) then l.map (fun p=>if p.1=n then (p.1,v) else p) else l++[(n,v)]
theorem put_dput (l:List (Int×Int)) (n v:Int):dput n (.int v) (l.map fun p=>(p.1,V.int p.2))=(put l n v).map fun p=>(p.1,V.int p.2):=by
 unfold dput put
 have e:(l.map fun p=>(p.1,V.int p.2)).any (fun kv=>decide (kv.1=n))=l.any (fun p=>decide (p.1=n)):=by rw [List.any_map]; rfl
 rw [e]
 split
 ·rw [List.map_map,List.map_map]
  refine List.map_congr_left fun p _=>?_
  simp only [Function.comp]
  split <;> rfl
 ·simp
theorem put_len (l:List (Int×Int)) (n v:Int):(put l n v).length<=l.length+1:=by
 unfold put
 split <;> simp
theorem lk_put' (l:List (Int×Int)) (n v m:Int):lk (put l n v) m=if m=n then some v else lk l m:=lk_put
section
variable {D:Wd} {ad:Ads} {fm:Fm} {env:Env} {vs:List (Option V)} {A:Around} {H R W:HL} {z:Cz}
theorem stepD_texts (recs:List Rec) (i:Nat) (st:DS):(stepD recs i st).texts=st.texts:=by
 unfold stepD
 have e1:∀ (m:Nat) (st:DS),(lvls recs (rc recs i).ch st m).texts=st.texts:=by
  intro m
  induction m with
  | zero=>intro st; rfl
  | succ m ih=>
   intro st
   rw [lvls_succ]
   have:∀ st:DS,(lvl recs (rc recs i).ch st m).texts=st.texts:=fun st=>by
    unfold lvl
    split
    ·unfold refSt; split <;> rfl
    ·rfl
   rw [this,ih]
 rw [pushes]
 show (lvls recs (rc recs i).ch (st2 (rc recs i) st) 4).texts=_
 rw [e1]; rfl
theorem Run.texts {recs:List Rec} {st st':DS} {l:List Nat} (h:Run recs st l st'):st'.texts=st.texts:=by
 induction h with
 | nil=>rfl
 | snoc _ _ _ ih=>rw [stepD_texts,ih]
theorem veqs_self (l:List Int):veqs (l.map .int) (l.map .int)=true:=veqs_refl _
theorem CP.neSelfI (l:List Int) {Q:V->HL->Prop} (hu:A.units+2 < cLine) (hq:Q (.bool false) H):CP D A .NotEq (.tup (l.map .int)) (.tup (l.map .int)) H Q:=
 CP.neTup (n:=1) hu (fun i x y h1 h2=>by
  rw [List.getElem?_map,Option.map_eq_some_iff] at h1 h2
  obtain ⟨a,_,rfl⟩:=h1
  obtain ⟨b,_,rfl⟩:=h2
  exact .int a b) (by rw [veqs_self]; exact hq)
set_option tactic.hygienic true in
theorem ask_found (kf:KF D ad) {x:As} {zz:DaA} {recs:List Rec} {s0 a0:Int} {sv:V} {ts:Addr} {lap:Nat} {Q:Fl->HL->List (Option V)->Prop} {js:List Int} {op:Obj} {st:DS} {bs:List Blk} {asked:List Nat} {places:List (Int×Int)} {ep1 ep2 e1 e2:Nat} {yv:Nat->Option V} {j:Nat} {r:Rec}
  (hr:Rm 90 A) (L:LE fm env z) (hlap:lap < 8) (hB:RecsB D ad W 20 recs) (hI:ImpOk D ad zz 1 W) (hlen:recs.length<=6) (hj:RowOk js) (hop:TabO op) (hh:Hist recs a0 st bs) (hm:Mea recs st (16 * (8 - lap))) (ha:asked.length<=lap) (hp:places.length<=lap) (ht:st.texts.length<=lap) (hok:AskOk recs st bs asked places) (er:recs[j]?=some r)
  (hq:∀ H' vs',AJ ad z x zz recs W R s0 a0 sv ts (lap+1) H' vs'->Q .next H' vs'/\Q .cont H' vs') :
  XS D fm A env (askD.drop 1) (daE ad zz st st.size e1 e2++askE z x recs s0 js op asked places st.texts ep1 ep2 (W++R))
    ((askL sv ts x zz yv).set 5 (some (.ref r.a))) Q:=by
 obtain ⟨hns,hsc,hcl⟩:=L
 have n2:=lN hsc hns "records" 2
 have n5:=lN hsc hns "record" 5
 have n10:=lN hsc hns "asked" 10
 have n12:=lN hsc hns "data" 12
 have n13:=lN hsc hns "places" 13
 have n17:=lN hsc hns "found" 17
 have kp1:KpA D (.ref ad.da_descriptor):=.of kf.da_descriptor.keep
 have ht4:sizeLine=16777216:=by decide
 have hu:=hr.units
 have h5:cLine=9900:=by rfl
 have hk:Rm (50+2) A:=hr.le (by decide)
 have hR:=hB.ok (by exact lin hlen (by simp +arith))
 have hWW:∀ q∈W,q∈askE z x recs s0 js op asked places st.texts ep1 ep2 (W++R):=fun q hq=>by
  unfold askE
  iterate 8 refine .tail _ ?_
  exact List.mem_append_left _ hq
 have hmr:=(hB.b j r er).ok.mem
 have hjl:j < recs.length:=(List.getElem?_eq_some_iff.mp er).1
 have erc:=rc_of er
 refine XS.cons (EX.assignN n17 ?_)
 unfold daE askE
 refine EV.meth (EV.locN n12 rfl (GM.da kf m_0 (EL.cons (EV.locN n5 rfl (EL.nil (kpAnd kp1.at ?_))))))
 have hmod:=(hB.b j r er).ok.mod
 rcases hmod with hM | hN
 ·refine descriptor_own kf (k:=20+20+2 * j) (hr.le (by exact lin (Nat.add_le_add hjl (Nat.add_le_add hlen (Nat.add_le_add hjl hlen))) (by simp +arith))) hR er hM (own_ok kf hR (hI.mono (by decide)) j r er hM) hWW DaH.of hm.bud fun l st' p H' hrun hl hpl hda=>?_
  have hm':Mea recs st' (16 * (8 - (lap+1))):=(hm.le (by exact lin (Nat.add_le_add (Nat.mul_le_mul_left 16 (sbE (8) (lap+1) (lin hlap (by simp +arith)))) (Nat.mul_le_mul_left 14 (sbA (8) (lap)))) (by simp +arith only))).run hrun (run_lt (st:=st) (st':=st') hR fun i hi=>⟨r,j,er,(hl i hi).1⟩)
  have hh':=hh.run hrun
  obtain ⟨e1',e2',p'⟩:=hda
  have mr1:∀ {s:DS} {n:Int} {a b:Nat},(r.a,AObj.inst ad.cType r.d.at)∈daE ad zz s n a b++askE z x recs s0 js op asked places st.texts ep1 ep2 (W++R):=List.mem_append_right _ (hWW _ hmr)
  refine XS.perm p' ?_
  refine XS.cons (EX.ifs (EB.cmp (EV.attr (EV.locN n5 rfl (GA.ty kf mr1 (hq:=EV.str (cmpAnd .eqS ⟨fun h=>absurd h (by rw [hM]; decide),fun _=>XS.nil ?_⟩)))))))
  have etx:=hrun.texts
  have hget:(dget r.d.number (places.map fun p=>(p.1,V.int p.2))).getD (.int p)=.int p:=by
   rw [places_dget]
   cases hl:lk places r.d.number with
   | none=>rfl
   | some v=>
    have:=hrun.some (hok.p _ _ hl)
    rw [hpl] at this
    cases this; rfl
  refine XS.cons (EX.ifs (EB.or (EB.cmp (EV.sliceTup (EV.locN n17 rfl (EV.int ⟨[.int 0,.int 0,.int p],2,rfl,rfl,(by show (2:Nat) < 3; decide),(by rw [ht4]; show (3:Nat)<=16777216; decide),?_⟩))))))
  refine EV.tuple (EL.cons (EV.int (EL.cons (EV.int (EL.nil (leAnd (by rfl) (CP.neSelfI [0,0] (by exact linL (Nat.add_le_add hu (Nat.le_of_eq h5.symm)) (by simp +arith)) ⟨false,.bool _,fun _=>?_,fun h=>by cases h⟩)))))))
  refine EB.or (EB.cmp ?_)
  unfold daE askE
  refine EV.meth (EV.locN n13 rfl ?_)
  refine GM.getI m_11 ?_
  refine EL.cons (EV.attr (EV.locN n5 rfl ?_))
  refine GA.ty kf mr1 (hq:=EL.cons ?_)
  refine EV.sub (EV.locN n17 rfl (EV.int (GI.tup (by decide) (by decide) rfl (EL.nil ⟨.blt,CL.getI m_11 ?_⟩))))
  rw [hget]
  refine EV.sub (EV.locN n17 rfl (EV.int (GI.tup (by decide) (by decide) rfl (cmpAnd .ne ⟨fun _=>EB.or0 ⟨fun h=>(by cases h),fun _=>XS.nil ?_⟩,fun h=>by simp at h⟩))))
  refine XS.cons (EX.setItem (EV.sub (EV.locN n17 rfl (EV.int (GI.tup (by decide) (by decide) rfl ?_)))))
  refine EV.locN n13 rfl (EV.attr (EV.locN n5 rfl (GA.ty kf mr1 (hq:=SI.dictI .at11 (by rw [List.length_map,ht4]; exact lin (Nat.add_le_add hp hlap) (by simp +arith)) fun ep'=>?_))))
  refine XS.cons (EX.expr (EV.meth (EV.locN n10 rfl ?_)))
  refine GM.append m_11 ?_
  refine EL.cons (EV.locN n5 rfl (EL.nil (kpAnd .blt ?_)))
  refine CL.append .at11 (by rw [List.length_map,ht4]; exact lin (Nat.add_le_add ha hlap) (by simp +arith)) ⟨trivial,XS.nil (hq _ _ ⟨⟨js,op,st',bs++l.map .d,asked++[j],put places r.d.number p,ep',ep2,hj,hop,hh',hm',(by simp; omega),Nat.le_trans (put_len _ _ _) (by exact lin hp (by simp +arith)),(by rw [etx]; exact lin ht (by simp +arith)),⟨?_,?_,?_⟩,e1',e2',?_⟩,(.of rfl)⟩).1⟩
  ·intro i hi
   rcases List.mem_append.mp hi with hi | hi
   ·obtain ⟨r',v,b1,b2,b3,b4⟩:=hok.a i hi
    by_cases e:r'.d.number=r.d.number
    ·exact ⟨r',p,b1,b2,by rw [e]; exact hpl,by rw [lk_put',if_pos e]⟩
    ·exact ⟨r',v,b1,b2,hrun.some b3,by rw [lk_put',if_neg e]; exact b4⟩
   ·rw [List.mem_singleton.mp hi]
    exact ⟨r,p,er,hM,hpl,by rw [lk_put',if_pos rfl]⟩
  ·intro n v hn
   rw [lk_put'] at hn
   split at hn
   ·rename_i e
    rw [e,hpl]; exact hn
   ·exact hrun.some (hok.p n v hn)
  ·intro i hi
   rcases List.mem_append.mp hi with hi | hi
   ·obtain ⟨a,h1,h2,h3⟩:=hok.c i hi
    exact ⟨a,List.mem_append_left _ h1,h2,h3⟩
   ·obtain ⟨i',h1,h2⟩:=List.mem_map.mp hi
    cases h2
    exact ⟨j,by simp,by rw [erc]; exact (hl i h1).1,(hl i h1).2⟩
  ·rw [put_dput]
   unfold daE askE
   simp only [etx]
   rw [List.map_append,List.map_singleton,ra_of er]
   exact (pick [2,2,2,2,2,2,2,2,2,2,0,0] _)
 ·refine descriptor_far kf hk hR er hN (hI.mono (by decide)) hWW DaH.of fun H' hda=>?_
  obtain ⟨e1',e2',p'⟩:=hda
  have mr1:∀ {s:DS} {n:Int} {a b:Nat},(r.a,AObj.inst ad.cType r.d.at)∈daE ad zz s n a b++askE z x recs s0 js op asked places st.texts ep1 ep2 (W++R):=List.mem_append_right _ (hWW _ hmr)
  refine XS.perm p' ?_
  refine XS.cons (EX.ifs (EB.cmp (EV.attr (EV.locN n5 rfl (GA.ty kf mr1 (hq:=EV.str (cmpAnd .eqS ⟨fun _=>?_,fun h=>absurd hN (of_decide_eq_false h)⟩)))))))
  refine XS.cons (EX.ifs (EB.cmp (EV.locN n17 rfl (EV.tuple (EL.cons (EV.int (EL.cons (EV.attr (EV.locN n5 rfl (GA.ty kf mr1 (hq:=EL.cons (EV.int (EL.nil (leAnd (by rfl) (CP.neSelfI [1,r.d.exno,0] (by exact linL (Nat.add_le_add hu (Nat.le_of_eq h5.symm)) (by simp +arith only)) ⟨false,.bool _,fun h=>(by cases h),fun _=>XS.nil ?_⟩)))))))))))))))
  refine XS.cons (EX.cont (hq _ _ ⟨⟨js,op,_,bs,asked,places,ep1,ep2,hj,hop,hh.i,(hm.le (by exact lin (Nat.add_le_add (Nat.mul_le_mul_left 16 (sbE (8) (lap+1) (lin hlap (by simp +arith)))) (Nat.mul_le_mul_left 14 (sbA (8) (lap)))) (by simp +arith only))),by exact lin ha (by simp +arith),by exact lin hp (by simp +arith),by (show st.texts.length<=_; exact lin ht (by simp +arith)),⟨hok.a,hok.p,hok.c⟩,e1',e2',.refl _⟩,(.of rfl)⟩).2)
theorem ask_rec (kf:KF D ad) {x:As} {zz:DaA} {recs:List Rec} {s0 a0:Int} {sv:V} {ts:Addr} {lap:Nat} {Q:Fl->HL->List (Option V)->Prop} (hr:Rm 90 A) (L:LE fm env z) (hlap:lap < 8) (hB:RecsB D ad W 20 recs) (hI:ImpOk D ad zz 1 W) (hlen:recs.length<=6)
  (h:AJ ad z x zz recs W R s0 a0 sv ts lap H vs) (hq:∀ H' vs',AJ ad z x zz recs W R s0 a0 sv ts (lap+1) H' vs'->Q .next H' vs'/\Q .cont H' vs'):XS D fm A env askRec H vs Q:=by
 have L':=L
 obtain ⟨⟨js,op,st,bs,asked,places,ep1,ep2,hj,hop,hh,hm,ha,hp,ht,hok,e1,e2,pp⟩,⟨yv⟩⟩:=h
 obtain ⟨hns,hsc,hcl⟩:=L
 have n2:=lN hsc hns "records" 2
 have n5:=lN hsc hns "record" 5
 have n10:=lN hsc hns "asked" 10
 have n12:=lN hsc hns "data" 12
 have n13:=lN hsc hns "places" 13
 have n17:=lN hsc hns "found" 17
 have k_row:=cN (c:=z.cr) hsc hcl "row"
 have kp_law_next:=KpA.of kf.law_next.keep
 have g_law_next:=gN hsc "_law_next" kf.n_law_next
 have g_len:=gB hsc "len" kf.n_len boot_len
 have ht4:sizeLine=16777216:=by decide
 have hu:=hr.units
 have h5:cLine=9900:=by rfl
 refine XS.perm pp ?_
 unfold daE askE
 refine XS.cons (EX.ifs (EB.cmp (EV.locN n2 rfl (EV.list (EL.nil (leAnd (by rfl) fun e=>?_))))))
 refine CP.neNil m_9 (.head _) (by exact linL (Nat.add_le_add hu (Nat.le_of_eq h5.symm)) (by simp +arith)) fun bb hbb=>⟨_,.bool _,fun hne=>XS.forget .head ?_,fun _=>XS.forget .head (XS.nil (XS.nil (hq _ _ ?_).1))⟩
 ·have hlen0:0 < recs.length:=Nat.pos_of_ne_zero fun e=>hbb hne (by rw [List.length_eq_zero_iff.mp e]; rfl)
  refine XS.perm (Ext.pc .at6 (Ext.pc .at6 (.refl _))) ?_
  refine XS.cons (EX.assignN n5 (EV.sub (EV.locN n2 rfl (EV.bin (EV.next (k:=50) kf g_law_next kp_law_next k_row (hr.le (by decide)) hj fun x1 js1 hx0 hx1 hj1=>EV.call (EV.glbN g_len (EL.cons (EV.locN n2 rfl (EL.nil ⟨.blt,CL.len m_8 (by simp; exact lin (Nat.add_le_add hlen (Nat.le_of_eq ht4.symm)) (by simp +arith)) ⟨_,.mod (by rw [List.length_map]; lia),?_⟩⟩)))))))))
  rw [List.length_map]
  have hm1:0<=x1.fmod (recs.length:Int)/\x1.fmod (recs.length:Int) < recs.length:=by
   rw [Int.fmod_eq_emod_of_nonneg _ (by simp +arith)]
   exact ⟨Int.emod_nonneg _ (by omega),Int.emod_lt_of_pos _ (by lia)⟩
  generalize x1.fmod (recs.length:Int)=ix at hm1
  have hlt:ix.toNat < recs.length:=by lia
  have er:recs[ix.toNat]?=some recs[ix.toNat]:=List.getElem?_eq_getElem hlt
  refine GI.list m_8 hm1.1 (by lia) (by rw [List.getElem?_map,er]; rfl) ?_
  refine XS.perm ?_ (ask_found kf hr L' hlap hB hI hlen hj1 hop hh hm ha hp ht hok er (ep1:=ep1) (ep2:=ep2) (e1:=e1) (e2:=e2) fun H' vs' h=>⟨XS.nil (hq _ _ h).1,(hq _ _ h).2⟩)
  unfold daE askE
  exact Ext.pc .at2 (Ext.pc .at2 (Ext.pc .at2 (Ext.pc .at2 (Ext.pc .at2 (Ext.pc .at2 (Ext.pc .at0 (Ext.pc .at0 (.refl _))))))))
 ·exact ⟨⟨js,op,st,bs,asked,places,ep1,ep2,hj,hop,hh,hm.le (by exact lin (Nat.add_le_add (Nat.mul_le_mul_left 16 (sbE (8) (lap+1) (lin hlap (by simp +arith)))) (Nat.mul_le_mul_left 14 (sbA (8) (lap)))) (by simp +arith only)),by exact lin ha (by simp +arith),by exact lin hp (by simp +arith),by exact lin ht (by simp +arith),hok,e1,e2,.refl _⟩,(.of rfl)⟩
end
end Mine
end
section
set_option maxHeartbeats 4000000
namespace Mine
section
variable {D:Wd} {ad:Ads} {fm:Fm} {env:Env} {vs:List (Option V)} {A:Around} {H R W:HL} {z:Cz}
theorem askMid {zz:DaA} {st:DS} {n:Int} {x:As} {recs:List Rec} {s0:Int} {js:List Int} {op:Obj} {asked:List Nat} {places:List (Int×Int)} {texts:List (Str×Int)} {ep1 ep2 e1 e2:Nat} (q:Addr×AObj) :
  (q::(daE ad zz st n e1 e2++askE z x recs s0 js op asked places texts ep1 ep2 (W++R))).Perm (daE ad zz st n e1 e2++askE z x recs s0 js op asked places texts ep1 ep2 (W++(q::R))):=by
 unfold daE askE
 simp only [List.cons_append,List.nil_append]
 exact (pick [1,1,1,1,1,1,1,1,1,1,1,1,1,1] _).trans (List.Perm.append_left [_,_,_,_,_,_,_,_,_,_,_,_,_,_] List.perm_middle.symm)
theorem AJ.push {x:As} {zz:DaA} {recs:List Rec} {s0 a0:Int} {sv:V} {ts:Addr} {lap:Nat} (q:Addr×AObj) (h:AJ ad z x zz recs W R s0 a0 sv ts lap H vs):AJ ad z x zz recs W (q::R) s0 a0 sv ts lap (q::H) vs:=by
 obtain ⟨⟨js,op,st,bs,asked,places,ep1,ep2,hj,hop,hh,hm,ha,hp,ht,hok,e1,e2,p⟩,r⟩:=h
 exact ⟨⟨js,op,st,bs,asked,places,ep1,ep2,hj,hop,hh,hm,ha,hp,ht,hok,e1,e2,(p.cons q).trans (askMid q)⟩,r⟩
theorem AJ.pop {x:As} {zz:DaA} {recs:List Rec} {s0 a0:Int} {sv:V} {ts:Addr} {lap:Nat} {q:Addr×AObj} (h:AJ ad z x zz recs W (q::R) s0 a0 sv ts lap H vs):∃ H',Ext q.1 q.2 H H'/\AJ ad z x zz recs W R s0 a0 sv ts lap H' vs:=by
 obtain ⟨⟨js,op,st,bs,asked,places,ep1,ep2,hj,hop,hh,hm,ha,hp,ht,hok,e1,e2,p⟩,r⟩:=h
 obtain ⟨H',e,p'⟩:=Ext.of_perm (p.trans (askMid q).symm)
 exact ⟨H',e,⟨js,op,st,bs,asked,places,ep1,ep2,hj,hop,hh,hm,ha,hp,ht,hok,e1,e2,p'⟩,r⟩
theorem ask_turn (kf:KF D ad) {x:As} {zz:DaA} {recs:List Rec} {c:Addr} {s0 a0:Int} {sv:V} {ts:Addr} {lap:Nat} {Q:Fl->HL->List (Option V)->Prop} (hr:Rm 90 A) (L:LE fm env z) (hLs:fm.L≠sysModules) (hcode:env.code=.ref c) (hC:∀ h,D.K.In h->CodeHd h c x.P) (hlap:lap < 8) (hB:RecsB D ad W 20 recs) (hI:ImpOk D ad zz 1 W) (hlen:recs.length<=6)
  (h:AJ ad z x zz recs W R s0 a0 sv ts lap H vs) (hq:∀ H' vs',AJ ad z x zz recs W R s0 a0 sv ts (lap+1) H' vs'->Q .next H' vs'/\Q .cont H' vs'):XS D fm A env (forBody (lawAt 12)) H vs Q:=by
 have L':=L
 obtain ⟨⟨js,op,st,bs,asked,places,ep1,ep2,hj,hop,hh,hm,ha,hp,ht,hok,e1,e2,pp⟩,⟨yv⟩⟩:=h
 obtain ⟨hns,hsc,hcl⟩:=L
 have n7:=lN hsc hns "lap" 7
 have k_row:=cN (c:=z.cr) hsc hcl "row"
 have kp_law_next:=KpA.of kf.law_next.keep
 have g_law_next:=gN hsc "_law_next" kf.n_law_next
 refine XS.perm pp ?_
 unfold daE askE
 refine XS.perm (Ext.pc .at6 (Ext.pc .at6 (.refl _))) ?_
 refine XS.cons (EX.ifs (EB.cmp (EV.nextMod kf g_law_next kp_law_next k_row hr (by decide) hj fun x1 js1 hx0 hx1 hj1=>EV.int (cmpAnd .eq ⟨fun _=>?_,fun _=>?_⟩))))
 ·refine ask_str kf hr L' hLs hcode hC hlap ⟨⟨js1,op,st,bs,asked,places,ep1,ep2,hj1,hop,hh,hm,ha,hp,ht,hok,e1,e2,?_⟩,(.of rfl)⟩ fun H' vs' h=>XS.nil (hq _ _ h).1
  exact (pick [2,2,2,2,2,2,0,0] _)
 ·refine ask_rec kf hr L' hlap hB hI hlen ⟨⟨js1,op,st,bs,asked,places,ep1,ep2,hj1,hop,hh,hm,ha,hp,ht,hok,e1,e2,?_⟩,(.of rfl)⟩ fun H' vs' h=>⟨XS.nil (hq _ _ h).1,(hq _ _ h).2⟩
  exact (pick [2,2,2,2,2,2,0,0] _)
theorem law_asks (kf:KF D ad) {x:As} {zz:DaA} {recs:List Rec} {c:Addr} {s0 a0:Int} {sv:V} {ts:Addr} {Q:Fl->HL->List (Option V)->Prop} (hr:Rm 90 A) (L:LE fm env z) (hLs:fm.L≠sysModules) (hcode:env.code=.ref c) (hC:∀ h,D.K.In h->CodeHd h c x.P) (hB:RecsB D ad W 20 recs) (hI:ImpOk D ad zz 1 W) (hlen:recs.length<=6)
  (h:AJ ad z x zz recs W R s0 a0 sv ts 0 H vs) (hq:∀ n H' vs',n<=7->AJ ad z x zz recs W R s0 a0 sv ts n H' vs'->Q .next H' vs'):EX D fm A env (lawAt 12) H vs Q:=by
 have L':=L
 obtain ⟨⟨js,op,st,bs,asked,places,ep1,ep2,hj,hop,hh,hm,ha,hp,ht,hok,e1,e2,pp⟩,⟨yv⟩⟩:=h
 obtain ⟨hns,hsc,hcl⟩:=L
 have n7:=lN hsc hns "lap" 7
 have k_row:=cN (c:=z.cr) hsc hcl "row"
 have kp_law_next:=KpA.of kf.law_next.keep
 have g_law_next:=gN hsc "_law_next" kf.n_law_next
 have g_range:=gB hsc "range" kf.n_range boot_range
 refine EX.perm pp ?_
 unfold daE askE
 refine EX.perm (Ext.pc .at6 (Ext.pc .at6 (.refl _))) ?_
 refine EX.forR hr.handled (EV.call (EV.glbN g_range (EL.cons (EV.nextMod kf g_law_next kp_law_next k_row hr (by decide) hj fun n js1 hx0 hx1 hj1=>EL.nil ⟨.typ,CL.range1 fun rg=>?_⟩))))
 refine ⟨rg,n,_,rfl,.head,hx0,by lia,fun i H' vs'=>AJ ad z x zz recs W R s0 a0 sv ts i H' vs',⟨⟨js1,op,st,bs,asked,places,ep1,ep2,hj1,hop,hh,hm,ha,hp,ht,hok,e1,e2,?_⟩,(.of rfl)⟩,?_,?_⟩
 ·exact (pick [2,2,2,2,2,2,0,0] _)
 ·intro it i H₃ vs₃ N hN hi h
  refine AS.locN n7 ?_
  have h':=h.push (it,.io (.riter (i+1) (n - (i+1)) 1))
  have h2:AJ ad z x zz recs W ((it,.io (.riter (i+1) (n - (i+1)) 1))::R) s0 a0 sv ts i ((it,.io (.riter (i+1) (n - (i+1)) 1))::H₃) (vs₃.set 7 (some (.int i))):=by
   obtain ⟨h1,⟨yv⟩⟩:=h'
   exact ⟨h1,.of rfl⟩
  refine ask_turn kf hr L' hLs hcode hC (lap:=i) (by lia) hB hI hlen h2 fun H' vs' h''=>?_
  obtain ⟨H'',e,h3⟩:=h''.pop
  exact ⟨hN ⟨H'',e,h3⟩,hN ⟨H'',e,h3⟩⟩
 ·intro H₃ vs₃ h
  exact XS.nil (hq _ _ _ (by lia) h)
end
end Mine
end
section
set_option maxHeartbeats 4000000
-- names: 10 12 13 18
namespace Mine
noncomputable def una (asked:List Nat):Nat:=((List.range 6).filter fun i=>!asked.contains i).length
theorem una_snoc {asked:List Nat} {j:Nat} (hj:j < 6) (hn:j ∉ asked):una (asked++[j])+1<=una asked:=by
 unfold una
 refine filter_lt _ (fun i _ hi=>?_) ⟨j,List.mem_range.mpr hj,by simpa using hn,by simp⟩
 simp at hi ⊢
 exact hi.1
theorem una_le (asked:List Nat):una asked<=6:=by
 unfold una
 exact Nat.le_trans (List.length_filter_le _ _) (by simp)
noncomputable def bv (recs:List Rec):Option Nat->V
 | none=>.none
 | some j=>ra recs j
noncomputable def ClA (recs:List Rec) (asked:List Nat) (a:Nat):Prop:=∀ j∈(rc recs a).ch,(rc recs j).d.module="M"->j∈asked
noncomputable def Cl (recs:List Rec) (asked:List Nat) (i:Nat):Prop:=∀ k a,k < i->asked[k]?=some a->ClA recs asked a
noncomputable def Rest (recs:List Rec) (asked:List Nat) (a:Nat) (b:Option Nat) (n:Nat):Prop:=
 (b=none/\n=0/\ClA recs asked a)\/∃ jb,b=some jb/\n=jb+1/\jb < recs.length/\∀ j∈(rc recs a).ch,(rc recs j).d.module="M"->j∈asked\/j∈(rc recs jb).ch
inductive IJ (ad:Ads) (z:Cz) (x:As) (zz:DaA) (recs:List Rec) (W R:HL) (s0 a0:Int) (sv:V) (ts:Addr) (i a n:Nat) (H:HL) (vs:List (Option V)):Prop where
 | mk (js:List Int) (op:Obj) (st:DS) (bs:List Blk) (asked:List Nat) (places:List (Int×Int)) (ep1 ep2:Nat) (b:Option Nat) (hop:TabO op) (hh:Hist recs a0 st bs) (hm:Mea recs st 0) (hok:AskOk recs st bs asked places) (ht:st.texts.length<=7) (hu:asked.length+una asked<=13) (hia:asked[i]?=some a) (hcl:Cl recs asked i) (hp:places.length+n<=7+7 * (i+1)) (hrest:Rest recs asked a b n)
  (hd:DaH ad zz st H (askE z x recs s0 js op asked places st.texts ep1 ep2 (W++R))) (v:AskV sv ts x zz vs) (hb:vs[18]?=some (some (bv recs b)))
noncomputable def basesW:Stmt:=(forBody (lawAt 13)).getD 1 (.Pass default)
@[reducible] noncomputable def whBody (s:Stmt):List Stmt:=(pt s).b
noncomputable def aw (recs:List Rec) (j:Nat):Addr:=(recs[j]?.map (·.a)).getD 0
theorem aw_of {recs:List Rec} {j:Nat} {r:Rec} (h:recs[j]?=some r):aw recs j=r.a:=by simp [aw,h]
section
variable {D:Wd} {ad:Ads} {fm:Fm} {env:Env} {vs:List (Option V)} {A:Around} {H R W:HL} {z:Cz}
theorem SI.perm {o i y:V} {H':HL} {Q:HL->Prop} (p:H.Perm H') (h:SI D A o i y H' Q):SI D A o i y H Q:=⟨fun fm T s vs ov iv w I=>h.run fm T s vs ov iv w (I.perm p)⟩
set_option tactic.hygienic true in
theorem base_step (kf:KF D ad) (ceq:ClsEq D.K ad.cType) {x:As} {zz:DaA} {recs:List Rec} {s0 a0:Int} {sv:V} {ts:Addr} {i a jb:Nat} {Q:Fl->HL->List (Option V)->Prop} {js:List Int} {op:Obj} {st:DS} {bs:List Blk} {asked:List Nat} {places:List (Int×Int)} {ep1 ep2 e1 e2:Nat} {yv:Nat->Option V}
  (hr:Rm 90 A) (L:LE fm env z) (hB:RecsB D ad W 20 recs) (hI:ImpOk D ad zz 1 W) (hlen:recs.length<=6) (hop:TabO op) (hh:Hist recs a0 st bs) (hm:Mea recs st 0) (hok:AskOk recs st bs asked places) (ht:st.texts.length<=7) (hu:asked.length+una asked<=13) (hia:asked[i]?=some a) (hcl:Cl recs asked i) (hp:places.length+(jb+1)<=7+7 * (i+1))
  (hjl:jb < recs.length) (hrest:∀ j∈(rc recs a).ch,(rc recs j).d.module="M"->j∈asked\/j∈(rc recs jb).ch) (p:H.Perm (daE ad zz st st.size e1 e2++askE z x recs s0 js op asked places st.texts ep1 ep2 (W++R)))
  (hy:(askL sv ts x zz yv)[18]?=some (some (bv recs (some jb)))) (hq:∀ m H' vs',m < jb+1->IJ ad z x zz recs W R s0 a0 sv ts i a m H' vs'->Q .next H' vs') :
  XS D fm A env (whBody basesW) H (askL sv ts x zz yv) Q:=by
 have L':=L
 obtain ⟨hns,hsc,hcel⟩:=L
 have n10:=lN hsc hns "asked" 10
 have n12:=lN hsc hns "data" 12
 have n13:=lN hsc hns "places" 13
 have n18:=lN hsc hns "base" 18
 have kp1:KpA D (.ref ad.da_own_descriptor):=.of kf.da_own_descriptor.keep
 have ht4:sizeLine=16777216:=by decide
 have hun:=hr.units
 have h5:cLine=9900:=by rfl
 have hR:=hB.ok (by exact lin hlen (by simp +arith))
 obtain ⟨r,er⟩:∃ r,recs[jb]?=some r:=⟨_,List.getElem?_eq_getElem hjl⟩
 have erc:=rc_of er
 have hmr:=(hB.b jb r er).ok.mem
 have eb:bv recs (some jb)=.ref r.a:=ra_of er
 rw [eb] at hy
 refine XS.perm p ?_
 have hWW:∀ {js op asked places texts e1 e2},∀ q∈W,q∈askE z x recs s0 js op asked places texts e1 e2 (W++R):=fun q hq=>by
  unfold askE
  iterate 8 refine .tail _ ?_
  exact List.mem_append_left _ hq
 have mr1:∀ {s:DS} {n:Int} {a b:Nat} {js op asked places texts e1 e2},(r.a,AObj.inst ad.cType r.d.at)∈daE ad zz s n a b++askE z x recs s0 js op asked places texts e1 e2 (W++R):=List.mem_append_right _ (hWW _ hmr)
 -- the last step: base=base.base
 have fin:∀ (st':DS) (bs':List Blk) (asked':List Nat) (places':List (Int×Int)) (ep1 e1 e2:Nat) (Q':Fl->HL->List (Option V)->Prop),Hist recs a0 st' bs'->Mea recs st' 0->AskOk recs st' bs' asked' places'->st'.texts=st.texts->asked'.length+una asked'<=13->asked'[i]?=some a->Cl recs asked' i->(places'.length<=places.length+1)->(∀ j∈asked,j∈asked')->(r.d.module="M"->jb∈asked')->
   XS D fm A env ((whBody basesW).drop 1) (daE ad zz st' st'.size e1 e2++askE z x recs s0 js op asked' places' st.texts ep1 ep2 (W++R)) (askL sv ts x zz yv) Q:=by
  intro st' bs' asked' places' ep1 e1 e2 Q' a1 a2 a3 a4 a5 a6 a7 a8 a9 a10
  obtain ⟨b',hb',hbv⟩:∃ b',r.d.base=bv recs b'/\((b'=none/\r.ch=[jb])\/∃ j,b'=some j/\j < jb/\j < recs.length/\r.ch=(rc recs j).ch++[jb]):=by
   rcases (hB.b jb r er).ok.base with ⟨_,q1,q2⟩ | ⟨j,b,q1,q2,q3,q4,q5⟩
   ·exact ⟨none,q1,.inl ⟨rfl,q2⟩⟩
   ·exact ⟨some j,by rw [q4]; exact (ra_of q2).symm,.inr ⟨j,rfl,q3,(List.getElem?_eq_some_iff.mp q2).1,by rw [rc_of q2]; exact q5⟩⟩
  have hhv:handV r.d.base=true:=by
   rw [hb']
   cases b' <;> rfl
  refine XS.cons (EX.assignN n18 (EV.attr (EV.locN n18 hy (GA.ty kf mr1 (hv:=hhv) (hq:=XS.nil ?_)))))
  rw [hb']
  have hN:∃ n,n < jb+1/\Rest recs asked' a b' n:=by
   rcases hbv with ⟨rfl,q2⟩ | ⟨j,rfl,q1,q3,q2⟩
   ·refine ⟨0,by simp +arith,.inl ⟨rfl,rfl,fun j hj hM=>?_⟩⟩
    rcases hrest j hj hM with h | h
    ·exact a9 _ h
    ·rw [erc,q2,List.mem_singleton] at h
     subst h
     exact a10 (by rw [<- erc]; exact hM)
   ·refine ⟨j+1,by exact linL q1 (by simp +arith),.inr ⟨j,rfl,rfl,q3,fun j' hj hM=>?_⟩⟩
    rcases hrest j' hj hM with h | h
    ·exact .inl (a9 _ h)
    ·rw [erc,q2] at h
     rcases List.mem_append.mp h with h | h
     ·exact .inr h
     ·rw [List.mem_singleton] at h
      subst h
      exact .inl (a10 (by rw [<- erc]; exact hM))
  obtain ⟨m,hm1,hm2⟩:=hN
  exact hq m _ _ hm1 ⟨js,op,st',bs',asked',places',ep1,ep2,b',hop,a1,a2,a3,by rw [a4]; exact ht,a5,a6,a7,by exact lin (Nat.add_le_add a8 (Nat.add_le_add hp hm1)) (by simp +arith),hm2,⟨e1,e2,by rw [a4]⟩,(.of rfl),rfl⟩
 refine XS.cons (EX.ifs (EB.cmp (EV.attr (EV.locN n18 hy (GA.ty kf mr1 (hq:=EV.str (cmpAnd .eqS ⟨fun h=>?_,fun h=>XS.nil ?_⟩)))))))
 ·have hM:r.d.module="M":=of_decide_eq_true h
  have hWW0:∀ q∈W,q∈askE z x recs s0 js op asked places st.texts ep1 ep2 (W++R):=hWW
  refine XS.cons (EX.setItem ?_)
  unfold daE askE
  refine EV.meth (EV.locN n12 rfl (GM.da kf m_0 (EL.cons (EV.locN n18 hy (EL.nil (kpAnd kp1.at ?_))))))
  have own:=own_ok kf hR (hI.mono (by decide)) jb r er hM
  rw [<- erc]
  refine own A _ (askE z x recs s0 js op asked places st.texts ep1 ep2 (W++R)) st _ (hr.le (by exact lin (Nat.add_le_add hjl (Nat.add_le_add hlen (Nat.add_le_add hjl hlen))) (by simp +arith))) hWW0 DaH.of hm.bud fun l st' p' H' hrun hl hpl _ hda=>?_
  rw [erc] at hl hpl
  try rw [erc]
  have hm':Mea recs st' 0:=hm.run hrun (run_lt (st:=st) (st':=st') hR fun i hi=>⟨r,jb,er,(hl i hi).1⟩)
  have hh':=hh.run hrun
  have etx:=hrun.texts
  obtain ⟨e1',e2',p2⟩:=hda
  refine EV.locN n13 rfl (EV.attr (EV.locN n18 hy (GA.ty kf (p2.mem_iff.mpr mr1) (hq:=SI.perm p2 ?_))))
  unfold daE askE
  refine SI.dictI .at11 (by rw [List.length_map,ht4]; have h1:=(List.getElem?_eq_some_iff.mp hia).1; exact lin (Nat.add_le_add hp (Nat.add_le_add (Nat.mul_le_mul_left 7 h1) (Nat.mul_le_mul_left 7 hu))) (by simp +arith only)) fun ep'=>?_
  rw [put_dput]
  have hmap:∀ l:List Nat,l.map (ra recs)=(l.map (aw recs)).map V.ref:=fun l=>by rw [List.map_map]; rfl
  have hput:(put places r.d.number p').length<=places.length+1:=put_len _ _ _
  have hok1:AskOk recs st' (bs++l.map .d) (asked++[jb]) (put places r.d.number p'):=by
   refine ⟨fun i hi=>?_,fun n v hn=>?_,fun i hi=>?_⟩
   ·rcases List.mem_append.mp hi with hi | hi
    ·obtain ⟨r',v,b1,b2,b3,b4⟩:=hok.a i hi
     by_cases e:r'.d.number=r.d.number
     ·exact ⟨r',p',b1,b2,by rw [e]; exact hpl,by rw [lk_put',if_pos e]⟩
     ·exact ⟨r',v,b1,b2,hrun.some b3,by rw [lk_put',if_neg e]; exact b4⟩
    ·rw [List.mem_singleton.mp hi]
     exact ⟨r,p',er,hM,hpl,by rw [lk_put',if_pos rfl]⟩
   ·rw [lk_put'] at hn
    split at hn
    ·rename_i e
     rw [e,hpl]; exact hn
    ·exact hrun.some (hok.p n v hn)
   ·rcases List.mem_append.mp hi with hi | hi
    ·obtain ⟨a,h1,h2,h3⟩:=hok.c i hi
     exact ⟨a,List.mem_append_left _ h1,h2,h3⟩
    ·obtain ⟨i',h1,h2⟩:=List.mem_map.mp hi
     cases h2
     exact ⟨jb,by simp,by rw [erc]; exact (hl i h1).1,(hl i h1).2⟩
  have hinst:∀ y∈r.a::asked.map (aw recs),∃ at_,(y,AObj.inst ad.cType at_)∈W:=fun y hy=>by
   rcases List.mem_cons.mp hy with rfl | hy
   ·exact ⟨_,hmr⟩
   ·obtain ⟨i,hi,rfl⟩:=List.mem_map.mp hy
    obtain ⟨r',v,b1,_⟩:=hok.a i hi
    exact ⟨_,by rw [aw_of b1]; exact (hB.b i r' b1).ok.mem⟩
  have hin:(asked.map (aw recs)).any (·==r.a)=decide (jb∈asked):=by
   rw [Bool.eq_iff_iff,List.any_eq_true,decide_eq_true_iff]
   constructor
   ·rintro ⟨y,hy,e⟩
    obtain ⟨i,hi,rfl⟩:=List.mem_map.mp hy
    obtain ⟨r',v,b1,_⟩:=hok.a i hi
    rw [aw_of b1] at e
    have e2:r'.a=r.a:=by simpa using e
    have hi':=(List.getElem?_eq_some_iff.mp b1)
    have hj':=(List.getElem?_eq_some_iff.mp er)
    obtain ⟨q1,q2⟩:=hi'
    obtain ⟨q3,q4⟩:=hj'
    have:i=jb:=by
     refine (List.getElem_inj (xs:=recs.map (·.a)) (h₀:=by simpa using q1) (h₁:=by simpa using q3) hB.adr).mp ?_
     rw [List.getElem_map,List.getElem_map,q2,q4,e2]
    rw [<- this]; exact hi
   ·intro h
    exact ⟨_,List.mem_map_of_mem h,by rw [aw_of er]; simp⟩
  refine XS.cons (EX.ifs (EB.cmp (EV.locN n18 hy (EV.locN n10 rfl (CP.notIn ?_)))))
  refine CP.inRefs (xs:=asked.map (aw recs)) ?_ (fun y hy=>?_) ceq (by exact linL (Nat.add_le_add hun (Nat.le_of_eq h5.symm)) (by simp +arith)) ⟨_,rfl,_,.bool _,fun h=>?_,fun h=>XS.nil (XS.nil ?_)⟩
  ·rw [<- hmap]; exact m_11
  ·obtain ⟨at_,hy⟩:=hinst y hy
   refine ⟨at_,?_⟩
   iterate 14 refine .tail _ ?_
   exact List.mem_append_left _ hy
  ·rw [hin] at h
   have hnm:jb ∉ asked:=by simpa using h
   refine XS.cons (EX.expr (EV.meth (EV.locN n10 rfl ?_)))
   refine GM.append m_11 ?_
   refine EL.cons (EV.locN n18 hy (EL.nil (kpAnd .blt ?_)))
   refine CL.append .at11 (by rw [List.length_map,ht4]; exact lin hu (by simp +arith)) ⟨trivial,XS.nil (XS.nil ?_)⟩
   refine XS.perm ?_ (fin st' (bs++l.map .d) (asked++[jb]) (put places r.d.number p') ep' e1' e2' Q hh' hm' hok1 etx (by have:=una_snoc (asked:=asked) (j:=jb) (by exact Nat.lt_of_lt_of_le hjl hlen) hnm; simp; exact lin (Nat.add_le_add hu this) (by simp +arith)) (by rw [List.getElem?_append_left (List.getElem?_eq_some_iff.mp hia).1]; exact hia) (fun k a' hk ha' j hj hM'=>?_) hput (fun j hj=>List.mem_append_left _ hj) (fun _=>by simp))
   ·unfold daE askE
    rw [List.map_append,List.map_singleton,ra_of er]
    exact (pick [2,2,2,2,2,2,2,2,2,2,0,0] _)
   ·exact List.mem_append_left _ (hcl k a' hk (by rw [List.getElem?_append_left (by have:=(List.getElem?_eq_some_iff.mp hia).1; exact linL (Nat.add_le_add hk this) (by simp +arith))] at ha'; exact ha') j hj hM')
  ·rw [hin] at h
   have hnm:jb∈asked:=by simpa using h
   have hok2:AskOk recs st' (bs++l.map .d) asked (put places r.d.number p'):=by
    refine ⟨fun i hi=>hok1.a i (List.mem_append_left _ hi),hok1.p,fun i hi=>?_⟩
    obtain ⟨a,h1,h2,h3⟩:=hok1.c i hi
    rcases List.mem_append.mp h1 with h1 | h1
    ·exact ⟨a,h1,h2,h3⟩
    ·rw [List.mem_singleton.mp h1] at h2
     exact ⟨jb,hnm,h2,h3⟩
   refine XS.perm ?_ (fin st' (bs++l.map .d) asked (put places r.d.number p') ep' e1' e2' Q hh' hm' hok2 etx hu hia hcl hput (fun j hj=>hj) (fun _=>hnm))
   unfold daE askE
   exact (pick [1,1,1,1,1,1,1,1,1,1,1,0] _)
 ·exact fin st bs asked places ep1 e1 e2 Q hh hm hok rfl hu hia hcl (by simp +arith) (fun _ h=>h) (fun hM=>absurd hM (of_decide_eq_false h))
end
end Mine
end
section
set_option maxHeartbeats 4000000
namespace Mine
section
variable {D:Wd} {ad:Ads} {fm:Fm} {env:Env} {vs:List (Option V)} {A:Around} {H R W:HL} {z:Cz}
theorem bases_while (kf:KF D ad) (ceq:ClsEq D.K ad.cType) {x:As} {zz:DaA} {recs:List Rec} {s0 a0:Int} {sv:V} {ts:Addr} {i a n:Nat} {Q:Fl->HL->List (Option V)->Prop}
  (hr:Rm 90 A) (L:LE fm env z) (hB:RecsB D ad W 20 recs) (hI:ImpOk D ad zz 1 W) (hlen:recs.length<=6) (h:IJ ad z x zz recs W R s0 a0 sv ts i a n H vs)
  (hq:∀ H' vs',IJ ad z x zz recs W R s0 a0 sv ts i a 0 H' vs'->Q .next H' vs'):EX D fm A env basesW H vs Q:=by
 refine EX.while_ (fun n H vs=>IJ ad z x zz recs W R s0 a0 sv ts i a n H vs) ⟨n,h⟩ ?_
 rintro n H₁ vs₁ h
 have h0:=h
 obtain ⟨js,op,st,bs,asked,places,ep1,ep2,b,hop,hh,hm,hok,ht,hu,hia,hcl,hp,hrest,⟨e1,e2,p⟩,⟨yv⟩,hy⟩:=h
 obtain ⟨hns,hsc,hcel⟩:=id L
 have n18:LocN fm env "base" 18:=.of hsc hns rfl rfl rfl
 rcases hrest with ⟨rfl,rfl,hr1⟩ | ⟨jb,rfl,rfl,hjl,hr1⟩
 ·refine EB.cmp (EV.locN n18 hy (EV.cnone (CP.of .notN ⟨_,.bool _,(fun h=>by cases h),fun _=>XS.nil (hq _ _ h0)⟩)))
 ·refine EB.cmp (EV.locN n18 hy (EV.cnone (CP.of .notRN ⟨_,.bool _,fun _=>?_,(fun h=>by cases h)⟩)))
  exact base_step kf ceq hr L hB hI hlen hop hh hm hok ht hu hia hcl hp hjl hr1 p hy fun m H' vs' hm h=>⟨m,hm,h⟩
inductive BJ (ad:Ads) (z:Cz) (x:As) (zz:DaA) (recs:List Rec) (W R:HL) (s0 a0:Int) (sv:V) (ts:Addr) (i:Nat) (H:HL) (vs:List (Option V)):Prop where
 | mk (js:List Int) (op:Obj) (st:DS) (bs:List Blk) (asked:List Nat) (places:List (Int×Int)) (ep1 ep2:Nat) (hop:TabO op) (hh:Hist recs a0 st bs) (hm:Mea recs st 0) (hok:AskOk recs st bs asked places) (ht:st.texts.length<=7) (hu:asked.length+una asked<=13) (hia:i<=asked.length) (hcl:Cl recs asked i) (hp:places.length<=7+7 * i)
  (hd:DaH ad zz st H (askE z x recs s0 js op asked places st.texts ep1 ep2 (W++R))) (v:AskV sv ts x zz vs)
theorem BJ.pop {x:As} {zz:DaA} {recs:List Rec} {s0 a0:Int} {sv:V} {ts:Addr} {i:Nat} {q:Addr×AObj} (h:BJ ad z x zz recs W (q::R) s0 a0 sv ts i H vs):∃ H',Ext q.1 q.2 H H'/\BJ ad z x zz recs W R s0 a0 sv ts i H' vs:=by
 obtain ⟨js,op,st,bs,asked,places,ep1,ep2,hop,hh,hm,hok,ht,hu,hia,hcl,hp,⟨e1,e2,p⟩,r⟩:=h
 obtain ⟨H',e,p'⟩:=Ext.of_perm (p.trans (askMid q).symm)
 exact ⟨H',e,js,op,st,bs,asked,places,ep1,ep2,hop,hh,hm,hok,ht,hu,hia,hcl,hp,⟨e1,e2,p'⟩,r⟩
theorem law_bases (kf:KF D ad) (ceq:ClsEq D.K ad.cType) {x:As} {zz:DaA} {recs:List Rec} {s0 a0:Int} {sv:V} {ts:Addr} {Q:Fl->HL->List (Option V)->Prop}
  (hr:Rm 90 A) (L:LE fm env z) (hB:RecsB D ad W 20 recs) (hI:ImpOk D ad zz 1 W) (hlen:recs.length<=6) {n:Nat} (hn:n<=7) (h:AJ ad z x zz recs W R s0 a0 sv ts n H vs)
  (hq:∀ (js:List Int) (op:Obj) (st:DS) (bs:List Blk) (asked:List Nat) (places:List (Int×Int)) (ep1 ep2:Nat) (H':HL) (yv:Nat->Option V),TabO op->Hist recs a0 st bs->AskOk recs st bs asked places->st.texts.length<=7->asked.length<=13->Cl recs asked asked.length->places.length<=100->
   DaH ad zz st H' (askE z x recs s0 js op asked places st.texts ep1 ep2 (W++R))->Mea recs st 0->
   Q .next H' (askL sv ts x zz yv)):EX D fm A env (lawAt 13) H vs Q:=by
 obtain ⟨hns,hsc,hcel⟩:=id L
 have n5:=lN hsc hns "record" 5
 have n10:=lN hsc hns "asked" 10
 have n18:=lN hsc hns "base" 18
 have hb:BJ ad z x zz recs W R s0 a0 sv ts 0 H vs:=by
  obtain ⟨⟨js,op,st,bs,asked,places,ep1,ep2,hj,hop,hh,hm,ha,hp,ht,hok,hd⟩,hv⟩:=h
  have:=una_le asked
  exact ⟨js,op,st,bs,asked,places,ep1,ep2,hop,hh,hm.le (Nat.zero_le _),hok,by exact Nat.le_trans ht hn,by exact lin (Nat.add_le_add ha (Nat.add_le_add hn this)) (by simp +arith),Nat.zero_le _,(fun k a hk=>absurd hk (Nat.not_lt_zero _)),by exact Nat.le_trans hp hn,hd,hv⟩
 have hb0:=hb
 obtain ⟨js,op,st,bs,asked,places,ep1,ep2,hop,hh,hm,hok,ht,hu,hia,hcl,hp,⟨e1,e2,p⟩,⟨yv⟩⟩:=hb0
 refine EX.for_ (EV.locN n10 rfl (PI.list (p.mem_iff.mpr (List.mem_append_right _ m_4)) fun it=>⟨fun n H vs=>∃ i R',n=14 - i/\Ext it (.io (.liter x.al i)) H R'/\BJ ad z x zz recs W R s0 a0 sv ts i R' vs,⟨14,0,_,rfl,.head,hb⟩,?_⟩))
 clear hb hp hcl hu ht hok hm hh p
 rintro n H₃ vs₃ N hNx ⟨i,R',rfl,e,js,op,st,bs,asked,places,ep1,ep2,hop,hh,hm,hok,ht,hu,hia,hcl,hp,⟨e1,e2,p⟩,⟨yv⟩⟩
 refine NX.list hr.handled e (e.perm.mem_iff.mpr (.tail _ (p.mem_iff.mpr (List.mem_append_right _ m_4)))) (fun v hv=>?_) fun hx=>?_
 ·rw [List.getElem?_map,Option.map_eq_some_iff] at hv
  obtain ⟨a,ha,rfl⟩:=hv
  obtain ⟨r,v,er,hM,_,_⟩:=hok.a a (List.mem_of_getElem? ha)
  have hi:i < asked.length:=(List.getElem?_eq_some_iff.mp ha).1
  rw [ra_of er]
  refine AS.locN n5 ?_
  have mW:∀ q∈W,q∈(it,AObj.io (.liter x.al (i+1)))::R':=fun q hq=>by
   refine .tail _ (p.mem_iff.mpr (List.mem_append_right _ ?_))
   unfold askE
   iterate 8 refine .tail _ ?_
   exact List.mem_append_left _ hq
  have mr:=mW _ (hB.b a r er).ok.mem
  obtain ⟨b',hb',hbv⟩:∃ b',r.d.base=bv recs b'/\((b'=none/\r.ch=[a])\/∃ j,b'=some j/\j < a/\j < recs.length/\r.ch=(rc recs j).ch++[a]):=by
   rcases (hB.b a r er).ok.base with ⟨_,q1,q2⟩ | ⟨j,b,q1,q2,q3,q4,q5⟩
   ·exact ⟨none,q1,.inl ⟨rfl,q2⟩⟩
   ·exact ⟨some j,by rw [q4]; exact (ra_of q2).symm,.inr ⟨j,rfl,q3,(List.getElem?_eq_some_iff.mp q2).1,by rw [rc_of q2]; exact q5⟩⟩
  have hhv:handV r.d.base=true:=by
   rw [hb']
   cases b' <;> rfl
  have ham:a∈asked:=List.mem_of_getElem? ha
  have hN:∃ n,n<=6/\Rest recs asked a b' n:=by
   rcases hbv with ⟨rfl,q2⟩ | ⟨j,rfl,q1,q3,q2⟩
   ·refine ⟨0,by simp +arith,.inl ⟨rfl,rfl,fun j hj hM=>?_⟩⟩
    rw [rc_of er,q2,List.mem_singleton] at hj
    rw [hj]; exact ham
   ·refine ⟨j+1,by exact Nat.lt_of_lt_of_le q3 hlen,.inr ⟨j,rfl,rfl,q3,fun j' hj hM=>?_⟩⟩
    rw [rc_of er,q2] at hj
    rcases List.mem_append.mp hj with h | h
    ·exact .inr h
    ·rw [List.mem_singleton.mp h]; exact .inl ham
  obtain ⟨n,hn6,hR⟩:=hN
  refine XS.cons (EX.assignN n18 (EV.attr (EV.locN n5 rfl (GA.ty kf mr (hv:=hhv) (hq:=XS.cons ?_)))))
  rw [hb']
  refine bases_while (sv:=sv) (ts:=ts) (R:=(it,AObj.io (.liter x.al (i+1)))::R) (i:=i) (a:=a) (n:=n) kf ceq hr L hB hI hlen ⟨js,op,st,bs,asked,places,ep1,ep2,b',hop,hh,hm,hok,ht,hu,ha,hcl,by exact lin (Nat.add_le_add hp hn6) (by simp +arith),hR,⟨e1,e2,(p.cons _).trans (askMid _)⟩,(.of rfl),rfl⟩ fun H' vs' h=>XS.nil ?_
  obtain ⟨js,op,st,bs,asked',places,ep1,ep2,b,hop,hh,hm,hok,ht,hu,hia,hcl,hp,hrest,⟨e1,e2,p⟩,hv',hy'⟩:=h
  have hc:ClA recs asked' a:=by
   rcases hrest with ⟨_,_,h⟩ | ⟨_,_,h,_⟩
   ·exact h
   ·exact (linF (Nat.le_of_eq h.symm) (by simp +arith)).elim
  have hi':=(List.getElem?_eq_some_iff.mp hia).1
  have hbj:BJ ad z x zz recs W ((it,AObj.io (.liter x.al (i+1)))::R) s0 a0 sv ts (i+1) H' vs':=⟨js,op,st,bs,asked',places,ep1,ep2,hop,hh,hm,hok,ht,hu,by exact hi',fun k a' hk ha'=>by
   by_cases hki:k=i
   ·subst hki
    rw [hia] at ha'
    cases ha'
    exact hc
   ·exact hcl k a' (by exact (Nat.lt_of_le_of_ne (lin hk (by simp +arith)) hki)) ha',by omega,⟨e1,e2,p⟩,hv'⟩
  obtain ⟨H'',e,h3⟩:=hbj.pop
  exact hNx ⟨14 - (i+1),by exact linL (Nat.add_le_add (sbE (14) (i+1) (lin (Nat.add_le_add hu hi') (by simp +arith))) (sbA (14) (i))) (by simp +arith only),i+1,H'',rfl,e,h3⟩
 ·rw [List.getElem?_map,Option.map_eq_none_iff,List.getElem?_eq_none_iff] at hx
  have hi:i=asked.length:=by exact linE hia (by simp +arith) hx (by simp +arith)
  subst hi
  exact XS.nil (hq js op st bs asked places ep1 ep2 R' _ hop hh hok ht (by exact lin hu (by simp +arith)) hcl (by exact lin (Nat.add_le_add hp (Nat.mul_le_mul_left 7 hu)) (by simp +arith only)) ⟨e1,e2,p⟩ hm)
end
end Mine
end
section
set_option maxHeartbeats 4000000
namespace Mine
set_option tactic.hygienic true in
theorem wf_mem:∀ (l:List Int) (at_:Int),∀ p∈wordsFrom at_ l,(∃ k:Nat,k < l.length/\p.1=at_+4 * k)/\p.2≠0
 := by
 intro l
 induction l with
 | nil=>intro _ p h; cases h
 | cons w r ih=>
  intro at_ p h
  unfold wordsFrom at h
  have lift:∀ p∈wordsFrom (at_+4) r,(∃ k:Nat,k < (w::r).length/\p.1=at_+4 * k)/\p.2≠0:=fun p h=>by
   obtain ⟨⟨k,h1,h2⟩,h3⟩:=ih (at_+4) p h
   exact ⟨⟨k+1,by simp; omega,by rw [h2]; simp +arith⟩,h3⟩
  split at h
  ·exact lift p h
  ·rename_i hw
   rcases List.mem_cons.mp h with rfl | h
   ·exact ⟨⟨0,by simp,by simp⟩,hw⟩
   ·exact lift p h
theorem wf_nodup:∀ (l:List Int) (at_:Int),((wordsFrom at_ l).map (·.1)).Nodup
 := by
 intro l
 induction l with
 | nil=>intro _; exact .nil
 | cons w r ih=>
  intro at_
  unfold wordsFrom
  have ih:=ih (at_+4)
  split
  ·exact ih
  ·rw [List.map_cons]
   refine List.nodup_cons.mpr ⟨fun h=>?_,ih⟩
   obtain ⟨p,hp,e⟩:=List.mem_map.mp h
   obtain ⟨⟨k,_,h2⟩,_⟩:=wf_mem r (at_+4) p hp
   lia
theorem find_none {α:Type} [DecidableEq α] {l:List (α×Int)} {k:α} (h:k ∉ l.map (·.1)):(l.find? fun p=>p.1=k)=none:=by
 rw [List.find?_eq_none]
 intro p hp e
 exact h (List.mem_map.mpr ⟨p,hp,by simpa using e⟩)
section
variable {D:Wd} {ad:Ads} {fm:Fm} {env:Env} {vs:List (Option V)} {A:Around} {H R W:HL} {z:Cz}
theorem law_wa (kf:KF D ad) {zz:DaA} {wd:Addr} {n:Int} {ws:List (Int×Int)} {s0:Int} {y0 y1 y2 y3 y4 y5 y6 y7 y8 y9 y10 y11 y13 y14 y15 y16 y17 y18 y20 y21 y22 y23 y24 y25 y26:Option V} {Q:Fl->HL->List (Option V)->Prop} (hr:Rm 90 A) (L:LE fm env z)
  (mda:(zz.da,AObj.inst ad.cDA (daAt zz n))∈H) (mwl:(zz.wl,AObj.list (ws.map tup2))∈H) (mct:(z.ct,AObj.cell (some (.int s0)))∈H) (hws:∀ p∈ws,p.1.fmod 4=0/\s0<=p.1/\p.2≠0) (nd:(ws.map (·.1)).Nodup) (hlen:ws.length<=2 ^ 22)
  (hq:∀ ep y16 y20,Q .next ((wd,.dictI (ws.map fun p=>(p.1,.int p.2)) ep)::H) [y0,y1,y2,y3,y4,y5,y6,y7,y8,y9,y10,y11,some (.ref zz.da),y13,y14,y15,y16,y17,y18,some (.ref wd),y20,y21,y22,y23,y24,y25,y26]) :
  EX D fm A env (lawAt 15) ((wd,.dictI [] 0)::H) [y0,y1,y2,y3,y4,y5,y6,y7,y8,y9,y10,y11,some (.ref zz.da),y13,y14,y15,y16,y17,y18,some (.ref wd),y20,y21,y22,y23,y24,y25,y26] Q:=by
 obtain ⟨hns,hsc,hcl⟩:=L
 have n12:=lN hsc hns "data" 12
 have n16:=lN hsc hns "at" 16
 have n19:=lN hsc hns "words_at" 19
 have n20:=lN hsc hns "word" 20
 have k_start:=cN (c:=z.ct) hsc hcl "start"
 have ht4:sizeLine=16777216:=by decide
 refine EX.for_ (EV.attr (EV.locN n12 rfl (GA.da kf (.tail _ mda) (hq:=PI.list (.tail _ mwl) fun it=>⟨fun n H' vs=>∃ i ep y16 y20,n=ws.length - i/\i<=ws.length/\H'=(it,.io (.liter zz.wl i))::(wd,.dictI ((ws.take i).map fun p=>(p.1,.int p.2)) ep)::H /\
  vs=[y0,y1,y2,y3,y4,y5,y6,y7,y8,y9,y10,y11,some (.ref zz.da),y13,y14,y15,y16,y17,y18,some (.ref wd),y20,y21,y22,y23,y24,y25,y26],⟨_,0,0,_,_,rfl,Nat.zero_le _,rfl,rfl⟩,?_⟩))))
 rintro m H₃ vs₃ N hN ⟨i,ep,y16,y20,rfl,hi,rfl,rfl⟩
 refine NX.list hr.handled .head (t_2 mwl) (fun v hv=>?_) fun hx=>?_
 ·rw [List.getElem?_map,Option.map_eq_some_iff] at hv
  obtain ⟨p,hp,rfl⟩:=hv
  have hil:=(List.getElem?_eq_some_iff.mp hp).1
  obtain ⟨h1,h2,h3⟩:=hws p (List.mem_of_getElem? hp)
  refine AS.tup2 hr.handled (.head _) n16.l n16.i n20.l n20.i ?_
  have hnot:p.1 ∉ (ws.take i).map (·.1):=by
   intro h
   rw [<- List.take_append_drop i ws,List.map_append] at nd
   have hd:p∈ws.drop i:=by
    rw [List.mem_iff_getElem?]
    exact ⟨0,by rw [List.getElem?_drop]; exact hp⟩
   exact (List.nodup_append.mp nd).2.2 _ h _ (List.mem_map_of_mem hd) rfl
  have hg:dget p.1 ((ws.take i).map fun p=>(p.1,V.int p.2))=none:=by
   rw [dget_map,find_none hnot]; rfl
  refine XS.cons (EX.ifs (EB.or (EB.cmp (EV.locN n16 rfl (EV.locN n19 rfl (CP.inI m_1 ⟨_,.bool _,fun _=>?_,fun h=>?_⟩))))))
  ·refine EB.or (EB.cmp (EV.bin (EV.locN n16 rfl (EV.int ⟨_,.mod (by decide),EV.int (cmpAnd .ne ⟨fun _=>?_,fun h=>by simp [h1] at h⟩)⟩))))
   refine EB.or (EB.cmp (EV.locN n16 rfl (EV.celN k_start (t_2 mct) (cmpAnd .lt ⟨fun _=>?_,fun h=>by simp at h; exact (linZF (Int.add_le_add h h2) (by simp +arith)).elim⟩))))
   refine EB.or (EB.cmp (EV.locN n20 rfl (EV.int (cmpAnd .eq ⟨fun _=>EB.or0 ⟨fun h=>(by cases h),fun _=>XS.nil ?_⟩,fun h=>absurd (of_decide_eq_true h) h3⟩))))
   refine XS.cons (EX.setItem (EV.locN n20 rfl (EV.locN n19 rfl (EV.locN n16 rfl (SI.dictI (.tail .head) (by rw [List.length_map,ht4]; have:=List.length_take_le i ws; lia) fun ep'=>XS.perm (List.Perm.swap _ _ _) (XS.nil ?_))))))
   refine hN ⟨ws.length - (i+1),sub_dn hil,i+1,ep',_,_,rfl,hil,?_,rfl⟩
   rw [dput_new _ _ _ (find_none hnot),List.take_add_one,hp]
   rfl
  ·rw [hg] at h; cases h
 ·rw [List.getElem?_map,Option.map_eq_none_iff,List.getElem?_eq_none_iff] at hx
  have:i=ws.length:=by exact linE hi (by simp +arith) hx (by simp +arith)
  subst this
  rw [List.take_length]
  exact XS.nil (hq _ _ _)
end
end Mine
end
section
set_option maxHeartbeats 4000000
namespace Mine
noncomputable def dueBody:List Stmt:=forBody (lawAt 18)
section
variable {D:Wd} {ad:Ads} {fm:Fm} {env:Env} {vs:List (Option V)} {A:Around} {H R W B:HL} {z:Cz}
theorem base_of {recs:List Rec} {i:Nat} {r:Rec} {k:Nat} (hB:RecB D ad W k recs i r) (er:recs[i]?=some r):∃ b',r.d.base=bv recs b'/\((b'=none/\r.ch=[i])\/∃ j b,b'=some j/\j < i/\recs[j]?=some b/\r.ch=b.ch++[i]):=by
 rcases hB.ok.base with ⟨_,q1,q2⟩ | ⟨j,b,q1,q2,q3,q4,q5⟩
 ·exact ⟨none,q1,.inl ⟨rfl,q2⟩⟩
 ·exact ⟨some j,by rw [q4]; exact (ra_of q2).symm,.inr ⟨j,b,rfl,q3,q2,q5⟩⟩
theorem bv_hand (recs:List Rec) (b:Option Nat):handV (bv recs b)=true:=by cases b <;> rfl
theorem due_chain (kf:KF D ad) {x:As} {recs:List Rec} {i:Nat} {r:Rec} {p:Int} {places:List (Int×Int)} {ep1:Nat} {y0 y1 y2 y3 y4 y6 y7 y8 y9 y10 y11 y12 y14 y15 y16 y17 y18 y19 y20 y21 y22 y23 y24 y25 y26:Option V} {Q:Fl->HL->List (Option V)->Prop} (hr:Rm 90 A) (L:LE fm env z)
  (hB:RecsB D ad W 20 recs) (hlen:recs.length<=6) (mpd:(x.pd,AObj.dictI (places.map fun p=>(p.1,.int p.2)) ep1)∈B) (hW:∀ q∈W,q∈B) (er:recs[i]?=some r) (hp:lk places r.d.number=some p)
  (hq:∀ lc,XS D fm A env (dueBody.drop 4) ((lc,.list (r.ch.map (ra recs)))::B) [y0,y1,y2,y3,y4,some (.ref r.a),y6,y7,y8,y9,y10,y11,y12,some (.ref x.pd),y14,y15,some (.int p),y17,y18,y19,y20,y21,some (.ref lc),some .none,y24,y25,y26] Q) :
  XS D fm A env dueBody B [y0,y1,y2,y3,y4,some (.ref r.a),y6,y7,y8,y9,y10,y11,y12,some (.ref x.pd),y14,y15,y16,y17,y18,y19,y20,y21,y22,y23,y24,y25,y26] Q:=by
 obtain ⟨hns,hsc,hcl⟩:=L
 have n5:=lN hsc hns "record" 5
 have n13:=lN hsc hns "places" 13
 have n16:=lN hsc hns "at" 16
 have n22:=lN hsc hns "chain" 22
 have n23:=lN hsc hns "one" 23
 have ht4:sizeLine=16777216:=by decide
 have mr:=hW _ (hB.b i r er).ok.mem
 have hch:=(hB.b i r er).ok.len
 refine XS.cons (EX.assignN n16 (EV.sub (EV.locN n13 rfl (EV.attr (EV.locN n5 rfl (GA.ty kf mr (hq:=GI.dictI mpd (by rw [places_dget,hp]; rfl) ?_)))))))
 refine XS.cons (EX.assignN n22 (EV.list (EL.nil (leAnd (by rfl) fun lc0=>?_))))
 refine XS.cons (EX.assignN n23 (EV.locN n5 rfl ?_))
 refine XS.cons (EX.while_ (fun n H' vs'=>∃ (b:Option Nat) (tl:List Nat) (lc:Addr),((b=none/\n=0/\tl=r.ch)\/∃ j rj,b=some j/\n=j+1/\recs[j]?=some rj/\rj.ch++tl=r.ch)/\H'=(lc,.list (tl.map (ra recs)))::B /\
  vs'=[y0,y1,y2,y3,y4,some (.ref r.a),y6,y7,y8,y9,y10,y11,y12,some (.ref x.pd),y14,y15,some (.int p),y17,y18,y19,y20,y21,some (.ref lc),some (bv recs b),y24,y25,y26]) ⟨i+1,some i,[],lc0,.inr ⟨i,r,rfl,rfl,er,by simp⟩,rfl,by show _=[_,_,_,_,_,_,_,_,_,_,_,_,_,_,_,_,_,_,_,_,_,_,_,some (ra recs i),_,_,_]; rw [ra_of er]; rfl⟩ ?_)
 rintro n H₁ vs₁ ⟨b,tl,lc,hb,rfl,rfl⟩
 rcases hb with ⟨rfl,rfl,rfl⟩ | ⟨j,rj,rfl,rfl,ej,hch2⟩
 ·exact EB.cmp (EV.locN n23 rfl (EV.cnone (CP.of .notN ⟨_,.bool _,(fun h=>by cases h),fun _=>XS.nil (hq lc)⟩)))
 ·refine EB.cmp (EV.locN n23 rfl (EV.cnone (CP.of .notRN ⟨_,.bool _,fun _=>?_,(fun h=>by cases h)⟩)))
  have mj:=hW _ (hB.b j rj ej).ok.mem
  have htl:tl.length<=4:=by rw [<- hch2] at hch; simp at hch; exact lin hch (by simp +arith)
  obtain ⟨b',hb',hbv⟩:=base_of (hB.b j rj ej) ej
  refine XS.cons (EX.assignN n22 (EV.cat (EV.list (EL.cons (EV.locN n23 rfl (EL.nil (leAnd (by rfl) fun t=>EV.locN n22 rfl ⟨_,_,_,_,rfl,rfl,.head _,m_1,by simp; exact lin (Nat.add_le_add htl (Nat.le_of_eq ht4.symm)) (by simp +arith),fun lc'=>?_⟩)))))))
  refine XS.forget .at1 (XS.forget .at1 ?_)
  refine XS.cons (EX.assignN n23 (EV.attr (EV.locN n23 rfl ?_)))
  rw [show bv recs (some j)=.ref rj.a from ra_of ej]
  refine GA.ty kf (.tail _ mj) (hv:=by rw [hb']; exact bv_hand _ _) (hq:=XS.nil ?_)
  rw [hb']
  rcases hbv with ⟨rfl,q2⟩ | ⟨j',rj',rfl,q1,q3,q2⟩
  ·exact ⟨0,by simp +arith,none,j::tl,lc',.inl ⟨rfl,rfl,by rw [<- hch2,q2]; rfl⟩,by rw [List.map_cons,ra_of ej]; rfl,rfl⟩
  ·exact ⟨j'+1,by exact linL q1 (by simp +arith),some j',j::tl,lc',.inr ⟨j',rj',rfl,rfl,q3,by rw [<- hch2,q2]; simp⟩,by rw [List.map_cons,ra_of ej]; rfl,rfl⟩
end
end Mine
end
section
set_option maxHeartbeats 4000000
-- names: 5 13 16 21 22 24 25 26
namespace Mine
noncomputable def cl4 (recs:List Rec) (pl:List (Int×Int)) (ch:List Nat) (m:Nat):Int:=match ch[m]? with
 | none=>0
 | some j=>if (rc recs j).d.module="M" then (lk pl (rc recs j).d.number).getD 0 else 0
noncomputable def fx4 (recs:List Rec) (ch:List Nat) (p:Int) (m:Nat):List (Int×Int×Int):=match ch[m]? with
 | none=>[]
 | some j=>if (rc recs j).d.module="M" then [(p+4+4 * m,0,0)] else [(p+4+4 * m,1,(rc recs j).d.exno)]
theorem fx4_len (recs:List Rec) (ch:List Nat) (p:Int) (m:Nat):(fx4 recs ch p m).length<=1:=by
 unfold fx4
 split
 ·simp
 ·split <;> simp
noncomputable def fxs (recs:List Rec) (ch:List Nat) (p:Int) (n:Nat):List (Int×Int×Int):=(List.range n).flatMap (fx4 recs ch p)
theorem fxs_succ (recs:List Rec) (ch:List Nat) (p:Int) (n:Nat):fxs recs ch p (n+1)=fxs recs ch p n++fx4 recs ch p n:=by
 unfold fxs; rw [List.range_succ,List.flatMap_append]; simp
theorem fxs_len (recs:List Rec) (ch:List Nat) (p:Int) (n:Nat):(fxs recs ch p n).length<=n:=by
 induction n with
 | zero=>simp [fxs]
 | succ n ih=>
  rw [fxs_succ,List.length_append]
  have:=fx4_len recs ch p n
  exact lin (Nat.add_le_add ih this) (by simp +arith)
noncomputable def cls (recs:List Rec) (pl:List (Int×Int)) (ch:List Nat) (n:Nat):List Int:=(List.range n).map (cl4 recs pl ch)
theorem cls_succ (recs:List Rec) (pl:List (Int×Int)) (ch:List Nat) (n:Nat):cls recs pl ch (n+1)=cls recs pl ch n++[cl4 recs pl ch n]:=by
 unfold cls; rw [List.range_succ,List.map_append]; simp
theorem cls_len (recs:List Rec) (pl:List (Int×Int)) (ch:List Nat) (n:Nat):(cls recs pl ch n).length=n:=by simp [cls]
section
variable {D:Wd} {ad:Ads} {fm:Fm} {env:Env} {vs:List (Option V)} {A:Around} {H R W B:HL} {z:Cz}
theorem due_levels (kf:KF D ad) {x:As} {recs:List Rec} {i:Nat} {r:Rec} {p:Int} {places:List (Int×Int)} {ep1:Nat} {y0 y1 y2 y3 y4 y6 y7 y8 y9 y10 y11 y12 y14 y15 y17 y18 y19 y20 y23 y24 y25 y26:Option V} {lc fx:Addr} {fx0:List (Int×Int×Int)} {Q:Fl->HL->List (Option V)->Prop} (hr:Rm 90 A) (L:LE fm env z)
  (hB:RecsB D ad W 20 recs) (hlen:recs.length<=6) (mpd:(x.pd,AObj.dictI (places.map fun p=>(p.1,.int p.2)) ep1)∈B) (hW:∀ q∈W,q∈B) (er:recs[i]?=some r) (hpl:∀ j∈r.ch,(rc recs j).d.module="M"->∃ v,lk places (rc recs j).d.number=some v) (hfx:fx0.length<=2 ^ 20)
  (hq:∀ ce y23 y25 y26,XS D fm A env (dueBody.drop 6) ((ce,.list ((r.d.size::cls recs places r.ch 4).map .int))::(fx,.list ((fx0++fxs recs r.ch p 4).map tup3))::B) [y0,y1,y2,y3,y4,some (.ref r.a),y6,y7,y8,y9,y10,y11,y12,some (.ref x.pd),y14,y15,some (.int p),y17,y18,y19,y20,some (.ref fx),some (.ref lc),y23,some (.ref ce),y25,y26] Q) :
  XS D fm A env (dueBody.drop 4) ((lc,.list (r.ch.map (ra recs)))::(fx,.list (fx0.map tup3))::B) [y0,y1,y2,y3,y4,some (.ref r.a),y6,y7,y8,y9,y10,y11,y12,some (.ref x.pd),y14,y15,some (.int p),y17,y18,y19,y20,some (.ref fx),some (.ref lc),y23,y24,y25,y26] Q:=by
 obtain ⟨hns,hsc,hcl⟩:=L
 have n5:=lN hsc hns "record" 5
 have n13:=lN hsc hns "places" 13
 have n16:=lN hsc hns "at" 16
 have n21:=lN hsc hns "fixups" 21
 have n22:=lN hsc hns "chain" 22
 have n24:=lN hsc hns "cells" 24
 have n25:=lN hsc hns "level" 25
 have n26:=lN hsc hns "spot" 26
 have g_range:=gB hsc "range" kf.n_range boot_range
 have g_len:=gB hsc "len" kf.n_len boot_len
 have ht4:sizeLine=16777216:=by decide
 have mr:=hW _ (hB.b i r er).ok.mem
 have hch:=(hB.b i r er).ok.len
 have hR:=hB.ok (by exact lin hlen (by simp +arith))
 refine XS.cons (EX.assignN n24 (EV.list (EL.cons (EV.attr (EV.locN n5 rfl (GA.ty kf (t_2 mr) (hq:=EL.nil (leAnd (by rfl) fun ce=>?_))))))))
 refine XS.cons (EX.forR hr.handled (EV.call (EV.glbN g_range (EL.cons (EV.int (EL.nil ⟨.typ,CL.range1 fun rg=>?_⟩))))))
 refine ⟨rg,4,_,rfl,.head,by decide,by decide,fun lev H' vs'=>∃ y25 y26,H'=(ce,.list ((r.d.size::cls recs places r.ch lev).map .int))::(lc,.list (r.ch.map (ra recs)))::(fx,.list ((fx0++fxs recs r.ch p lev).map tup3))::B /\
  vs'=[y0,y1,y2,y3,y4,some (.ref r.a),y6,y7,y8,y9,y10,y11,y12,some (.ref x.pd),y14,y15,some (.int p),y17,y18,y19,y20,some (.ref fx),some (.ref lc),y23,some (.ref ce),y25,y26],⟨_,_,by simp [cls,fxs],rfl⟩,?_,?_⟩
 ·rintro it lev H₃ vs₃ N hN hlev ⟨y25,y26,rfl,rfl⟩
  have hl4:lev < 4:=by exact (nLt (a:=lev) (b:=4) hlev)
  refine AS.locN n25 ?_
  refine XS.cons (EX.assignN n26 ?_)
  refine EV.bin (EV.bin (EV.locN n16 rfl (EV.int ?_)))
  refine ⟨_,.add,EV.bin (EV.int (EV.locN n25 rfl ⟨_,.mul ?_,⟨_,.add,?_⟩⟩))⟩
  ·exact mulOk (by exact linL (nLt (a:=lev) (b:=4) hlev) (by simp +arith))
  have hcb:(r.d.size::cls recs places r.ch lev).length=lev+1:=by simp [cls_len]
  have hfb:(fx0++fxs recs r.ch p lev).length<=fx0.length+lev:=by
   rw [List.length_append]; have:=fxs_len recs r.ch p lev; exact lin this (by simp +arith)
  refine XS.cons (EX.ifs (EB.cmp (EV.locN n25 rfl (EV.call (EV.glbN g_len (EL.cons (EV.locN n22 rfl (EL.nil ⟨.blt,CL.len m_2 (by rw [List.length_map,ht4]; exact lin hch (by simp +arith)) (cmpAnd .ge ⟨fun h=>?_,fun h=>?_⟩)⟩))))))))
  ·have hle:r.ch.length<=lev:=by have:=of_decide_eq_true h; rw [List.length_map] at this; exact (nLe (a:=r.ch.length) (b:=lev) this)
   have hn:r.ch[lev]?=none:=List.getElem?_eq_none_iff.mpr hle
   refine XS.cons (EX.expr (EV.meth (EV.locN n24 rfl (GM.listN m_1 (EL.cons (EV.int (EL.nil (kpAnd .blt ?_))))))))
   refine CL.append .at1 (by rw [List.length_map,hcb,ht4]; exact lin hl4 (by simp +arith)) ⟨trivial,XS.nil (XS.nil ?_)⟩
   refine hN ⟨_,.at1,_,_,?_,rfl⟩
   rw [cls_succ,fxs_succ]
   simp [cl4,fx4,hn]
  ·have hle:lev < r.ch.length:=by have:=of_decide_eq_false h; rw [List.length_map] at this; lia
   have hj:r.ch[lev]?=some r.ch[lev]:=List.getElem?_eq_getElem hle
   generalize r.ch[lev]=j at hj
   have hjc:j∈r.ch:=List.mem_of_getElem? hj
   obtain ⟨_,rj,ej,_⟩:=hR.prefix i r er j hjc
   have mj:=hW _ (hB.b j rj ej).ok.mem
   have erj:=rc_of ej
   have hgl:(r.ch.map (ra recs))[((lev:Int)).toNat]?=some (.ref rj.a):=by
    rw [Int.toNat_natCast,List.getElem?_map,hj,<- ra_of ej]; rfl
   refine XS.cons (EX.ifs (EB.cmp (EV.attr (EV.sub (EV.locN n22 rfl (EV.locN n25 rfl (GI.list m_2 (by simp +arith) (by lia) hgl (GA.ty kf (t_4 mj) (hq:=EV.str (cmpAnd .eqS ⟨fun h=>?_,fun h=>?_⟩))))))))))
   ·have hM:rj.d.module="M":=of_decide_eq_true h
    obtain ⟨v,hv⟩:=hpl j hjc (by rw [erj]; exact hM)
    rw [erj] at hv
    refine XS.cons (EX.expr (EV.meth (EV.locN n24 rfl (GM.listN m_1 (EL.cons (EV.sub (EV.locN n13 rfl (EV.attr (EV.sub (EV.locN n22 rfl (EV.locN n25 rfl ?_)))))))))))
    refine GI.list m_2 (by simp +arith) (by omega) hgl (GA.ty kf (t_4 mj) (hq:=GI.dictI (t_4 mpd) (by rw [places_dget,hv]; rfl) (EL.nil ?_)))
    refine kpAnd .blt ?_
    refine CL.append .at1 (by rw [List.length_map,hcb,ht4]; exact lin hl4 (by simp +arith)) ⟨trivial,?_⟩
    refine XS.cons (EX.expr (EV.meth (EV.locN n21 rfl ?_)))
    refine GM.append m_3 ?_
    refine EL.cons (EV.tuple (EL.cons (EV.locN n26 rfl (EL.cons (EV.int (EL.cons (EV.int (EL.nil (leAnd rfl (EL.nil (kpAnd .blt ?_)))))))))))
    refine CL.append .at3 (by rw [List.length_map,ht4]; lia) ⟨trivial,XS.nil (XS.nil ?_)⟩
    refine XS.perm (H':=(it,AObj.io (.riter (lev+1) (4 - (lev+1)) 1))::(ce,.list ((r.d.size::cls recs places r.ch (lev+1)).map .int))::(lc,.list (r.ch.map (ra recs)))::(fx,.list ((fx0++fxs recs r.ch p (lev+1)).map tup3))::B) ?_ (XS.nil (hN ⟨_,.head,_,_,rfl,rfl⟩))
    have e1:(r.d.size::cls recs places r.ch (lev+1)).map V.int=(r.d.size::cls recs places r.ch lev).map V.int++[V.int v]:=by
     rw [cls_succ]; simp [cl4,hj,erj,hM,hv]
    have e2:(fx0++fxs recs r.ch p (lev+1)).map tup3=(fx0++fxs recs r.ch p lev).map tup3++[.tup [.int (p+4+4 * lev),.int 0,.int 0]]:=by
     rw [fxs_succ]; simp [fx4,hj,erj,hM,tup3]
    rw [e1,e2]
    exact (pick [2,1,1,0] _)
   ·have hM:¬ rj.d.module="M":=of_decide_eq_false h
    refine XS.cons (EX.expr (EV.meth (EV.locN n24 rfl (GM.listN m_1 (EL.cons (EV.int (EL.nil (kpAnd .blt ?_))))))))
    refine CL.append .at1 (by rw [List.length_map,hcb,ht4]; exact lin hl4 (by simp +arith)) ⟨trivial,?_⟩
    refine XS.cons (EX.expr (EV.meth (EV.locN n21 rfl ?_)))
    refine GM.append m_3 ?_
    refine EL.cons (EV.tuple (EL.cons (EV.locN n26 rfl (EL.cons (EV.int (EL.cons (EV.attr (EV.sub (EV.locN n22 rfl (EV.locN n25 rfl ?_))))))))))
    refine GI.list m_2 (by simp +arith) (by omega) hgl (GA.ty kf (t_4 mj) (hq:=EL.nil ?_))
    refine leAnd rfl (EL.nil (kpAnd .blt ?_))
    refine CL.append .at3 (by rw [List.length_map,ht4]; omega) ⟨trivial,XS.nil (XS.nil ?_)⟩
    refine XS.perm (H':=(it,AObj.io (.riter (lev+1) (4 - (lev+1)) 1))::(ce,.list ((r.d.size::cls recs places r.ch (lev+1)).map .int))::(lc,.list (r.ch.map (ra recs)))::(fx,.list ((fx0++fxs recs r.ch p (lev+1)).map tup3))::B) ?_ (XS.nil (hN ⟨_,.head,_,_,rfl,rfl⟩))
    have e1:(r.d.size::cls recs places r.ch (lev+1)).map V.int=(r.d.size::cls recs places r.ch lev).map V.int++[V.int 0]:=by
     rw [cls_succ]; simp [cl4,hj,erj,hM]
    have e2:(fx0++fxs recs r.ch p (lev+1)).map tup3=(fx0++fxs recs r.ch p lev).map tup3++[.tup [.int (p+4+4 * lev),.int 1,.int rj.d.exno]]:=by
     rw [fxs_succ]; simp [fx4,hj,erj,hM,tup3]
    rw [e1,e2]
    exact (pick [2,1,1,0] _)
 ·rintro H₃ vs₃ ⟨y25,y26,rfl,rfl⟩
  exact XS.nil (XS.forget .at1 (hq ce _ _ _))
end
end Mine
end
section
set_option maxHeartbeats 4000000
namespace Mine
noncomputable def at4:Int->List Int->List (Int×Int)
 | _,[]=>[]
 | p,w::r=>(p,w)::at4 (p+4) r
theorem at4_len:∀ (p:Int) (l:List Int),(at4 p l).length=l.length
 | _,[]=>rfl
 | p,w::r=>by simp [at4,at4_len (p+4) r]
theorem at4_get:∀ (l:List Int) (p:Int) (k:Nat),(at4 p l)[k]?=l[k]?.map fun w=>(p+4 * k,w)
 := by
 intro l
 induction l with
 | nil=>intro _ _; rfl
 | cons w r ih=>
  intro p k
  cases k with
  | zero=>exact congrArg (fun x=>some (x,w)) (Int.add_zero p).symm
  | succ k=>
   refine (ih (p+4) k).trans (congrArg (fun f=>r[k]?.map f) (funext fun w=>congrArg (·,w) ?_))
   simp +arith
noncomputable def cellsOf (recs:List Rec) (pl:List (Int×Int)) (r:Rec):List Int:=(r.d.size::cls recs pl r.ch 4)++(r.ps++[4294967295])
theorem cellsOf_len (recs:List Rec) (pl:List (Int×Int)) (r:Rec):(cellsOf recs pl r).length=r.ps.length+6:=by
 simp [cellsOf,cls_len]; exact linE (Nat.le_refl 0) (by simp +arith) (Nat.le_refl 0) (by simp +arith)
section
variable {D:Wd} {ad:Ads} {fm:Fm} {env:Env} {vs:List (Option V)} {A:Around} {H R W B:HL} {z:Cz}
theorem due_tail (kf:KF D ad) {x:As} {recs:List Rec} {i:Nat} {r:Rec} {p:Int} {places:List (Int×Int)} {epd:Nat} {y0 y1 y2 y3 y4 y6 y7 y8 y9 y10 y11 y12 y13 y14 y15 y17 y18 y19 y20 y22 y23 y25 y26:Option V} {ce fx du:Addr} {fx1:List (Int×Int×Int)} {due:List (Int×Int)} {o:Option V} {Q:Fl->HL->List (Option V)->Prop} (hr:Rm 90 A) (L:LE fm env z)
  (hB:RecsB D ad W 20 recs) (hlen:recs.length<=6) (hW:∀ q∈W,q∈B) (er:recs[i]?=some r) (nd:((due++at4 p (cellsOf recs places r)).map (·.1)).Nodup) (hdl:due.length<=2 ^ 22)
  (hq:∀ ep o' y24,Q .next ((fx,.list (fx1.map tup3))::(du,.dictI ((due++at4 p (cellsOf recs places r)).map fun p=>(p.1,.int p.2)) ep)::(z.cd,.cell (some (.ref du)))::(z.cs,.cell o')::B)
   [y0,y1,y2,y3,y4,some (.ref r.a),y6,y7,y8,y9,y10,y11,y12,y13,y14,y15,some (.int p),y17,y18,y19,y20,some (.ref fx),y22,y23,y24,y25,y26]) :
  XS D fm A env (dueBody.drop 6) ((ce,.list ((r.d.size::cls recs places r.ch 4).map .int))::(fx,.list (fx1.map tup3))::(du,.dictI (due.map fun p=>(p.1,.int p.2)) epd)::(z.cd,.cell (some (.ref du)))::(z.cs,.cell o)::B)
   [y0,y1,y2,y3,y4,some (.ref r.a),y6,y7,y8,y9,y10,y11,y12,y13,y14,y15,some (.int p),y17,y18,y19,y20,some (.ref fx),y22,y23,some (.ref ce),y25,y26] Q:=by
 obtain ⟨hns,hsc,hcl⟩:=L
 have n5:=lN hsc hns "record" 5
 have n16:=lN hsc hns "at" 16
 have n24:=lN hsc hns "cells" 24
 have k_step:=cN (c:=z.cs) hsc hcl "step"
 have k_due:=cN (c:=z.cd) hsc hcl "due"
 have g_range:=gB hsc "range" kf.n_range boot_range
 have g_len:=gB hsc "len" kf.n_len boot_len
 have kp_law_pointers:=KpA.of kf.law_pointers.keep
 have g_law_pointers:=gN hsc "_law_pointers" kf.n_law_pointers
 have ht4:sizeLine=16777216:=by decide
 have hps:=(hB.b i r er).ok.small
 have hcl5:(r.d.size::cls recs places r.ch 4).length=5:=by simp [cls_len]
 have hco:=cellsOf_len recs places r
 refine XS.cons (EX.aug n24.l n24.i rfl (EV.cat (EV.call (EV.glbN g_law_pointers (EL.cons (EV.locN n5 rfl (EL.nil (kpAnd kp_law_pointers.at ?_))))))))
 refine (hB.b i r er).ok.lp A _ _ (hr.le (by decide)) (fun q hq=>?_) fun lp=>?_
 ·iterate 5 refine .tail _ ?_
  exact hW q hq
 refine EV.list (EL.cons (EV.bin (EV.bin (EV.int (EV.int ⟨_,.pow (by decide) (by decide),EV.int ⟨_,.sub,EL.nil (leAnd (by rfl) fun t=>⟨_,_,_,_,rfl,rfl,m_1,.head _,by rw [List.length_map,ht4]; simp; exact lin hps (by simp +arith),fun lc=>?_⟩)⟩⟩)))))
 refine IP.extend .at3 (.head _) (by simp [cls_len]; exact lin (Nat.add_le_add hps (Nat.le_of_eq ht4.symm)) (by simp +arith)) ?_
 refine XS.forget .at1 (XS.forget .at1 (XS.forget .at1 ?_))
 have e:(r.d.size::cls recs places r.ch 4).map V.int++(r.ps.map V.int++[V.int (2 ^ Int.toNat 32 - 1)])=(cellsOf recs places r).map .int:=by
  simp [cellsOf]
 show XS D fm A env _ ((ce,.list ((r.d.size::cls recs places r.ch 4).map V.int++(r.ps.map V.int++[V.int (2 ^ Int.toNat 32 - 1)])))::_) _ _
 rw [e]
 have hcb:(cellsOf recs places r).length<=2 ^ 17:=by exact lin (Nat.add_le_add (Nat.le_of_eq hco) hps) (by simp +arith)
 clear hco e
 generalize cellsOf recs places r=cells at nd hq hcb ⊢
 refine XS.perm (Ext.pc .at2 (Ext.pc .at2 (Ext.pc .at2 (Ext.pc .at0 (Ext.pc .at0 (.refl _)))))) ?_
 refine XS.cons (EX.forR hr.handled (EV.call (EV.glbN g_range (EL.cons (EV.call (EV.glbN g_len (EL.cons (EV.locN n24 rfl (EL.nil ⟨.blt,CL.len m_3 (by rw [List.length_map,ht4]; exact lin hcb (by simp +arith)) (EL.nil ⟨.typ,CL.range1 fun rg=>?_⟩)⟩)))))))))
 rw [List.length_map]
 refine ⟨rg,cells.length,_,rfl,.head,by simp +arith,by lia,fun st H' vs'=>∃ ep o,H'=(du,.dictI ((due++(at4 p cells).take st).map fun p=>(p.1,.int p.2)) ep)::(z.cd,.cell (some (.ref du)))::(z.cs,.cell o)::(ce,.list (cells.map .int))::(fx,.list (fx1.map tup3))::B /\
  vs'=[y0,y1,y2,y3,y4,some (.ref r.a),y6,y7,y8,y9,y10,y11,y12,y13,y14,y15,some (.int p),y17,y18,y19,y20,some (.ref fx),y22,y23,some (.ref ce),y25,y26],⟨epd,o,by simp,rfl⟩,?_,?_⟩
 ·rintro it st H₃ vs₃ N hN hst ⟨ep,o,rfl,rfl⟩
  have hst':st < cells.length:=by exact (nLt (a:=st) (b:=cells.length) hst)
  have hc:cells[st]?=some cells[st]:=List.getElem?_eq_getElem hst'
  generalize cells[st]=w at hc
  have ha:(at4 p cells)[st]?=some (p+4 * st,w):=by rw [at4_get,hc]; rfl
  have hnot:p+4 * (st:Int) ∉ (due++(at4 p cells).take st).map (·.1):=by
   intro h
   rw [<- List.take_append_drop st (at4 p cells),<- List.append_assoc,List.map_append] at nd
   have hd:(p+4 * (st:Int),w)∈(at4 p cells).drop st:=by
    rw [List.mem_iff_getElem?]
    exact ⟨0,by rw [List.getElem?_drop]; exact ha⟩
   exact (List.nodup_append.mp nd).2.2 _ h _ (List.mem_map_of_mem hd) rfl
  have hg:dget (p+4 * (st:Int)) ((due++(at4 p cells).take st).map fun p=>(p.1,V.int p.2))=none:=by
   rw [dget_map,find_none hnot]; rfl
  refine AS.celN k_step .at3 ?_
  refine XS.cons (EX.ifs (EB.cmp (EV.bin (EV.locN n16 rfl (EV.bin (EV.int (EV.celN k_step m_0 ⟨_,.mul (mulOk (by exact linL (Nat.add_le_add (nLt (a:=st) (b:=cells.length) hst) hcb) (by simp +arith))),_,.add,EV.celN k_due m_3 (CP.inI m_2 ⟨_,.bool _,fun h=>?_,fun h=>XS.nil ?_⟩)⟩)))))))
  ·rw [hg] at h; cases h
  ·refine XS.cons (EX.setItem (EV.sub (EV.locN n24 rfl (EV.celN k_step m_0 (GI.list m_4 (by simp +arith) (by lia) (by rw [Int.toNat_natCast,List.getElem?_map,hc]; rfl) ?_)))))
   refine EV.celN k_due m_3 (EV.bin (EV.locN n16 rfl (EV.bin (EV.int (EV.celN k_step m_0 ⟨_,.mul (mulOk (by omega)),_,.add,SI.dictI .at2 (by rw [List.length_map,List.length_append,ht4]; have:=List.length_take_le st (at4 p cells); lia) fun ep'=>?_⟩)))))
   rw [dput_new _ _ _ (find_none hnot)]
   refine XS.perm (H':=(it,AObj.io (.riter (st+1) (cells.length - (st+1)) 1))::(du,.dictI ((due++(at4 p cells).take (st+1)).map fun p=>(p.1,.int p.2)) ep')::(z.cd,.cell (some (.ref du)))::(z.cs,.cell (some (.int st)))::(ce,.list (cells.map .int))::(fx,.list (fx1.map tup3))::B) ?_ (XS.nil (hN ⟨_,.head,_,_,rfl,rfl⟩))
   rw [List.take_add_one,ha,<- List.append_assoc]
   exact (pick [2,0,1,0] _)
 ·rintro H₃ vs₃ ⟨ep,o,rfl,rfl⟩
  have:(at4 p cells).take ((cells.length:Int)).toNat=at4 p cells:=by
   rw [Int.toNat_natCast,List.take_of_length_le (by rw [at4_len]; simp +arith)]
  rw [this]
  exact XS.nil (XS.forget .at3 (XS.perm (Ext.pc .at3 (Ext.pc .at0 (Ext.pc .at0 (Ext.pc .at0 (.refl _))))) (XS.nil (hq _ _ _))))
end
end Mine
end
section
set_option maxHeartbeats 4000000
namespace Mine
noncomputable def pos (recs:List Rec) (pl:List (Int×Int)) (i:Nat):Int:=(lk pl (rc recs i).d.number).getD 0
noncomputable def bk (recs:List Rec) (pl:List (Int×Int)) (i:Nat):List (Int×Int):=at4 (pos recs pl i) (cellsOf recs pl (rc recs i))
noncomputable def bf (recs:List Rec) (pl:List (Int×Int)) (i:Nat):List (Int×Int×Int):=fxs recs (rc recs i).ch (pos recs pl i) 4
noncomputable def nr (recs:List Rec) (i:Nat):Int×V:=((rc recs i).d.number,ra recs i)
theorem num_inj {recs:List Rec} {i j:Nat} (hn:(recs.map (·.d.number)).Nodup) (hi:i < recs.length) (hj:j < recs.length) (e:(rc recs i).d.number=(rc recs j).d.number):i=j:=by
 refine (List.getElem_inj (xs:=recs.map (·.d.number)) (h₀:=by simpa using hi) (h₁:=by simpa using hj) hn).mp ?_
 rw [List.getElem_map,List.getElem_map]
 rw [rc_of (List.getElem?_eq_getElem hi),rc_of (List.getElem?_eq_getElem hj)] at e
 exact e
set_option tactic.hygienic true in
theorem dput_nr {recs:List Rec} (hn:(recs.map (·.d.number)).Nodup) {us:List Nat} (hu:∀ i∈us,i < recs.length) {a:Nat} (ha:a < recs.length) :
  dput (rc recs a).d.number (ra recs a) (us.map (nr recs))=(if a∈us then us else us++[a]).map (nr recs):=by
 by_cases h:a∈us
 ·rw [if_pos h]
  unfold dput
  rw [if_pos (List.any_eq_true.mpr ⟨nr recs a,List.mem_map_of_mem h,by simp [nr]⟩),List.map_map]
  refine List.map_congr_left fun i hi=>?_
  simp only [Function.comp]
  split
  ·rename_i e
   have:=num_inj hn (hu i hi) ha e
   rw [this]; rfl
  ·rfl
 ·rw [if_neg h,List.map_append]
  unfold dput
  rw [if_neg]
  ·rfl
  ·intro hc
   obtain ⟨q,hq,e⟩:=List.any_eq_true.mp hc
   obtain ⟨i,hi,rfl⟩:=List.mem_map.mp hq
   have:=num_inj hn (hu i hi) ha (of_decide_eq_true e)
   exact h (this ▸ hi)
section
variable {D:Wd} {ad:Ads} {fm:Fm} {env:Env} {vs:List (Option V)} {A:Around} {H R W B:HL} {z:Cz}
set_option tactic.hygienic true in
theorem ev_uniq (kf:KF D ad) {x:As} {recs:List Rec} {asked:List Nat} {Q:V->HL->Prop} (hr:Rm 90 A) (L:LE fm env z) (hB:RecsB D ad W 20 recs) (hlen:recs.length<=6) (hW:∀ q∈W,q∈B) (mal:(x.al,AObj.list (asked.map (ra recs)))∈B) (hal:vs[10]?=some (some (.ref x.al))) (ha:∀ i∈asked,i < recs.length) (hal13:asked.length<=13) {e:Expr}
  (he:∃ p1 p2 p3 p4 body els ps,lawAt 18=.For p1 (.Call (.Attribute e p2 p3) [] [] p4) body els ps)
  (hq:∀ (d:Addr) (us:List Nat) (ep:Nat),us.Nodup->us.length<=asked.length->(∀ i,i∈us ↔ i∈asked)->Q (.ref d) ((d,.dictI (us.map (nr recs)) ep)::B)):EV D fm A env e B vs Q:=by
 obtain ⟨p1,p2,p3,p4,body,els,ps,he⟩:=he
 injection he with h1 h2
 injection h2 with h3
 injection h3 with h4
 subst h4
 obtain ⟨hns,hsc,hcl⟩:=L
 have n10:=lN hsc hns "asked" 10
 refine EV.dictComp ["other"] (by decide) (cl:=[]) ?_ ?_ (by decide) (by decide)
 ·rfl
 ·refine EV.locN n10 hal (PI.list mal fun it=>?_)
  intro acc fm' hns' env' he'
  have hse':=rel_scope he' hsc
  have hce':=rel_cells he'
  have m0:=lN hse' hns' "other" 0
  refine CS.dictI rfl ⟨PI.self m_1 trivial,fun n H' vs'=>∃ (j:Nat) (us:List Nat) (ep:Nat) (y:Option V),n=asked.length - j/\j<=asked.length/\us.Nodup/\us.length<=j/\(∀ i,i∈us ↔ i∈asked.take j)/\H'=(acc,.dictI (us.map (nr recs)) ep)::(it,.io (.liter x.al j))::B/\vs'=[y],
   ⟨asked.length,0,[],0,none,rfl,Nat.zero_le _,.nil,Nat.le_refl _,by simp,rfl,rfl⟩,?_⟩
  rintro n H₃ vs₃ N hN ⟨j,us,ep,y,rfl,hjl,hus,hul,hmem,rfl,rfl⟩
  refine NX.list hr.handled (.tail .head) (t_2 mal) (fun v hv=>?_) (fun hx=>?_)
  ·rw [List.getElem?_map,Option.map_eq_some_iff] at hv
   obtain ⟨a,hga,rfl⟩:=hv
   have hjlt:j < asked.length:=(List.getElem?_eq_some_iff.mp hga).1
   have ham:=List.mem_of_getElem? hga
   have har:=ha a ham
   have er:recs[a]?=some (rc recs a):=by rw [rc_of (List.getElem?_eq_getElem har)]; exact List.getElem?_eq_getElem har
   have mr:=hW _ (hB.b a _ er).ok.mem
   have hu:∀ i∈us,i < recs.length:=fun i hi=>ha i (List.mem_of_mem_take ((hmem i).mp hi))
   have ht4:sizeLine=16777216:=by decide
   rw [ra_of er]
   refine AS.locN m0 (IFS.nil ?_)
   refine ifsT ?_
   refine EV.attr (EV.locN m0 rfl (GA.ty kf (t_2 mr) (hq:=⟨_,rfl,EV.locN m0 rfl ⟨_,_,_,.tail .head,by rw [List.length_map,ht4]; exact lin (Nat.add_le_add hul (Nat.add_le_add hjl hal13)) (by simp +arith),fun ep'=>?_⟩⟩)))
   rw [<- ra_of er,dput_nr hB.num hu har]
   refine hN ⟨asked.length - (j+1),sub_dn hjlt,j+1,if a∈us then us else us++[a],ep',_,rfl,hjlt,?_,?_,?_,rfl,rfl⟩
   ·split
    ·exact hus
    ·rename_i h
     exact List.nodup_append.mpr ⟨hus,by simp,fun x hx y hy e=>h (by rw [List.mem_singleton] at hy; rw [<- hy,<- e]; exact hx)⟩
   ·split
    ·exact lin hul (by simp +arith)
    ·simp; omega
   ·intro i
    rw [List.take_add_one,hga,List.mem_append]
    split
    ·rename_i h
     rw [hmem]
     simp only [Option.toList,List.mem_singleton]
     constructor
     ·exact .inl
     ·rintro (h' | rfl)
      ·exact h'
      ·exact (hmem _).mp h
    ·rw [List.mem_append,hmem]
     simp
  ·rw [List.getElem?_map,Option.map_eq_none_iff,List.getElem?_eq_none_iff] at hx
   have:j=asked.length:=by exact linE hjl (by simp +arith) hx (by simp +arith)
   subst this
   rw [List.take_length] at hmem
   exact hq _ us ep hus hul hmem
end
end Mine
end
section
set_option maxHeartbeats 4000000
namespace Mine
section
variable {D:Wd} {ad:Ads} {fm:Fm} {env:Env} {vs:List (Option V)} {A:Around} {H R W B:HL} {z:Cz}
theorem due_turn (kf:KF D ad) {x:As} {recs:List Rec} {asked:List Nat} {places:List (Int×Int)} {ep1 epd:Nat} {a:Nat} {y0 y1 y2 y3 y4 y6 y7 y8 y9 y10 y11 y12 y14 y15 y16 y17 y18 y19 y20 y22 y23 y24 y25 y26:Option V} {fx du:Addr} {fx0:List (Int×Int×Int)} {due:List (Int×Int)} {o:Option V} {Q:Fl->HL->List (Option V)->Prop} (hr:Rm 90 A) (L:LE fm env z)
  (hB:RecsB D ad W 20 recs) (hlen:recs.length<=6) (mpd:(x.pd,AObj.dictI (places.map fun p=>(p.1,.int p.2)) ep1)∈B) (hW:∀ q∈W,q∈B)
  (hask:∀ i∈asked,∃ r p,recs[i]?=some r/\r.d.module="M"/\lk places r.d.number=some p) (hcl:∀ i∈asked,ClA recs asked i) (ha:a∈asked)
  (nd:((due++bk recs places a).map (·.1)).Nodup) (hdl:due.length<=2 ^ 22) (hfx:fx0.length<=2 ^ 20)
  (hq:∀ ep o' y16 y22 y23 y24 y25 y26,Q .next ((fx,.list ((fx0++bf recs places a).map tup3))::(du,.dictI ((due++bk recs places a).map fun p=>(p.1,.int p.2)) ep)::(z.cd,.cell (some (.ref du)))::(z.cs,.cell o')::B)
   [y0,y1,y2,y3,y4,some (ra recs a),y6,y7,y8,y9,y10,y11,y12,some (.ref x.pd),y14,y15,y16,y17,y18,y19,y20,some (.ref fx),y22,y23,y24,y25,y26]) :
  XS D fm A env dueBody ((fx,.list (fx0.map tup3))::(du,.dictI (due.map fun p=>(p.1,.int p.2)) epd)::(z.cd,.cell (some (.ref du)))::(z.cs,.cell o)::B)
   [y0,y1,y2,y3,y4,some (ra recs a),y6,y7,y8,y9,y10,y11,y12,some (.ref x.pd),y14,y15,y16,y17,y18,y19,y20,some (.ref fx),y22,y23,y24,y25,y26] Q:=by
 obtain ⟨r,p,er,hM,hp⟩:=hask a ha
 have erc:=rc_of er
 have ep:pos recs places a=p:=by unfold pos; rw [erc,hp]; rfl
 unfold bk at nd hq
 unfold bf at hq
 rw [ep,erc] at nd
 rw [ep,erc] at hq
 rw [ra_of er] at hq ⊢
 have hR:=hB.ok (by exact lin hlen (by simp +arith))
 refine due_chain (W:=W) kf (ep1:=ep1) (x:=x) hr L hB hlen ?_ ?_ er hp fun lc=>?_
 ·iterate 4 refine .tail _ ?_
  exact mpd
 ·intro q hq
  iterate 4 refine .tail _ ?_
  exact hW q hq
 refine due_levels (W:=W) (places:=places) kf (ep1:=ep1) (x:=x) hr L hB hlen ?_ ?_ er ?_ hfx fun ce y23 y25 y26=>?_
 ·iterate 3 refine .tail _ ?_
  exact mpd
 ·intro q hq
  iterate 3 refine .tail _ ?_
  exact hW q hq
 ·intro j hj hjM
  obtain ⟨r',p',er',_,hp'⟩:=hask j (hcl a ha j (by rw [erc]; exact hj) hjM)
  exact ⟨p',by rw [rc_of er']; exact hp'⟩
 exact due_tail (W:=W) kf (x:=x) hr L hB hlen hW er nd hdl fun ep o' y24=>hq ep o' _ _ _ _ _ _
theorem bf_len (recs:List Rec) (pl:List (Int×Int)) (us:List Nat):(us.flatMap (bf recs pl)).length<=4 * us.length:=by
 induction us with
 | nil=>simp
 | cons a us ih=>
  rw [List.flatMap_cons,List.length_append,List.length_cons]
  have:=fxs_len recs (rc recs a).ch (pos recs pl a) 4
  unfold bf at ih ⊢
  exact lin (Nat.add_le_add ih this) (by simp +arith)
theorem law_due (kf:KF D ad) {x:As} {recs:List Rec} {asked:List Nat} {places:List (Int×Int)} {ep1 epd:Nat} {y0 y1 y2 y3 y4 y5 y6 y7 y8 y9 y11 y12 y14 y15 y16 y17 y18 y19 y20 y22 y23 y24 y25 y26:Option V} {fx du:Addr} {o:Option V} {Q:Fl->HL->List (Option V)->Prop} (hr:Rm 90 A) (L:LE fm env z)
  (hB:RecsB D ad W 20 recs) (hlen:recs.length<=6) (mpd:(x.pd,AObj.dictI (places.map fun p=>(p.1,.int p.2)) ep1)∈B) (mal:(x.al,AObj.list (asked.map (ra recs)))∈B) (hW:∀ q∈W,q∈B) (hal13:asked.length<=13)
  (hask:∀ i∈asked,∃ r p,recs[i]?=some r/\r.d.module="M"/\lk places r.d.number=some p) (hcl:∀ i∈asked,ClA recs asked i)
  (hnd:∀ us:List Nat,us.Nodup->(∀ i,i∈us ↔ i∈asked)->((us.flatMap (bk recs places)).map (·.1)).Nodup/\(us.flatMap (bk recs places)).length<=2 ^ 22)
  (hq:∀ (us:List Nat) (ep:Nat) (o':Option V) (y5 y16 y22 y23 y24 y25 y26:Option V),us.Nodup->(∀ i,i∈us ↔ i∈asked)->Q .next ((fx,.list ((us.flatMap (bf recs places)).map tup3))::(du,.dictI ((us.flatMap (bk recs places)).map fun p=>(p.1,.int p.2)) ep)::(z.cd,.cell (some (.ref du)))::(z.cs,.cell o')::B)
   [y0,y1,y2,y3,y4,y5,y6,y7,y8,y9,some (.ref x.al),y11,y12,some (.ref x.pd),y14,y15,y16,y17,y18,y19,y20,some (.ref fx),y22,y23,y24,y25,y26]) :
  EX D fm A env (lawAt 18) ((fx,.list [])::(du,.dictI [] epd)::(z.cd,.cell (some (.ref du)))::(z.cs,.cell o)::B)
   [y0,y1,y2,y3,y4,y5,y6,y7,y8,y9,some (.ref x.al),y11,y12,some (.ref x.pd),y14,y15,y16,y17,y18,y19,y20,some (.ref fx),y22,y23,y24,y25,y26] Q:=by
 obtain ⟨hns,hsc,hcel⟩:=id L
 have n5:=lN hsc hns "record" 5
 have har:∀ i∈asked,i < recs.length:=fun i hi=>by
  obtain ⟨r,p,er,_⟩:=hask i hi
  exact (List.getElem?_eq_some_iff.mp er).1
 refine EX.for_ (EV.meth (ev_uniq kf (x:=x) (asked:=asked) hr L hB hlen (W:=W) ?_ ?_ rfl har hal13 ⟨_,_,_,_,_,_,_,rfl⟩ fun dd us epu hnu hul hmu=>?_))
 ·intro q hq
  iterate 4 refine .tail _ ?_
  exact hW q hq
 ·iterate 4 refine .tail _ ?_
  exact mal
 obtain ⟨hnd1,hnd2⟩:=hnd us hnu hmu
 refine GM.valuesI (.head _) (EL.nil ⟨.blt,CL.valuesI (.head _) fun v=>PI.vals .head m_1 fun it=>?_⟩)
 refine ⟨fun n H' vs'=>∃ (j ep:Nat) (o y5 y16 y22 y23 y24 y25 y26:Option V),n=us.length - j/\j<=us.length/\H'.Perm ((it,.io (.viter dd j (us.map (nr recs)).length epu))::(fx,.list (((us.take j).flatMap (bf recs places)).map tup3))::(du,.dictI (((us.take j).flatMap (bk recs places)).map fun p=>(p.1,.int p.2)) ep)::(z.cd,.cell (some (.ref du)))::(z.cs,.cell o)::(dd,.dictI (us.map (nr recs)) epu)::B) /\
  vs'=[y0,y1,y2,y3,y4,y5,y6,y7,y8,y9,some (.ref x.al),y11,y12,some (.ref x.pd),y14,y15,y16,y17,y18,y19,y20,some (.ref fx),y22,y23,y24,y25,y26],⟨us.length,0,epd,o,_,_,_,_,_,_,_,rfl,Nat.zero_le _,?_,rfl⟩,?_⟩
 ·exact (pick [0,1,1,1,1,0] _)
 rintro n H₃ vs₃ N hN ⟨j,ep,o,y5,y16,y22,y23,y24,y25,y26,rfl,hj,pj,rfl⟩
 refine NX.perm pj ?_
 refine NX.vals hr.handled .head m_5 (fun k v hv=>?_) (fun hx=>?_)
 ·rw [List.getElem?_map,Option.map_eq_some_iff] at hv
  obtain ⟨a,hga,hv⟩:=hv
  cases hv
  have ham:=(hmu a).mp (List.mem_of_getElem? hga)
  refine AS.locN n5 (XS.perm (Ext.pc .at1 (Ext.pc .at1 (Ext.pc .at1 (Ext.pc .at1 (Ext.pc .at0 (Ext.pc .at0 (.refl _))))))) ?_)
  have hjl:j < us.length:=(List.getElem?_eq_some_iff.mp hga).1
  have htk:us.take (j+1)=us.take j++[a]:=by rw [List.take_add_one,hga]; rfl
  have hfm:∀ {β:Type} (f:Nat->List β),(us.take (j+1)).flatMap f=(us.take j).flatMap f++f a:=fun f=>by rw [htk,List.flatMap_append]; simp
  have hsp:∀ {β:Type} (f:Nat->List β),us.flatMap f=(us.take (j+1)).flatMap f++(us.drop (j+1)).flatMap f:=fun f=>by rw [<- List.flatMap_append,List.take_append_drop]
  rw [hsp,hfm] at hnd1 hnd2
  have hb:=bf_len recs places (us.take j)
  have htl:=List.length_take_le j us
  refine due_turn (W:=W) (asked:=asked) (a:=a) kf (ep1:=ep1) (x:=x) (places:=places) hr L hB hlen (t_2 mpd) (fun q hq=>t_2 (hW q hq)) hask hcl ham ?_ ?_ ?_ fun ep' o' y16' y22' y23' y24' y25' y26'=>?_
  ·rw [List.map_append] at hnd1
   exact (List.nodup_append.mp hnd1).1
  ·simp only [List.length_append] at hnd2; exact lin hnd2 (by simp +arith)
  ·lia
  ·refine hN ⟨us.length - (j+1),sub_dn hjl,j+1,ep',o',_,_,_,_,_,_,_,rfl,hjl,?_,rfl⟩
   rw [hfm,hfm]
   exact (pick [4,0,0,0,0,0] _)
 ·rw [List.getElem?_map,Option.map_eq_none_iff,List.getElem?_eq_none_iff] at hx
  have:j=us.length:=by exact linE hj (by simp +arith) hx (by simp +arith)
  subst this
  rw [List.take_length]
  exact XS.forget .at4 (XS.nil (hq us ep o _ _ _ _ _ _ _ hnu hmu))
end
end Mine
end
section
set_option maxHeartbeats 4000000
namespace Mine
noncomputable def strBody:List Stmt:=forBody (lawAt 19)
section
variable {D:Wd} {ad:Ads} {fm:Fm} {env:Env} {vs:List (Option V)} {A:Around} {H R W B:HL} {z:Cz}
theorem str_codes (kf:KF D ad) {t:Str} {oc:Option V} {vs:List (Option V)} {Q:Fl->HL->List (Option V)->Prop} (hr:Rm 90 A) (L:LE fm env z) (hv:vs[15]?=some (some (.str t))) (ht:t.cps.size<=2 ^ 10)
  (hq:∀ q,XS D fm A env (strBody.drop 1) ((z.cx,.cell (some (.ref q)))::(q,.list ((codesOf t).map .int))::B) vs Q) :
  XS D fm A env strBody ((z.cx,.cell oc)::B) vs Q:=by
 obtain ⟨hns,hsc,hcl⟩:=L
 have n15:=lN hsc hns "words" 15
 have k_codes_of_x:=cN (c:=z.cx) hsc hcl "codes_of_x"
 have h4:sizeLine=16777216:=by decide
 refine XS.cons (EX.assignCN k_codes_of_x (EV.cat (EV.listComp ["letter"] (by decide) (cl:=[]) rfl ?_ (by decide) (by decide))))
 refine EV.locN n15 hv (PI.str fun it=>?_)
 intro acc fm' hns' env' he'
 have hse':=rel_scope he' hsc
 have hce':=rel_cells he'
 have m0:=lN hse' hns' "letter" 0
 have h_ord:=gB hse' "ord" kf.n_ord boot_ord
 refine CS.list rfl rfl ⟨PI.self m_1 trivial,fun m H' vs'=>∃ j,m=t.cps.size - j/\j<=t.cps.size/\H'.Perm ((it,.io (.siter t j))::(acc,.list ((t.cps.toList.take j).map fun (c:Nat)=>.int (c:Int)))::(z.cx,.cell oc)::B)/\∃ y,vs'=[y],⟨t.cps.size,0,rfl,Nat.zero_le _,?_,none,rfl⟩,?_⟩
 ·simpa using List.Perm.swap _ _ _
 ·rintro m H₃ vs₃ N hN ⟨j,rfl,hj,p2,y2,rfl⟩
  refine NX.perm p2 (NX.str hr.handled .head (fun x hx=>?_) (fun hx=>?_))
  ·have hjl:j < t.cps.size:=(Array.getElem?_eq_some_iff.mp hx).1
   refine AS.locN m0 (IFS.nil ?_)
   show EV _ _ _ _ _ _ _ _
   refine EV.call (EV.glbN h_ord (EL.cons (EV.locN m0 rfl (EL.nil ⟨.blt,CL.ord ?_⟩))))
   refine ⟨_,_,.at1,?_,hN ⟨t.cps.size - (j+1),sub_dn hjl,j+1,rfl,hjl,?_,_,rfl⟩⟩
   ·simp only [List.length_map,List.length_take]
    exact lin (Nat.add_le_add (Nat.min_le_left (j) (t.cps.toList.length)) (Nat.add_le_add hj (Nat.add_le_add ht (Nat.le_of_eq h4.symm)))) (by simp +arith)
   ·have hx':t.cps.toList[j]?=some x:=by simpa using hx
    rw [List.take_add_one,hx',List.map_append]
    exact List.Perm.swap _ _ _
  ·have hx':j=t.cps.size:=by
    rw [Array.getElem?_eq_none_iff] at hx
    exact linE hj (by simp +arith) hx (by simp +arith)
   subst hx'
   have el:t.cps.toList.take t.cps.size=t.cps.toList:=by rw [<- Array.length_toList,List.take_length]
   rw [el]
   have hcs:(t.cps.toList.map fun (c:Nat)=>V.int (c:Int))++[.int 0]=(codesOf t).map .int:=by simp [codesOf,Function.comp_def]
   refine EV.list (EL.cons (EV.int (EL.nil (leAnd (by rfl) fun e=>⟨_,_,_,_,rfl,rfl,m_1,m_0,by simp; exact lin (Nat.add_le_add ht (Nat.le_of_eq h4.symm)) (by simp +arith),fun q=>⟨oc,_,.at3,?_⟩⟩))))
   refine XS.forget .at2 (XS.forget .at2 ?_)
   rw [hcs]
   exact hq q
theorem negmod (n:Nat):(-(n:Int)).fmod 4=(((4 - n % 4) % 4:Nat):Int):=by
 obtain ⟨q,h⟩:=pad4 n
 rw [Int.fmod_eq_emod_of_nonneg _ (by decide),show -(n:Int)=(((4 - n % 4) % 4:Nat):Int)+4 * -(q:Int) by
  rw [Int.mul_neg,show 4 * (q:Int)=(n:Int)+(((4 - n % 4) % 4:Nat):Int) from congrArg Int.ofNat h.symm,Int.neg_add,Int.add_comm,Int.add_assoc,Int.add_left_neg,Int.add_zero],Int.add_mul_emod_self_left]
 exact Int.emod_eq_of_lt (Int.natCast_nonneg _) (Int.ofNat_lt.mpr (Nat.mod_lt _ (by decide)))
theorem flat0 (n:Nat):(List.replicate n [V.int 0]).flatten=(List.replicate n (0:Int)).map .int:=by
 induction n with
 | zero=>rfl
 | succ n ih=>rw [List.replicate_succ,List.replicate_succ,List.flatten_cons,ih]; rfl
theorem str_pad (kf:KF D ad) {q:Addr} {cs:List Int} {vs:List (Option V)} {Q:Fl->HL->List (Option V)->Prop} (hr:Rm 90 A) (L:LE fm env z) (hcs:cs.length<=2 ^ 11)
  (hq:XS D fm A env (strBody.drop 2) ((z.cx,.cell (some (.ref q)))::(q,.list ((padTo4 cs).map .int))::B) vs Q) :
  XS D fm A env (strBody.drop 1) ((z.cx,.cell (some (.ref q)))::(q,.list (cs.map .int))::B) vs Q:=by
 obtain ⟨hns,hsc,hcl⟩:=L
 have k_codes_of_x:=cN (c:=z.cx) hsc hcl "codes_of_x"
 have g_len:=gB hsc "len" kf.n_len boot_len
 have h4:sizeLine=16777216:=by decide
 refine XS.cons (EX.augC k_codes_of_x.l k_codes_of_x.c m_0 (EV.rep (EV.list (EL.cons (EV.int (EL.nil (leAnd (by rfl) fun e=>EV.bin (EV.neg (EV.call (EV.glbN g_len (EL.cons (EV.celN k_codes_of_x m_1 (EL.nil ⟨.blt,CL.len m_2 (by rw [List.length_map]; exact lin (Nat.add_le_add hcs (Nat.le_of_eq h4.symm)) (by simp +arith)) ⟨_,rfl,EV.int ⟨_,.mod (by decide),?_⟩⟩⟩)))))))))))))
 rw [List.length_map,negmod]
 refine ⟨e,[.int 0],_,rfl,rfl,m_0,by lia,by lia,by simp; lia,fun q2=>?_⟩
 refine IP.extend .at3 m_0 (by simp; omega) ⟨_,_,.at3,?_⟩
 refine XS.forget .at2 (XS.forget .at2 ?_)
 rw [Int.toNat_natCast,flat0,<- List.map_append]
 exact hq
end
end Mine
end
section
set_option maxHeartbeats 4000000
namespace Mine
theorem sum4 (f:Nat->Int):((List.range 4).map f).sum=f 0+f 1+f 2+f 3:=by
 simp [List.range,List.range.loop]
 simp +arith
noncomputable def swT (cs:List Int) (i j:Nat):Int:=cs.getD (4 * i+j) 0 * 256 ^ j
theorem swT_sum (cs:List Int) (i:Nat):((List.range 4).map (swT cs i)).sum=swAt cs i:=by
 rw [sum4]; simp [swT,swAt]
theorem swList_get (cs:List Int) {i:Nat} (hi:i < cs.length / 4):(swList cs)[i]?=some (swAt cs i):=by
 unfold swList
 rw [List.getElem?_map,List.getElem?_range hi]; rfl
theorem swList_len (cs:List Int):(swList cs).length=cs.length / 4:=by simp [swList]
@[reducible] noncomputable def setVal (s:Stmt):Expr:=(pt s).e
noncomputable def strWord:Expr:=setVal ((forBody (strBody.getD 2 (.Pass default))).getD 1 (.Pass default))
section
variable {D:Wd} {ad:Ads} {fm:Fm} {env:Env} {vs:List (Option V)} {A:Around} {H R W B:HL} {z:Cz}
theorem str_word (kf:KF D ad) {q:Addr} {cs:List Int} {i:Nat} {Q:V->HL->Prop} (hr:Rm 90 A) (L:LE fm env z) (hi:4 * i+4<=cs.length) (hcs:cs.length<=2 ^ 12)
  (mcx:(z.cx,AObj.cell (some (.ref q)))∈B) (mcs:(z.cs,AObj.cell (some (.int (4 * i:Nat))))∈B) (mq:(q,AObj.list (cs.map .int))∈B)
  (hq:∀ l,Q (.int (swAt cs i)) ((l,.list (((List.range 4).map (swT cs i)).map .int))::B)):EV D fm A env strWord B vs Q:=by
 obtain ⟨hns,hsc,hcl⟩:=L
 have k_codes_of_x:=cN (c:=z.cx) hsc hcl "codes_of_x"
 have k_step:=cN (c:=z.cs) hsc hcl "step"
 have g_sum:=gB hsc "sum" kf.n_sum boot_sum
 have g_range:=gB hsc "range" kf.n_range boot_range
 have h4:sizeLine=16777216:=by decide
 refine EV.call (EV.glbN g_sum (EL.cons ?_))
 refine EV.listComp ["at"] (by decide) (cl:=[("step",z.cs),("codes_of_x",z.cx)]) ?_ ?_ (by decide) (by decide)
 ·simp only [closureFor,cellOf,hcl]
  rfl
 refine EV.call (EV.glbN g_range (EL.cons (EV.int (EL.nil ⟨.typ,CL.range1 fun rg=>?_⟩))))
 refine PI.range .head (small_of (by decide) (by decide)) fun it=>?_
 intro acc fm' hns' env' he'
 have hse':=rel_scope he' hsc
 have hce':=rel_cells he'
 have m0:=lN hse' hns' "at" 0
 have k_codes_of_x:=cN (c:=z.cx) hse' hce' "codes_of_x"
 have k_step:=cN (c:=z.cs) hse' hce' "step"
 refine CS.list rfl rfl ⟨PI.self m_1 trivial,fun n H' vs'=>∃ (j:Nat) (y:Option V),n=4 - j/\j<=4/\H'.Perm ((it,.io (.riter j (4 - j) 1))::(acc,.list (((List.range j).map (swT cs i)).map .int))::B)/\vs'=[y],⟨4,0,none,rfl,by simp +arith,?_,rfl⟩,?_⟩
 ·exact List.Perm.swap _ _ _
 rintro n H₃ vs₃ N hN ⟨j,y,rfl,hj,pj,rfl⟩
 refine NX.perm pj ?_
 refine NX.range hr.handled .head (fun h=>?_) fun h=>?_
 ·have hj4:j < 4:=by omega
  refine AS.locN m0 (IFS.nil ?_)
  show EV _ _ _ _ _ _ _ _
  refine EV.bin (EV.sub (EV.celN k_codes_of_x (t_2 mcx) (EV.bin (EV.celN k_step (t_2 mcs) (EV.locN m0 rfl ⟨_,.add,GI.getD (j:=4 * i+j) (t_2 mq) (by simp +arith) (by exact linL (Nat.add_le_add hi hj4) (by simp +arith)) (by exact linL hcs (by simp +arith)) ?_⟩)))))
  refine EV.bin (EV.int (EV.locN m0 rfl ⟨_,.pow (by simp +arith) ?_,_,.mul (mulOk ?_),_,_,.at1,?_,hN ⟨4 - (j+1),sub_dn hj4,j+1,_,rfl,hj4,?_,rfl⟩⟩))
  ·have:Builtin.Int.intBits 256<=9:=by decide
   have h1:(Builtin.Int.intBits 256:Int) * (j:Int)<=9 * 4:=Int.mul_le_mul (by lia) (by exact linZ h (by simp +arith)) (by simp +arith) (by simp +arith)
   lia
  ·rw [Int.toNat_natCast]
   have:j=0\/j=1\/j=2\/j=3:=by lia
   rcases this with rfl | rfl | rfl | rfl <;> decide
  ·rw [List.length_map,List.length_map,List.length_range,h4]; exact lin hj (by simp +arith)
  ·rw [List.range_succ,List.map_append,List.map_append]
   refine (List.Perm.swap _ _ _).trans (.of_eq ?_)
   have e1:(4:Int) - j - 1=4 - ((j+1:Nat):Int):=by simp +arith
   rw [e1]
   rfl
 ·have:j=4:=by lia
  subst this
  refine EL.nil ⟨.blt,CL.sumI hr.handled (.head _) ?_⟩
  rw [swT_sum]
  exact hq acc
end
end Mine
end
section
set_option maxHeartbeats 4000000
namespace Mine
section
variable {D:Wd} {ad:Ads} {fm:Fm} {env:Env} {vs:List (Option V)} {A:Around} {H R W B:HL} {z:Cz}
theorem str_steps (kf:KF D ad) {x:As} {t:Str} {p:Int} {texts:List (Str×Int)} {ept epd:Nat} {q du:Addr} {pd:List Int} {due:List (Int×Int)} {o:Option V} {Q:Fl->HL->List (Option V)->Prop} (hr:Rm 90 A) (L:LE fm env z)
  (h14:vs[14]?=some (some (.ref x.tm))) (h15:vs[15]?=some (some (.str t))) (mtm:(x.tm,AObj.dictS (texts.map fun p=>(p.1,.int p.2)) ept)∈B) (hg:dget t (texts.map fun p=>(p.1,V.int p.2))=some (.int p))
  (hpd:pd.length % 4=0) (hpl:pd.length<=2 ^ 12) (nd:((due++at4 p (swList pd)).map (·.1)).Nodup) (hdl:due.length<=2 ^ 22)
  (hq:∀ ep o',Q .next ((z.cx,.cell (some (.ref q)))::(du,.dictI ((due++at4 p (swList pd)).map fun p=>(p.1,.int p.2)) ep)::(z.cd,.cell (some (.ref du)))::(z.cs,.cell o')::B) vs) :
  XS D fm A env (strBody.drop 2) ((z.cx,.cell (some (.ref q)))::(q,.list (pd.map .int))::(du,.dictI (due.map fun p=>(p.1,.int p.2)) epd)::(z.cd,.cell (some (.ref du)))::(z.cs,.cell o)::B) vs Q:=by
 obtain ⟨hns,hsc,hcl⟩:=id L
 have n14:=lN hsc hns "texts_met" 14
 have n15:=lN hsc hns "words" 15
 have k_codes_of_x:=cN (c:=z.cx) hsc hcl "codes_of_x"
 have k_step:=cN (c:=z.cs) hsc hcl "step"
 have k_due:=cN (c:=z.cd) hsc hcl "due"
 have g_range:=gB hsc "range" kf.n_range boot_range
 have g_len:=gB hsc "len" kf.n_len boot_len
 have h4:sizeLine=16777216:=by decide
 obtain ⟨m,hm⟩:∃ m,pd.length=4 * m:=⟨pd.length / 4,by lia⟩
 have hml:(at4 p (swList pd)).length=m:=by rw [at4_len,swList_len,hm]; simp +arith
 refine XS.cons (EX.forRs hr.handled (EV.call (EV.glbN g_range (EL.cons (EV.int (EL.cons (EV.call (EV.glbN g_len (EL.cons (EV.celN k_codes_of_x m_0 (EL.nil ⟨.blt,CL.len m_1 (by rw [List.length_map]; exact lin (Nat.add_le_add hpl (Nat.le_of_eq h4.symm)) (by simp +arith)) (EL.cons (EV.int (EL.nil ⟨.typ,?_⟩)))⟩)))))))))))
 rw [List.length_map,hm]
 refine CL.range3 (by decide) (PyProof.noPylong_small (by simp +arith)) fun rg=>?_
 refine ⟨rg,0,_,4,_,rfl,.head,small4 (by exact linL (Nat.add_le_add (Nat.le_of_eq hm.symm) hpl) (by simp +arith)),m,size4 m,fun i H' vs'=>∃ ep o',H'=(z.cx,.cell (some (.ref q)))::(q,.list (pd.map .int))::(du,.dictI ((due++(at4 p (swList pd)).take i).map fun p=>(p.1,.int p.2)) ep)::(z.cd,.cell (some (.ref du)))::(z.cs,.cell o')::B/\vs'=vs,⟨epd,o,by simp,rfl⟩,?_,?_⟩
 ·rintro it i H₃ vs₃ N hN hi ⟨ep,o',rfl,rfl⟩
  have ez:(0:Int)+(i:Int) * 4=((4 * i:Nat):Int):=by simp +arith
  have ha:(at4 p (swList pd))[i]?=some (p+((4 * i:Nat):Int),swAt pd i):=by
   rw [at4_get,swList_get pd (by lia)]
   simp
  have hnot:p+((4 * i:Nat):Int) ∉ (due++(at4 p (swList pd)).take i).map (·.1):=by
   intro h
   rw [<- List.take_append_drop i (at4 p (swList pd)),<- List.append_assoc,List.map_append] at nd
   have hd:(p+((4 * i:Nat):Int),swAt pd i)∈(at4 p (swList pd)).drop i:=by
    rw [List.mem_iff_getElem?]
    exact ⟨0,by rw [List.getElem?_drop]; exact ha⟩
   exact (List.nodup_append.mp nd).2.2 _ h _ (List.mem_map_of_mem hd) rfl
  have hgn:dget (p+((4 * i:Nat):Int)) ((due++(at4 p (swList pd)).take i).map fun p=>(p.1,V.int p.2))=none:=by
   rw [dget_map,find_none hnot]; rfl
  refine AS.celN k_step .at5 ?_
  rw [ez]
  refine XS.cons (EX.ifs (EB.cmp (EV.bin (EV.sub (EV.locN n14 h14 (EV.locN n15 h15 (GI.dictS (t_6 mtm) hg (EV.celN k_step m_0 ⟨_,.add,EV.celN k_due m_5 (CP.inI m_4 ⟨_,.bool _,fun h=>?_,fun h=>XS.nil ?_⟩)⟩))))))))
  ·rw [hgn] at h; cases h
  ·refine XS.cons (EX.setItem (str_word kf (i:=i) hr L (by exact Nat.le_trans (Nat.mul_le_mul_left 4 hi) (Nat.le_of_eq hm.symm)) hpl m_2 m_0 m_3 fun l=>?_))
   refine EV.celN k_due m_6 (EV.bin (EV.sub (EV.locN n14 h14 (EV.locN n15 h15 (GI.dictS (t_7 mtm) hg (EV.celN k_step m_1 ⟨_,.add,SI.dictI .at5 ?_ fun ep'=>?_⟩))))))
   ·rw [List.length_map,List.length_append,h4]
    have:=List.length_take_le i (at4 p (swList pd)); lia
   ·rw [dput_new _ _ _ (find_none hnot)]
    refine XS.forget .at1 ?_
    refine XS.perm (H':=(it,AObj.io (.riter (0+((i+1:Nat):Int) * 4) (m - ((i+1:Nat):Int)) 4))::(z.cx,.cell (some (.ref q)))::(q,.list (pd.map .int))::(du,.dictI ((due++(at4 p (swList pd)).take (i+1)).map fun p=>(p.1,.int p.2)) ep')::(z.cd,.cell (some (.ref du)))::(z.cs,.cell (some (.int (4 * i:Nat))))::B) ?_ (XS.nil (hN ⟨_,.head,_,_,rfl,rfl⟩))
    rw [List.take_add_one,ha,<- List.append_assoc]
    exact (pick [2,2,2,0,1,0] _)
 ·rintro H₃ vs₃ ⟨ep,o',rfl,rfl⟩
  rw [<- hml,List.take_length]
  exact XS.nil (XS.forget .at1 (XS.nil (hq _ _)))
end
end Mine
end
section
set_option maxHeartbeats 4000000
namespace Mine
noncomputable def tk (q:Str×Int):List (Int×Int):=at4 q.2 (sw q.1)
theorem dget_nodup {α:Type} [DecidableEq α] {l:List (α×Int)} (nd:(l.map (·.1)).Nodup) {q:α×Int} (h:q∈l):dget q.1 (l.map fun p=>(p.1,V.int p.2))=some (.int q.2):=by
 rw [dget_map]
 have:l.find? (fun p=>decide (p.1=q.1))=some q:=by
  induction l with
  | nil=>cases h
  | cons a l ih=>
   rw [List.map_cons,List.nodup_cons] at nd
   rw [List.find?_cons]
   rcases List.mem_cons.mp h with rfl | h
   ·simp
   ·have:¬ a.1=q.1:=fun e=>nd.1 (e ▸ List.mem_map_of_mem h)
    simp only [this,decide_false]
    exact ih nd.2 h
 rw [this]; rfl
section
variable {D:Wd} {ad:Ads} {fm:Fm} {env:Env} {vs:List (Option V)} {A:Around} {H R W B:HL} {z:Cz}
theorem law_strs (kf:KF D ad) {x:As} {texts:List (Str×Int)} {ept epd:Nat} {du:Addr} {due0:List (Int×Int)} {o oc:Option V} {y0 y1 y2 y3 y4 y5 y6 y7 y8 y9 y10 y11 y12 y13 y15 y16 y17 y18 y19 y20 y21 y22 y23 y24 y25 y26:Option V} {Q:Fl->HL->List (Option V)->Prop} (hr:Rm 90 A) (L:LE fm env z)
  (mtm:(x.tm,AObj.dictS (texts.map fun p=>(p.1,.int p.2)) ept)∈B) (hts:(texts.map (·.1)).Nodup) (hsz:∀ q∈texts,q.1.cps.size<=9) (nd:((due0++texts.flatMap tk).map (·.1)).Nodup) (hdl:(due0++texts.flatMap tk).length<=2 ^ 22)
  (hq:∀ ep o' oc' y15,Q .next ((du,.dictI ((due0++texts.flatMap tk).map fun p=>(p.1,.int p.2)) ep)::(z.cd,.cell (some (.ref du)))::(z.cs,.cell o')::(z.cx,.cell oc')::B) [y0,y1,y2,y3,y4,y5,y6,y7,y8,y9,y10,y11,y12,y13,some (.ref x.tm),y15,y16,y17,y18,y19,y20,y21,y22,y23,y24,y25,y26]) :
  EX D fm A env (lawAt 19) ((du,.dictI (due0.map fun p=>(p.1,.int p.2)) epd)::(z.cd,.cell (some (.ref du)))::(z.cs,.cell o)::(z.cx,.cell oc)::B) [y0,y1,y2,y3,y4,y5,y6,y7,y8,y9,y10,y11,y12,y13,some (.ref x.tm),y15,y16,y17,y18,y19,y20,y21,y22,y23,y24,y25,y26] Q:=by
 obtain ⟨hns,hsc,hcl⟩:=id L
 have n14:=lN hsc hns "texts_met" 14
 have n15:=lN hsc hns "words" 15
 refine EX.for_ (EV.locN n14 rfl (PI.keys (t_4 mtm) fun it=>?_))
 refine ⟨fun n H' vs'=>∃ (j ep:Nat) (o oc y15:Option V),n=texts.length - j/\j<=texts.length/\H'.Perm ((it,.io (.kiter x.tm j (texts.map fun p=>(p.1,V.int p.2)).length ept))::(z.cx,.cell oc)::(du,.dictI ((due0++(texts.take j).flatMap tk).map fun p=>(p.1,.int p.2)) ep)::(z.cd,.cell (some (.ref du)))::(z.cs,.cell o)::B) /\
  vs'=[y0,y1,y2,y3,y4,y5,y6,y7,y8,y9,y10,y11,y12,y13,some (.ref x.tm),y15,y16,y17,y18,y19,y20,y21,y22,y23,y24,y25,y26],⟨texts.length,0,epd,o,oc,y15,rfl,Nat.zero_le _,?_,rfl⟩,?_⟩
 ·simp only [List.take_zero,List.flatMap_nil,List.append_nil]
  exact (pick [0,3,0,0,0] _)
 rintro n H₃ vs₃ N hN ⟨j,ep,o,oc,y15,rfl,hj,pj,rfl⟩
 refine NX.perm pj ?_
 refine NX.keys hr.handled .head (t_5 mtm) (fun k v hv=>?_) (fun hx=>?_)
 ·rw [List.getElem?_map,Option.map_eq_some_iff] at hv
  obtain ⟨q,hgq,hv⟩:=hv
  cases hv
  have hqm:=List.mem_of_getElem? hgq
  have hjl:j < texts.length:=(List.getElem?_eq_some_iff.mp hgq).1
  have hfm:(texts.take (j+1)).flatMap tk=(texts.take j).flatMap tk++tk q:=by
   rw [List.take_add_one,hgq,List.flatMap_append]; simp
  have hsp:texts.flatMap tk=(texts.take (j+1)).flatMap tk++(texts.drop (j+1)).flatMap tk:=by rw [<- List.flatMap_append,List.take_append_drop]
  rw [hsp,hfm,<- List.append_assoc,<- List.append_assoc] at nd hdl
  have hs9:=hsz q hqm
  have hcl':(codesOf q.1).length=q.1.cps.size+1:=by simp [codesOf]
  have hpl:(padTo4 (codesOf q.1)).length<=q.1.cps.size+5:=by simp [padTo4,hcl']; exact lin (Nat.mod_lt (4 - (q.fst.cps.size+1) % 4) (by decide:0 < (4))) (by simp +arith)
  refine AS.locN n15 (XS.perm (Ext.pc .at1 (Ext.pc .at1 (Ext.pc .at1 (Ext.pc .at1 (Ext.pc .at0 (.refl _)))))) ?_)
  refine str_codes kf hr L (by rfl) (by exact lin hs9 (by simp +arith)) fun c=>?_
  refine str_pad kf hr L (by exact lin (Nat.add_le_add (Nat.le_of_eq hcl') hs9) (by simp +arith)) ?_
  refine str_steps kf (x:=x) (t:=q.1) (p:=q.2) (texts:=texts) (ept:=ept) (pd:=padTo4 (codesOf q.1)) (due:=due0++(texts.take j).flatMap tk) hr L ?_ ?_ (.tail _ mtm) (dget_nodup hts hqm) (padTo4_mod _) (by exact lin (Nat.add_le_add hpl hs9) (by simp +arith)) ?_ ?_ fun ep' o'=>?_
  ·rfl
  ·rfl
  ·rw [List.map_append] at nd
   exact (List.nodup_append.mp nd).1
  ·simp only [List.length_append] at hdl ⊢; exact lin hdl (by simp +arith)
  ·refine hN ⟨texts.length - (j+1),sub_dn hjl,j+1,ep',o',some (.ref c),_,rfl,hjl,?_,rfl⟩
   rw [hfm,<- List.append_assoc]
   exact (pick [4,0,0,0,0] _)
 ·rw [List.getElem?_map,Option.map_eq_none_iff,List.getElem?_eq_none_iff] at hx
  have:j=texts.length:=by exact linE hj (by simp +arith) hx (by simp +arith)
  subst this
  rw [List.take_length]
  refine XS.perm (Ext.pc .at1 (Ext.pc .at1 (Ext.pc .at1 (Ext.pc .at0 (.refl _))))) (XS.nil (hq ep o oc _))
end
end Mine
end
section
set_option maxHeartbeats 4000000
namespace Mine
noncomputable def nz (l:List (Int×Int)):List (Int×Int):=l.filter fun p=>!(p.2==0)
theorem wf_at4:∀ (l:List Int) (p:Int),wordsFrom p l=nz (at4 p l)
 := by
 intro l
 induction l with
 | nil=>intro _; rfl
 | cons w r ih=>
  intro p
  unfold wordsFrom at4 nz
  rw [List.filter_cons]
  have ih:=ih (p+4)
  unfold nz at ih
  by_cases h:w=0
  ·simp [h,ih]
  ·simp [h,ih]
theorem nz_perm {l m:List (Int×Int)} (p:l.Perm m):(nz l).Perm (nz m):=p.filter _
@[reducible] noncomputable def ifTest (s:Stmt):Expr:=(pt s).e
noncomputable def leftOf:Expr->Expr
 | .BoolOp _ l _=>l.headD (.Constant .none 0 default)
 | .Compare e _ _ _=>e
 | _=>.Constant .none 0 default
@[reducible] noncomputable def firstOf (e:Expr):Expr:=leftOf e
noncomputable def nzComp:Expr:=leftOf (firstOf (ifTest (lawAt 20)))
section
variable {D:Wd} {ad:Ads} {fm:Fm} {env:Env} {vs:List (Option V)} {A:Around} {H R W B:HL} {z:Cz}
theorem ev_nz (kf:KF D ad) {du:Addr} {due:List (Int×Int)} {epd:Nat} {Q:V->HL->Prop} (hr:Rm 90 A) (L:LE fm env z)
  (mcd:(z.cd,AObj.cell (some (.ref du)))∈B) (mdu:(du,AObj.dictI (due.map fun p=>(p.1,.int p.2)) epd)∈B) (nd:(due.map (·.1)).Nodup) (hdl:due.length<=2 ^ 23)
  (hq:∀ d ep,Q (.ref d) ((d,.dictI ((nz due).map fun p=>(p.1,.int p.2)) ep)::B)):EV D fm A env nzComp B vs Q:=by
 obtain ⟨hns,hsc,hcl⟩:=L
 have k_due:=cN (c:=z.cd) hsc hcl "due"
 have h4:sizeLine=16777216:=by decide
 refine EV.dictComp ["at"] (by decide) (cl:=[("due",z.cd)]) ?_ ?_ (by decide) (by decide)
 ·simp only [closureFor,cellOf,hcl]
  rfl
 ·refine EV.celN k_due mcd (PI.keysI mdu fun it=>?_)
  intro acc fm' hns' env' he'
  have hse':=rel_scope he' hsc
  have hce':=rel_cells he'
  have m0:=lN hse' hns' "at" 0
  have k_due:=cN (c:=z.cd) hse' hce' "due"
  refine CS.dictI rfl ⟨PI.self m_1 trivial,fun n H' vs'=>∃ (j:Nat) (ep:Nat) (y:Option V),n=due.length - j/\j<=due.length/\H'.Perm ((acc,.dictI ((nz (due.take j)).map fun p=>(p.1,.int p.2)) ep)::(it,.io (.kiter du j (due.map fun p=>(p.1,V.int p.2)).length epd))::B)/\vs'=[y],
   ⟨due.length,0,0,none,rfl,Nat.zero_le _,.refl _,rfl⟩,?_⟩
  rintro n H₃ vs₃ N hN ⟨j,ep,y,rfl,hjl,pj,rfl⟩
  refine NX.perm pj ?_
  refine NX.keysI hr.handled .at1 (t_2 mdu) (fun k v hv=>?_) (fun hx=>?_)
  ·rw [List.getElem?_map,Option.map_eq_some_iff] at hv
   obtain ⟨p,hp,hv⟩:=hv
   cases hv
   have hpm:=List.mem_of_getElem? hp
   have hj:j < due.length:=(List.getElem?_eq_some_iff.mp hp).1
   have hg:=dget_nodup nd hpm
   have htk:nz (due.take (j+1))=nz (due.take j)++nz [p]:=by
    rw [List.take_add_one,hp]; unfold nz; rw [List.filter_append]; rfl
   refine AS.locN m0 (IFS.one (EB.cmp (EV.sub (EV.celN k_due (t_2 mcd) (EV.locN m0 rfl (GI.dictI (t_2 mdu) hg (EV.int (cmpAnd .ne ?_))))))))
   by_cases h0:p.2=0
   ·rw [ifsQ,if_neg (by simp [h0])]
    refine hN ⟨due.length - (j+1),sub_dn hj,j+1,ep,_,rfl,hj,?_,rfl⟩
    have:nz [p]=[]:=by simp [nz,h0]
    rw [htk,this,List.append_nil]
    exact List.Perm.swap _ _ _
   ·rw [ifsQ,if_pos (by simp [h0])]
    refine EV.locN m0 rfl ⟨_,rfl,EV.sub (EV.celN k_due (t_2 mcd) (EV.locN m0 rfl (GI.dictI (t_2 mdu) hg ⟨_,_,_,.at1,?_,fun ep'=>hN ⟨due.length - (j+1),sub_dn hj,j+1,ep',_,rfl,hj,?_,rfl⟩⟩)))⟩
    ·rw [List.length_map,h4]
     have h1:(nz (due.take j)).length<=(due.take j).length:=List.length_filter_le _ _
     have h2:=List.length_take_le j due
     lia
    ·have hnot:p.1 ∉ (nz (due.take j)).map (·.1):=by
      intro h
      obtain ⟨q,hq',e⟩:=List.mem_map.mp h
      rw [<- List.take_append_drop j due,List.map_append] at nd
      have hd:p∈due.drop j:=by
       rw [List.mem_iff_getElem?]
       exact ⟨0,by rw [List.getElem?_drop]; exact hp⟩
      exact (List.nodup_append.mp nd).2.2 _ (List.mem_map_of_mem (List.mem_filter.mp hq').1) _ (List.mem_map_of_mem hd) e
     have:nz [p]=[p]:=by simp [nz,h0]
     rw [dput_new _ _ _ (find_none hnot),htk,this]
  ·rw [List.getElem?_map,Option.map_eq_none_iff,List.getElem?_eq_none_iff] at hx
   have:j=due.length:=by exact linE hjl (by simp +arith) hx (by simp +arith)
   subst this
   rw [List.take_length]
   exact hq _ _
end
end Mine
end
section
set_option maxHeartbeats 4000000
namespace Mine
theorem lt3_anti {x y:T3} (h1:lt3 x y=false) (h2:lt3 y x=false):x=y:=tupO.total _ _ h1 h2
theorem sorted3_eq {us vs:List T3} (p:us.Perm vs) (h1:us.Pairwise (fun x y=>lt3 y x=false)) (h2:vs.Pairwise (fun x y=>lt3 y x=false)):us=vs:=
 List.Perm.eq_of_pairwise (le:=fun x y=>lt3 y x=false) (fun a b _ _ h h'=>lt3_anti h' h) h1 h2 p
theorem veqs_self3 (l:List T3):veqs (l.map tupV) (l.map tupV)=true:=veqs_refl _
section
variable {D:Wd} {ad:Ads} {fm:Fm} {env:Env} {vs:List (Option V)} {A:Around} {H R W B:HL} {z:Cz}
theorem CP.neSelf3 {a b:Addr} (l:List T3) {Q:V->HL->Prop} (m1:(a,.list (l.map tupV))∈H) (m2:(b,.list (l.map tupV))∈H) (hu:A.units+3 < cLine) (hq:Q (.bool false) H):CP D A .NotEq (.ref a) (.ref b) H Q:=
 CP.neList (n:=1) m1 m2 (by exact linL hu (by simp +arith)) (fun _ i x y h1 h2=>by
  rw [List.getElem?_map,Option.map_eq_some_iff] at h1 h2
  obtain ⟨a,_,rfl⟩:=h1
  obtain ⟨b,_,rfl⟩:=h2
  refine .tup fun i x y h1 h2=>?_
  match i,h1,h2 with
  | 0,h1,h2=>cases h1; cases h2; exact .int _ _
  | 1,h1,h2=>cases h1; cases h2; exact .int _ _
  | 2,h1,h2=>cases h1; cases h2; exact .int _ _
  | n+3,h1,h2=>cases h1) (by rw [veqs_self3]; exact hq)
theorem law_end (kf:KF D ad) {zz:DaA} {du wd fx:Addr} {due ws:List (Int×Int)} {fixs fix:List T3} {epd epw:Nat} {s0:Int} {n:Int} {y0 y1 y2 y3 y4 y5 y6 y7 y8 y9 y10 y11 y13 y14 y15 y16 y17 y18 y20 y22 y23 y24 y25 y26:Option V} {Q:Fl->HL->List (Option V)->Prop} (hr:Rm 90 A) (L:LE fm env z)
  (mcd:(z.cd,AObj.cell (some (.ref du)))∈B) (mdu:(du,AObj.dictI (due.map fun p=>(p.1,.int p.2)) epd)∈B) (mwd:(wd,AObj.dictI (ws.map fun p=>(p.1,.int p.2)) epw)∈B) (mct:(z.ct,AObj.cell (some (.int s0)))∈B)
  (mda:(zz.da,AObj.inst ad.cDA (daAt zz n))∈B) (mfl:(zz.fl,AObj.list (fix.map tup3))∈B) (mfx:(fx,AObj.list (fixs.map tup3))∈B)
  (nd:(due.map (·.1)).Nodup) (hdl:due.length<=2 ^ 23) (hnz:(nz due).Perm ws) (ndw:(ws.map (·.1)).Nodup) (hfix:fixs.Perm fix) (hfl:fix.length<=2 ^ 22) (hn:n=(s0+3).fdiv 4 * 4+4 * due.length) (hlow:∀ p∈due,s0<=p.1) (hs0:0<=s0/\s0 < 30)
  (hq:∀ H' vs',(∀ q∈B,q∈H')->Q (.ret (.bool true)) H' vs') :
  XS D fm A env ((fnBody (stmtAt 23)).drop 20) B [y0,y1,y2,y3,y4,y5,y6,y7,y8,y9,y10,y11,some (.ref zz.da),y13,y14,y15,y16,y17,y18,some (.ref wd),y20,some (.ref fx),y22,y23,y24,y25,y26] Q:=by
 obtain ⟨hns,hsc,hcl⟩:=id L
 have n12:=lN hsc hns "data" 12
 have n19:=lN hsc hns "words_at" 19
 have n21:=lN hsc hns "fixups" 21
 have k_due:=cN (c:=z.cd) hsc hcl "due"
 have k_start:=cN (c:=z.ct) hsc hcl "start"
 have g_sorted:=gB hsc "sorted" kf.n_sorted boot_sorted
 have g_len:=gB hsc "len" kf.n_len boot_len
 have h4:sizeLine=16777216:=by decide
 have hu:=hr.units
 have h5:cLine=9900:=by rfl
 refine XS.cons (EX.ifs (EB.or (EB.cmp (ev_nz kf hr L mcd mdu nd hdl fun d ep=>EV.locN n19 rfl (CP.neDictI (.head _) (.tail _ mwd) (by exact linL (Nat.add_le_add hu (Nat.le_of_eq h5.symm)) (by simp +arith)) (by rw [List.length_map]; exact hnz.length_eq) (fun p hp=>dget_nodup ndw (hnz.mem_iff.mp hp)) ⟨false,.bool _,fun _=>?_,fun h=>by cases h⟩)))))
 refine EB.or (EB.cmp (EV.call (EV.glbN g_sorted (EL.cons (EV.attr (EV.locN n12 rfl (GA.da kf (.tail _ mda) (hq:=EL.nil ⟨.blt,CL.sortedT (.tail _ mfl) hfl fun l1 us1 p1 s1=>?_⟩))))))))
 refine EV.call (EV.glbN g_sorted (EL.cons (EV.locN n21 rfl (EL.nil ⟨.blt,CL.sortedT (t_2 mfx) (by rw [hfix.length_eq]; exact hfl) fun l2 us2 p2 s2=>?_⟩))))
 have eu:us2=us1:=sorted3_eq ((p2.trans hfix).trans p1.symm) s2 s1
 subst eu
 refine CP.neSelf3 us2 m_1 (.head _) (by exact linL (Nat.add_le_add hu (Nat.le_of_eq h5.symm)) (by simp +arith)) ⟨false,.bool _,fun _=>EB.or0 ⟨fun h=>(by cases h),fun _=>XS.nil ?_⟩,fun h=>by cases h⟩
 refine XS.cons (EX.ret ?_)
 have hB:∀ q∈B,q∈(l2,AObj.list (us2.map tupV))::(l1,.list (us2.map tupV))::(d,.dictI ((nz due).map fun p=>(p.1,V.int p.2)) ep)::B:=fun q hq=>t_3 hq
 generalize (l2,AObj.list (us2.map tupV))::(l1,.list (us2.map tupV))::(d,.dictI ((nz due).map fun p=>(p.1,V.int p.2)) ep)::B=B' at hB
 refine EV.and2 (EV.cmp (EV.attr (EV.locN n12 rfl (GA.da kf (hB _ mda) (hq:=?_)))))
 refine EV.bin (EV.bin (EV.bin (EV.bin (EV.celN k_start (hB _ mct) (EV.int ⟨_,.add,EV.int ⟨_,.fdiv (by decide) (PyProof.noPylong_small (by simp +arith)),EV.int ⟨_,.mul (mulOk (by decide)),EV.bin (EV.int (EV.call (EV.glbN g_len (EL.cons (EV.celN k_due (hB _ mcd) (EL.nil ⟨.blt,CL.lenI (hB _ mdu) (by rw [List.length_map,h4]; exact lin hdl (by simp +arith)) ?_⟩))))))⟩⟩⟩)))))
 rw [List.length_map]
 refine ⟨_,.mul (mulOk (by exact linL hdl (by simp +arith))),_,.add,CP.of .eq ⟨_,.bool _,fun h=>?_,fun _=>?_⟩⟩
 ·rw [<- hn] at h; simp at h
 refine EV.cmp ?_
 refine EV.listComp ["at"] (by decide) (cl:=[("start",z.ct)]) ?_ ?_ (by decide) (by decide)
 ·simp only [closureFor,cellOf,hcl]
  rfl
 refine EV.celN k_due (hB _ mcd) (PI.keysI (hB _ mdu) fun it=>?_)
 intro acc fm' hns' env' he'
 have hse':=rel_scope he' hsc
 have hce':=rel_cells he'
 have m0:=lN hse' hns' "at" 0
 have k_start:=cN (c:=z.ct) hse' hce' "start"
 refine CS.list rfl rfl ⟨PI.self m_1 trivial,fun n H' vs'=>∃ (j:Nat) (y:Option V),n=due.length - j/\j<=due.length/\H'.Perm ((it,.io (.kiter du j (due.map fun p=>(p.1,V.int p.2)).length epd))::(acc,.list [])::B')/\vs'=[y],⟨due.length,0,none,rfl,Nat.zero_le _,List.Perm.swap _ _ _,rfl⟩,?_⟩
 rintro m H₃ vs₃ N hN ⟨j,y,rfl,hjl,pj,rfl⟩
 refine NX.perm pj (NX.keysI hr.handled .head (t_2 (hB _ mdu)) (fun k v hv=>?_) (fun hx=>?_))
 ·rw [List.getElem?_map,Option.map_eq_some_iff] at hv
  obtain ⟨p,hp,hv⟩:=hv
  cases hv
  have hlo:=hlow p (List.mem_of_getElem? hp)
  have hj:j < due.length:=(List.getElem?_eq_some_iff.mp hp).1
  refine AS.locN m0 (IFS.one (EB.cmp (EV.locN m0 rfl (EV.celN k_start (t_2 (hB _ mct)) (cmpAnd .lt ?_)))))
  rw [ifsQ,if_neg (by simp; omega)]
  exact hN ⟨due.length - (j+1),sub_dn hj,j+1,_,rfl,hj,.refl _,rfl⟩
 ·refine EV.list (EL.nil (leAnd (by rfl) fun e=>?_))
  exact CP.eqNil m_1 m_0 (by exact linL (Nat.add_le_add hu (Nat.le_of_eq h5.symm)) (by simp +arith)) (hq _ _ fun q hq=>t_2 (hB q hq))
end
end Mine
end
section
set_option maxHeartbeats 4000000
namespace Mine
theorem at4_append:∀ (l m:List Int) (p:Int),at4 p (l++m)=at4 p l++at4 (p+4 * l.length) m
 := by
 intro l
 induction l with
 | nil=>intro m p; show at4 p m=at4 (p+4 * ((0:Nat):Int)) m; rw [Int.natCast_zero,Int.mul_zero,Int.add_zero]
 | cons w r ih=>
  intro m p
  have e:p+4+4 * (r.length:Int)=p+4 * ((r.length+1:Nat):Int):=by simp +arith
  exact congrArg (_::·) ((ih m (p+4)).trans (by rw [e]; rfl))
theorem at4_key:∀ (l:List Int) (p:Int),∀ q∈at4 p l,∃ k:Nat,k < l.length/\q.1=p+4 * k
 := by
 intro l
 induction l with
 | nil=>intro _ q h; cases h
 | cons w r ih=>
  intro p q h
  rcases List.mem_cons.mp h with rfl | h
  ·exact ⟨0,by simp,by simp⟩
  ·obtain ⟨k,h1,h2⟩:=ih (p+4) q h
   exact ⟨k+1,by simp; omega,by rw [h2]; simp +arith⟩
theorem at4_nodup:∀ (l:List Int) (p:Int),((at4 p l).map (·.1)).Nodup
 | [],_=>.nil
 | w::r,p=>by
  unfold at4
  rw [List.map_cons]
  refine List.nodup_cons.mpr ⟨fun h=>?_,at4_nodup r (p+4)⟩
  obtain ⟨q,hq,e⟩:=List.mem_map.mp h
  obtain ⟨k,_,h2⟩:=at4_key r (p+4) q hq
  lia
theorem perm_of_nodup {α:Type}:∀ {l m:List α},l.Nodup->m.Nodup->(∀ x,x∈l ↔ x∈m)->l.Perm m
 := by
 intro l
 induction l with
 | nil=>
  intro m _ _ h
  cases m with
  | nil=>exact .refl _
  | cons x m=>exact nomatch (h x).mpr (.head _)
 | cons a l ih=>
  intro m h1 h2 h
  obtain ⟨s,t,rfl⟩:=List.append_of_mem ((h a).mp (.head _))
  have hp:=List.perm_middle (a:=a) (l₁:=s) (l₂:=t)
  rw [List.nodup_cons] at h1
  have h3:=hp.nodup_iff.mp h2
  rw [List.nodup_cons] at h3
  refine (List.Perm.cons a (ih h1.2 h3.2 fun x=>?_)).trans hp.symm
  have hx:=h x
  rw [hp.mem_iff,List.mem_cons,List.mem_cons] at hx
  constructor
  ·intro hl
   rcases hx.mp (.inr hl) with rfl | h
   ·exact absurd hl h1.1
   ·exact h
  ·intro hl
   rcases hx.mpr (.inr hl) with rfl | h
   ·exact absurd hl h3.1
   ·exact h
noncomputable def lvc (recs:List Rec) (st:DS) (ch:List Nat) (m:Nat):Int:=match ch[m]? with
 | none=>0
 | some j=>if (rc recs j).d.module="M" then (st.place (rc recs j).d.number).getD 0 else 0
noncomputable def cellsD (recs:List Rec) (st:DS) (i:Nat):List Int:=((rc recs i).d.size::(List.range 4).map (lvc recs st (rc recs i).ch))++((rc recs i).ps++[4294967295])
noncomputable def cont (recs:List Rec) (st:DS):Blk->List Int
 | .d i=>cellsD recs st i
 | .s t=>sw t
noncomputable def adr (recs:List Rec) (st:DS):Blk->Int
 | .d i=>(st.place (rc recs i).d.number).getD 0
 | .s t=>(st.tplace t).getD 0
noncomputable def fixB (recs:List Rec) (st:DS):Blk->List (Int×Int×Int)
 | .d i=>fxs recs (rc recs i).ch (adr recs st (.d i)) 4
 | .s _=>[]
noncomputable def cellB (recs:List Rec) (st:DS) (b:Blk):List (Int×Int):=at4 (adr recs st b) (cont recs st b)
theorem lvls_mem (recs:List Rec) (ch:List Nat) (r:Rec) (st:DS) (m:Nat) (st':DS) (hd:st'.descs=(st2 r st).descs) :
  (lvls recs ch (st2 r st) m).mem=st.mem++(r.d.size::(List.range m).map (lvc recs st' ch))/\(lvls recs ch (st2 r st) m).fix=st.fix++fxs recs ch st.size m/\(lvls recs ch (st2 r st) m).a0=st.a0:=by
 induction m with
 | zero=>exact ⟨by simp [lvls,st2,DS.push],by simp [lvls,st2,DS.push,fxs],rfl⟩
 | succ m ih=>
  obtain ⟨h1,h2,h3⟩:=ih
  have hdd:=lvls_descs recs ch (st2 r st) m
  have hpl:∀ n,(lvls recs ch (st2 r st) m).place n=st'.place n:=fun n=>by unfold DS.place; rw [hdd,hd]
  have hsz:(lvls recs ch (st2 r st) m).size=st.size+4+4 * m:=by
   unfold DS.size; rw [h1,h3]; simp; simp +arith
  rw [lvls_succ,fxs_succ,List.range_succ,List.map_append]
  unfold lvl fx4
  cases hc:ch[m]? with
  | none=>
   have e:lvc recs st' ch m=0:=by simp [lvc,hc]
   refine ⟨?_,?_,h3⟩
   ·show (lvls recs ch (st2 r st) m).mem++[0]=_
    rw [h1]; simp [e]
   ·show (lvls recs ch (st2 r st) m).fix=_
    rw [h2]; simp
  | some j=>
   dsimp only
   unfold refSt
   by_cases hM:(rc recs j).d.module="M"
   ·have e:lvc recs st' ch m=(st'.place (rc recs j).d.number).getD 0:=by simp [lvc,hc,hM]
    rw [if_pos hM,if_pos hM]
    refine ⟨?_,?_,h3⟩
    ·show (lvls recs ch (st2 r st) m).mem++[((lvls recs ch (st2 r st) m).place _).getD 0]=_
     rw [h1,hpl]; simp [e]
    ·show (lvls recs ch (st2 r st) m).fix++[((lvls recs ch (st2 r st) m).size,0,0)]=_
     rw [h2,hsz]; simp
   ·have e:lvc recs st' ch m=0:=by simp [lvc,hc,hM]
    rw [if_neg hM,if_neg hM]
    refine ⟨?_,?_,h3⟩
    ·show (lvls recs ch (st2 r st) m).mem++[0]=_
     rw [h1]; simp [e]
    ·show (lvls recs ch (st2 r st) m).fix++[((lvls recs ch (st2 r st) m).size,1,_)]=_
     rw [h2,hsz]; simp
theorem stepD_all (recs:List Rec) (i:Nat) (st:DS):(stepD recs i st).mem=st.mem++cellsD recs (stepD recs i st) i/\(stepD recs i st).fix=st.fix++fxs recs (rc recs i).ch st.size 4/\(stepD recs i st).a0=st.a0:=by
 have hd:(stepD recs i st).descs=(st2 (rc recs i) st).descs:=by rw [stepD_descs]; rfl
 obtain ⟨h1,h2,h3⟩:=lvls_mem recs (rc recs i).ch (rc recs i) st 4 (stepD recs i st) hd
 have hm:(stepD recs i st).mem=(lvls recs (rc recs i).ch (st2 (rc recs i) st) 4).mem++((rc recs i).ps++[4294967295]):=by
  unfold stepD; rw [pushes]; simp [DS.push]
 have hf:(stepD recs i st).fix=(lvls recs (rc recs i).ch (st2 (rc recs i) st) 4).fix:=by
  unfold stepD; rw [pushes]; rfl
 have ha:(stepD recs i st).a0=(lvls recs (rc recs i).ch (st2 (rc recs i) st) 4).a0:=by
  unfold stepD; rw [pushes]; rfl
 refine ⟨?_,hf.trans h2,ha.trans h3⟩
 rw [hm,h1,List.append_assoc]
 rfl
structure HP (recs:List Rec) (a0:Int) (st:DS) (bs:List Blk):Prop where
 a:st.a0=a0
 mem:at4 a0 st.mem=bs.flatMap (cellB recs st)
 fix:st.fix=bs.flatMap (fixB recs st)
 dsome:∀ i,.d i∈bs->(st.place (rc recs i).d.number).isSome
 ch:∀ i,.d i∈bs->∀ j∈(rc recs i).ch,(rc recs j).d.module="M"->(st.place (rc recs j).d.number).isSome
 dex:∀ n,(st.place n).isSome->∃ i,.d i∈bs/\(rc recs i).d.number=n
 tiff:∀ t,.s t∈bs ↔ t∈st.texts.map (·.1)
 nd:bs.Nodup
 tsz:∀ q∈st.texts,q.1.cps.size<=9
theorem tplace_none {st:DS} {t:Str} (h:st.tplace t=none):t ∉ st.texts.map (·.1):=by
 intro hm
 obtain ⟨q,hq,e⟩:=List.mem_map.mp hm
 unfold DS.tplace at h
 rw [Option.map_eq_none_iff,List.find?_eq_none] at h
 exact h q hq (by simpa using e)
theorem tplace_some {st:DS} {t:Str} (h:t∈st.texts.map (·.1)):(st.tplace t).isSome:=by
 cases hp:st.tplace t with
 | some _=>rfl
 | none=>exact absurd h (tplace_none hp)
theorem cellB_same {recs:List Rec} {st st':DS} {b:Blk} (hp:∀ n,(st.place n).isSome->st'.place n=st.place n) (ht:∀ t,(st.tplace t).isSome->st'.tplace t=st.tplace t)
  (h:match b with | .d i=>(st.place (rc recs i).d.number).isSome/\∀ j∈(rc recs i).ch,(rc recs j).d.module="M"->(st.place (rc recs j).d.number).isSome | .s t=>(st.tplace t).isSome):cellB recs st' b=cellB recs st b/\fixB recs st' b=fixB recs st b:=by
 cases b with
 | d i=>
  have e:adr recs st' (.d i)=adr recs st (.d i):=by show (st'.place _).getD 0=(st.place _).getD 0; rw [hp _ h.1]
  have e2:cont recs st' (.d i)=cont recs st (.d i):=by
   show cellsD recs st' i=cellsD recs st i
   unfold cellsD
   have:(List.range 4).map (lvc recs st' (rc recs i).ch)=(List.range 4).map (lvc recs st (rc recs i).ch):=by
    refine List.map_congr_left fun m _=>?_
    unfold lvc
    cases hc:(rc recs i).ch[m]? with
    | none=>rfl
    | some j=>
     dsimp only
     by_cases hM:(rc recs j).d.module="M"
     ·rw [if_pos hM,if_pos hM,hp _ (h.2 j (List.mem_of_getElem? hc) hM)]
     ·rw [if_neg hM,if_neg hM]
   rw [this]
  exact ⟨by unfold cellB; rw [e,e2],by show fxs _ _ (adr recs st' (.d i)) 4=fxs _ _ (adr recs st (.d i)) 4; rw [e]⟩
 | s t=>
  have e:adr recs st' (.s t)=adr recs st (.s t):=by show (st'.tplace t).getD 0=(st.tplace t).getD 0; rw [ht _ h]
  exact ⟨by unfold cellB; rw [e]; rfl,rfl⟩
end Mine
end
section
set_option maxHeartbeats 4000000
namespace Mine
theorem flatMap_congr' {α β:Type} {f g:α->List β}:∀ {l:List α},(∀ x∈l,f x=g x)->l.flatMap f=l.flatMap g
 := by
 intro l
 induction l with
 | nil=>intro _; rfl
 | cons x l ih=>
  intro h
  rw [List.flatMap_cons,List.flatMap_cons,h x (.head _),ih fun y hy=>h y (.tail _ hy)]
theorem Hist.hp {recs:List Rec} {a0:Int} {st:DS} {bs:List Blk} (h:Hist recs a0 st bs):HP recs a0 st bs:=by
 induction h with
 | nil=>exact ⟨rfl,rfl,rfl,(fun i h=>by cases h),(fun i h=>by cases h),(fun n h=>by cases h),(fun t=>by simp),.nil,(fun q h=>by cases h)⟩
 | @d st bs i h h1 h2 ih=>
  obtain ⟨e1,e2,e3⟩:=stepD_all recs i st
  have ets:=stepD_texts recs i st
  have hpl:∀ n,(stepD recs i st).place n=(st.place n).or (if (rc recs i).d.number=n then some st.size else none):=fun n=>by
   rw [place_app (stepD_descs recs i st)]
   by_cases e:(rc recs i).d.number=n <;> simp [e]
  have hp:∀ n,(st.place n).isSome->(stepD recs i st).place n=st.place n:=fun n hn=>by
   rw [hpl]
   cases hs:st.place n with
   | none=>rw [hs] at hn; cases hn
   | some v=>rfl
  have hnew:(stepD recs i st).place (rc recs i).d.number=some st.size:=stepD_place recs i st h1
  have ht:∀ t,(st.tplace t).isSome->(stepD recs i st).tplace t=st.tplace t:=fun t _=>by unfold DS.tplace; rw [ets]
  have hsame:∀ b∈bs,cellB recs (stepD recs i st) b=cellB recs st b/\fixB recs (stepD recs i st) b=fixB recs st b:=fun b hb=>by
   refine cellB_same hp ht ?_
   cases b with
   | d i'=>exact ⟨ih.dsome i' hb,ih.ch i' hb⟩
   | s t=>exact tplace_some ((ih.tiff t).mp hb)
  have hadr:adr recs (stepD recs i st) (.d i)=a0+4 * st.mem.length:=by
   show ((stepD recs i st).place _).getD 0=_
   rw [hnew,<- ih.a]; rfl
  have hni:Blk.d i ∉ bs:=fun hb=>by
   have:=ih.dsome i hb
   rw [h1] at this; cases this
  refine ⟨e3.trans ih.a,?_,?_,?_,?_,?_,?_,?_,?_⟩
  ·rw [e1,at4_append,ih.mem,List.flatMap_append,flatMap_congr' fun b hb=>(hsame b hb).1,List.flatMap_singleton]
   congr 1
   unfold cellB
   rw [hadr]; rfl
  ·rw [e2,ih.fix,List.flatMap_append,flatMap_congr' fun b hb=>(hsame b hb).2,List.flatMap_singleton]
   congr 1
   show fxs recs _ st.size 4=fxs recs _ (adr recs _ (.d i)) 4
   rw [hadr,<- ih.a]; rfl
  ·intro i' hi'
   rcases List.mem_append.mp hi' with hi' | hi'
   ·rw [hp _ (ih.dsome i' hi')]; exact ih.dsome i' hi'
   ·cases List.mem_singleton.mp hi'
    rw [hnew]; rfl
  ·intro i' hi' j hj hM
   rcases List.mem_append.mp hi' with hi' | hi'
   ·have:=ih.ch i' hi' j hj hM
    rw [hp _ this]; exact this
   ·cases List.mem_singleton.mp hi'
    by_cases hji:j=i
    ·subst hji; rw [hnew]; rfl
    ·have:=h2 j hj hji hM
     rw [hp _ this]; exact this
  ·intro n hn
   rw [hpl] at hn
   cases hs:st.place n with
   | some v=>
    obtain ⟨i',h3,h4⟩:=ih.dex n (by rw [hs]; rfl)
    exact ⟨i',List.mem_append_left _ h3,h4⟩
   | none=>
    rw [hs] at hn
    by_cases e:(rc recs i).d.number=n
    ·exact ⟨i,by simp,e⟩
    ·rw [if_neg e] at hn; cases hn
  ·intro t
   rw [ets,<- ih.tiff]
   simp
  ·exact List.nodup_append.mpr ⟨ih.nd,by simp,fun x hx y hy e=>hni (by rw [List.mem_singleton] at hy; rw [<- hy,<- e]; exact hx)⟩
  ·rw [ets]; exact ih.tsz
 | @s st bs t h h1 h2 ih=>
  have hs:=stepS_eq t st
  have hp:∀ n,(st.place n).isSome->(stepS t st).place n=st.place n:=fun n _=>by rw [hs]; rfl
  have htp:∀ u,(stepS t st).tplace u=(st.tplace u).or (if t=u then some st.size else none):=fun u=>by
   rw [hs]
   unfold DS.tplace
   rw [List.find?_append]
   cases st.texts.find? _ with
   | some v=>rfl
   | none=>by_cases e:t=u <;> simp [e]
  have ht:∀ u,(st.tplace u).isSome->(stepS t st).tplace u=st.tplace u:=fun u hu=>by
   rw [htp]
   cases hs:st.tplace u with
   | none=>rw [hs] at hu; cases hu
   | some v=>rfl
  have hnew:(stepS t st).tplace t=some st.size:=by rw [htp,h1]; simp
  have hsame:∀ b∈bs,cellB recs (stepS t st) b=cellB recs st b/\fixB recs (stepS t st) b=fixB recs st b:=fun b hb=>by
   refine cellB_same hp ht ?_
   cases b with
   | d i'=>exact ⟨ih.dsome i' hb,ih.ch i' hb⟩
   | s t=>exact tplace_some ((ih.tiff t).mp hb)
  have hadr:adr recs (stepS t st) (.s t)=a0+4 * st.mem.length:=by
   show ((stepS t st).tplace _).getD 0=_
   rw [hnew,<- ih.a]; rfl
  have hnt:=tplace_none h1
  have emem:(stepS t st).mem=st.mem++sw t:=by rw [hs]
  have efix:(stepS t st).fix=st.fix:=by rw [hs]
  have etx:(stepS t st).texts=st.texts++[(t,st.size)]:=by rw [hs]
  refine ⟨by rw [hs]; exact ih.a,?_,?_,?_,?_,?_,?_,?_,?_⟩
  ·rw [emem,at4_append,ih.mem,List.flatMap_append,flatMap_congr' fun b hb=>(hsame b hb).1,List.flatMap_singleton]
   congr 1
   unfold cellB
   rw [hadr]; rfl
  ·rw [efix,ih.fix,List.flatMap_append,flatMap_congr' fun b hb=>(hsame b hb).2,List.flatMap_singleton]
   simp [fixB]
  ·intro i' hi'
   rcases List.mem_append.mp hi' with hi' | hi'
   ·rw [hp _ (ih.dsome i' hi')]; exact ih.dsome i' hi'
   ·cases List.mem_singleton.mp hi'
  ·intro i' hi' j hj hM
   rcases List.mem_append.mp hi' with hi' | hi'
   ·have:=ih.ch i' hi' j hj hM
    rw [hp _ this]; exact this
   ·cases List.mem_singleton.mp hi'
  ·intro n hn
   have e:(stepS t st).place n=st.place n:=by rw [hs]; rfl
   rw [e] at hn
   obtain ⟨i',h3,h4⟩:=ih.dex n hn
   exact ⟨i',List.mem_append_left _ h3,h4⟩
  ·intro u
   rw [etx,List.map_append,List.mem_append,List.mem_append,ih.tiff]
   simp [eq_comm]
  ·exact List.nodup_append.mpr ⟨ih.nd,by simp,fun x hx y hy e=>hnt ((ih.tiff t).mp (by rw [List.mem_singleton] at hy; rw [<- hy,<- e]; exact hx))⟩
  ·intro q hq
   rw [etx] at hq
   rcases List.mem_append.mp hq with hq | hq
   ·exact ih.tsz q hq
   ·rw [List.mem_singleton.mp hq]; exact h2
 | i h ih=>exact ⟨ih.a,ih.mem,ih.fix,ih.dsome,ih.ch,ih.dex,ih.tiff,ih.nd,ih.tsz⟩
end Mine
end
section
set_option maxHeartbeats 4000000
namespace Mine
theorem plain {D:Wd} {ad:Ads} {W:HL} {recs:List Rec} {a0:Int} {st:DS} {bs:List Blk} {asked us:List Nat} {places:List (Int×Int)} (hB:RecsB D ad W 20 recs) (hlen:recs.length<=6) (hh:Hist recs a0 st bs) (hok:AskOk recs st bs asked places)
  (hcl:∀ i∈asked,ClA recs asked i) (hnu:us.Nodup) (hmu:∀ i,i∈us ↔ i∈asked) :
  (us.flatMap (bk recs places)++st.texts.flatMap tk).Perm (at4 a0 st.mem)/\(us.flatMap (bf recs places)).Perm st.fix:=by
 have hp:=hh.hp
 have hR:=hB.ok (by exact lin hlen (by simp +arith))
 have hpos:∀ i∈asked,pos recs places i=adr recs st (.d i)/\i < recs.length:=fun i hi=>by
  obtain ⟨r,p,er,hM,h1,h2⟩:=hok.a i hi
  refine ⟨?_,(List.getElem?_eq_some_iff.mp er).1⟩
  unfold pos
  show _=(st.place _).getD 0
  rw [rc_of er,h1,h2]
 have hlk:∀ i∈asked,lk places (rc recs i).d.number=st.place (rc recs i).d.number:=fun i hi=>by
  obtain ⟨r,p,er,hM,h1,h2⟩:=hok.a i hi
  rw [rc_of er,h1,h2]
 have hbk:∀ i∈us,bk recs places i=cellB recs st (.d i)/\bf recs places i=fixB recs st (.d i):=fun i hi=>by
  have hi:=(hmu i).mp hi
  have e:=(hpos i hi).1
  refine ⟨?_,?_⟩
  ·unfold bk cellB
   rw [e]
   show at4 _ (cellsOf recs places (rc recs i))=at4 _ (cellsD recs st i)
   unfold cellsOf cellsD cls
   have:(List.range 4).map (cl4 recs places (rc recs i).ch)=(List.range 4).map (lvc recs st (rc recs i).ch):=by
    refine List.map_congr_left fun m _=>?_
    unfold cl4 lvc
    cases hc:(rc recs i).ch[m]? with
    | none=>rfl
    | some j=>
     dsimp only
     by_cases hM:(rc recs j).d.module="M"
     ·rw [if_pos hM,if_pos hM,hlk j (hcl i hi j (List.mem_of_getElem? hc) hM)]
     ·rw [if_neg hM,if_neg hM]
   rw [this]
  ·unfold bf
   rw [e]; rfl
 have htk:∀ q∈st.texts,tk q=cellB recs st (.s q.1):=fun q hq=>by
  unfold tk cellB
  have:adr recs st (.s q.1)=q.2:=by
   show (st.tplace q.1).getD 0=_
   have:=dget_nodup hh.texts hq
   rw [DS.tplace_dget] at this
   cases hs:st.tplace q.1 with
   | none=>rw [hs] at this; cases this
   | some v=>rw [hs] at this; cases this; rfl
  rw [this]; rfl
 let ord:List Blk:=us.map .d++st.texts.map fun q=>.s q.1
 have e1:us.flatMap (bk recs places)++st.texts.flatMap tk=ord.flatMap (cellB recs st):=by
  rw [List.flatMap_append,flatMap_congr' fun i hi=>(hbk i hi).1,flatMap_congr' htk,List.flatMap_map,List.flatMap_map]
 have e2:us.flatMap (bf recs places)=ord.flatMap (fixB recs st):=by
  rw [List.flatMap_append,flatMap_congr' fun i hi=>(hbk i hi).2,List.flatMap_map,List.flatMap_map]
  have:(st.texts.flatMap fun q=>fixB recs st (.s q.1))=[]:=by
   rw [List.flatMap_eq_nil_iff]; intro q _; rfl
  rw [this,List.append_nil]
 have hperm:ord.Perm bs:=by
  refine perm_of_nodup ?_ hp.nd fun b=>?_
  ·refine List.nodup_append.mpr ⟨?_,?_,?_⟩
   ·exact List.Pairwise.map _ (fun a b h e=>h (by injection e)) hnu
   ·have hn:=hh.texts
    have e:(st.texts.map fun q=>Blk.s q.1)=(st.texts.map (·.1)).map Blk.s:=by rw [List.map_map]; rfl
    rw [e]
    exact List.Pairwise.map _ (fun a b h e=>h (by injection e)) hn
   ·intro x hx y hy e
    obtain ⟨i,_,rfl⟩:=List.mem_map.mp hx
    obtain ⟨q,_,rfl⟩:=List.mem_map.mp hy
    cases e
  ·rw [List.mem_append]
   cases b with
   | d i=>
    have h1:Blk.d i∈us.map Blk.d ↔ i∈us:=by simp
    have h2:¬ Blk.d i∈(st.texts.map fun q=>Blk.s q.1):=by simp
    rw [h1,hmu]
    constructor
    ·rintro (h | h)
     ·obtain ⟨r,p,er,hM,h3,h4⟩:=hok.a i h
      obtain ⟨i',h5,h6⟩:=hp.dex r.d.number (by rw [h3]; rfl)
      obtain ⟨a,h7,h8,h9⟩:=hok.c i' h5
      obtain ⟨ra,pa,era,_⟩:=hok.a a h7
      rw [rc_of era] at h8
      obtain ⟨_,b,h10,_⟩:=hR.prefix a ra era i' h8
      have:i'=i:=num_inj hB.num (List.getElem?_eq_some_iff.mp h10).1 (List.getElem?_eq_some_iff.mp er).1 (by rw [h6,rc_of er])
      rw [<- this]; exact h5
     ·exact absurd h h2
    ·intro h
     obtain ⟨a,h7,h8,h9⟩:=hok.c i h
     exact .inl (hcl a h7 i h8 h9)
   | s t=>
    rw [hp.tiff]
    simp
 rw [e1,e2,hp.mem,hp.fix]
 exact ⟨hperm.flatMap_right _,hperm.flatMap_right _⟩
end Mine
end
section
set_option maxHeartbeats 4000000
namespace Mine
section
variable {D:Wd} {ad:Ads} {fm:Fm} {env:Env} {vs:List (Option V)} {A:Around} {H R W B:HL} {z:Cz}
theorem law_part3 (kf:KF D ad) {x:As} {zz:DaA} {recs:List Rec} {s0:Int} {sv:V} {ts:Addr} {js:List Int} {op:Obj} {st:DS} {bs:List Blk} {asked:List Nat} {places:List (Int×Int)} {ep1 ep2:Nat} {yv:Nat->Option V} {Q:Fl->HL->List (Option V)->Prop}
  (hr:Rm 90 A) (L:LE fm env z) (hB:RecsB D ad W 20 recs) (hlen:recs.length<=6) (hs0:0<=s0/\s0 < 30) (hop:TabO op) (hh:Hist recs ((s0+3).fdiv 4 * 4) st bs) (hok:AskOk recs st bs asked places) (ht:st.texts.length<=7) (hal:asked.length<=13) (hclo:Cl recs asked asked.length) (hm:Mea recs st 0)
  (hda:DaH ad zz st H (askE z x recs s0 js op asked places st.texts ep1 ep2 (W++((z.cx,.cell none)::(z.cs,.cell none)::(z.cd,.cell none)::R))))
  (hq:∀ H' vs' op,TabO op->(x.P,AObj.raw op)∈H'->(∀ q∈R,q∈H')->Q (.ret (.bool true)) H' vs') :
  XS D fm A env ((fnBody (stmtAt 23)).drop 14) H (askL sv ts x zz yv) Q:=by
 obtain ⟨hns,hsc,hcl⟩:=id L
 have n19:=lN hsc hns "words_at" 19
 have n21:=lN hsc hns "fixups" 21
 have k_due:=cN (c:=z.cd) hsc hcl "due"
 have hp:=hh.hp
 have hcl':∀ i∈asked,ClA recs asked i:=fun i hi=>by
  obtain ⟨k,hk⟩:=List.getElem?_of_mem hi
  exact hclo k i (List.getElem?_eq_some_iff.mp hk).1 hk
 have hml:st.mem.length<=2 ^ 22:=by unfold Mea at hm; exact lin hm.1 (by simp +arith)
 have hfl:st.fix.length<=2 ^ 22:=by unfold Mea at hm; exact lin hm.2.1 (by simp +arith)
 have ha0:s0<=(s0+3).fdiv 4 * 4:=by rw [Int.fdiv_eq_ediv_of_nonneg _ (by decide)]; lia
 have hmod:((s0+3).fdiv 4 * 4) % 4=0:=by simp +arith
 obtain ⟨e1,e2,p⟩:=hda
 have p2:=p.trans ((askMid (z.cx,.cell none)).symm.trans (((askMid (z.cs,.cell none)).symm.cons _).trans (((askMid (z.cd,.cell none)).symm.cons _).cons _)))
 have mW:∀ q∈W,q∈daE ad zz st st.size e1 e2++askE z x recs s0 js op asked places st.texts ep1 ep2 (W++R):=fun q hq=>by
  refine List.mem_append_right _ ?_
  unfold askE
  iterate 8 refine .tail _ ?_
  exact List.mem_append_left _ hq
 have mda:(zz.da,AObj.inst ad.cDA (daAt zz st.size))∈daE ad zz st st.size e1 e2++askE z x recs s0 js op asked places st.texts ep1 ep2 (W++R):=.head _
 have mwl:(zz.wl,AObj.list ((wordsFrom st.a0 st.mem).map tup2))∈daE ad zz st st.size e1 e2++askE z x recs s0 js op asked places st.texts ep1 ep2 (W++R):=m_1
 have mfl:(zz.fl,AObj.list (st.fix.map tup3))∈daE ad zz st st.size e1 e2++askE z x recs s0 js op asked places st.texts ep1 ep2 (W++R):=m_2
 have mct:(z.ct,AObj.cell (some (.int s0)))∈daE ad zz st st.size e1 e2++askE z x recs s0 js op asked places st.texts ep1 ep2 (W++R):=List.mem_append_right _ m_3
 have mal:(x.al,AObj.list (asked.map (ra recs)))∈daE ad zz st st.size e1 e2++askE z x recs s0 js op asked places st.texts ep1 ep2 (W++R):=List.mem_append_right _ m_4
 have mpd:(x.pd,AObj.dictI (places.map fun p=>(p.1,.int p.2)) ep1)∈daE ad zz st st.size e1 e2++askE z x recs s0 js op asked places st.texts ep1 ep2 (W++R):=List.mem_append_right _ m_5
 have mtm:(x.tm,AObj.dictS (st.texts.map fun p=>(p.1,.int p.2)) ep2)∈daE ad zz st st.size e1 e2++askE z x recs s0 js op asked places st.texts ep1 ep2 (W++R):=List.mem_append_right _ m_6
 have mP:(x.P,AObj.raw op)∈daE ad zz st st.size e1 e2++askE z x recs s0 js op asked places st.texts ep1 ep2 (W++R):=List.mem_append_right _ m_7
 have mR:∀ q∈R,q∈daE ad zz st st.size e1 e2++askE z x recs s0 js op asked places st.texts ep1 ep2 (W++R):=fun q hq=>by
  refine List.mem_append_right _ ?_
  unfold askE
  iterate 8 refine .tail _ ?_
  exact List.mem_append_right _ hq
 generalize daE ad zz st st.size e1 e2++askE z x recs s0 js op asked places st.texts ep1 ep2 (W++R)=H2 at mW mda mwl mfl mct mal mpd mtm p2 mP mR
 clear p
 refine XS.perm p2 ?_
 refine XS.cons (EX.assignN n19 (EV.dict0 dict0I fun wd=>?_))
 have hwl:(wordsFrom st.a0 st.mem).length<=2 ^ 22:=Nat.le_trans (wordsFrom_length _ _) hml
 refine XS.cons (law_wa kf hr L (t_3 mda) (t_3 mwl) (t_3 mct) (fun q hq=>?_) (wf_nodup _ _) hwl fun epw y16 y20=>?_)
 ·obtain ⟨⟨k,_,h1⟩,h2⟩:=wf_mem _ _ q hq
  rw [hp.a] at h1
  refine ⟨?_,by lia,h2⟩
  rw [Int.fmod_eq_emod_of_nonneg _ (by decide)]
  lia
 refine XS.cons (EX.assignCN k_due (EV.dict0 dict0I fun du=>⟨none,_,.at4,?_⟩))
 refine XS.cons (EX.assignN n21 (EV.list (EL.nil (leAnd (by rfl) fun fx=>?_))))
 refine XS.perm (Ext.pc .at0 (Ext.pc .at1 (Ext.pc .at0 (Ext.pc .at2 (Ext.pc .at0 (Ext.pc .at0 (.refl _))))))) ?_
 have tot:∀ us:List Nat,us.Nodup->(∀ i,i∈us ↔ i∈asked)->(us.flatMap (bk recs places)++st.texts.flatMap tk).Perm (at4 ((s0+3).fdiv 4 * 4) st.mem)/\(us.flatMap (bf recs places)).Perm st.fix/\((us.flatMap (bk recs places)++st.texts.flatMap tk).map (·.1)).Nodup/\(us.flatMap (bk recs places)++st.texts.flatMap tk).length=st.mem.length:=fun us h1 h2=>by
  obtain ⟨q1,q2⟩:=plain hB hlen hh hok hcl' h1 h2
  exact ⟨q1,q2,((q1.map _).nodup_iff).mpr (at4_nodup _ _),by rw [q1.length_eq,at4_len]⟩
 refine XS.cons (law_due (W:=W) (asked:=asked) (x:=x) (ep1:=ep1) (places:=places) kf hr L hB hlen (t_2 mpd) (t_2 mal) (fun q hq=>t_2 (mW q hq)) hal (fun i hi=>?_) hcl' (fun us h1 h2=>?_) fun us epd o' y5 y16 y22 y23 y24 y25 y26 hnu hmu=>?_)
 ·obtain ⟨r,p,h1,h2,_,h3⟩:=hok.a i hi
  exact ⟨r,p,h1,h2,h3⟩
 ·obtain ⟨_,_,q3,q4⟩:=tot us h1 h2
  rw [List.map_append] at q3
  rw [List.length_append] at q4
  exact ⟨(List.nodup_append.mp q3).1,by exact lin (Nat.add_le_add (Nat.le_of_eq q4) hml) (by simp +arith)⟩
 obtain ⟨q1,q2,q3,q4⟩:=tot us hnu hmu
 refine XS.perm (Ext.pc .at1 (Ext.pc .at1 (Ext.pc .at1 (Ext.pc .at2 (Ext.pc .at0 (Ext.pc .at0 (.refl _))))))) ?_
 refine XS.cons (law_strs (x:=x) (texts:=st.texts) (ept:=ep2) kf hr L (t_2 mtm) hh.texts hp.tsz q3 (by exact Nat.le_trans (Nat.le_of_eq q4) hml) fun ep o' oc' y15=>?_)
 refine law_end kf hr L m_1 m_0 m_5 (t_6 mct) (t_6 mda) (t_6 mfl) m_4 q3 (by lia) ?_ (wf_nodup _ _) q2 hfl ?_ (fun q hq=>?_) hs0 fun H' vs' hB'=>hq H' vs' op hop (hB' _ (t_6 mP)) fun q hq'=>hB' _ (t_6 (mR q hq'))
 ·rw [wf_at4,hp.a]
  exact nz_perm q1
 ·show st.a0+4 * (st.mem.length:Int)=_
  rw [hp.a,q4]
 ·obtain ⟨k,_,h2⟩:=at4_key _ _ q (q1.mem_iff.mp hq)
  lia
end
end Mine
end
section
set_option maxHeartbeats 4000000
namespace Mine
section
variable {D:Wd} {ad:Ads} {fm:Fm} {env:Env} {vs:List (Option V)} {A:Around} {H R W B:HL} {z:Cz}
theorem law_body (kf:KF D ad) (ceq:ClsEq D.K ad.cType) {sc c P:Addr} {so:Obj} {ws:List Value} {nw:Nat} {is:List Int} {Q:Fl->HL->List (Option V)->Prop} (hr:Rm 100 A) (L:LE fm env z) (hLs:fm.L≠sysModules) (hcode:env.code=.ref c) (hC:∀ h,D.K.In h->CodeHd h c P) (msc:D.K.lookup sc=some so) (hoc:so.cls=.type "list") (hod:so.data=.seq ws.toArray nw) (hws:∀ T,VRels T (is.map .int) ws) (hz:is.length<=2 ^ 20)
  (hq:∀ H' vs' op,TabO op->(P,AObj.raw op)∈H'->(∀ q∈R,q∈H')->Q (.ret (.bool true)) H' vs') :
  XS D fm A env (fnBody (stmtAt 23)) ((z.cr,.cell none)::(z.co,.cell none)::(P,.raw (tabObj #[]))::(z.cn,.cell none)::(z.ct,.cell none)::(z.cx,.cell none)::(z.cs,.cell none)::(z.cd,.cell none)::R) (some (.ref sc)::List.replicate 26 none) Q:=by
 refine law_part1 kf (hr.le (by decide)) L msc hoc hod hws hz fun b ts kd rw rl n H' vs' hn hJ=>?_
 refine law_part2 (o4:=none) kf hr L hn hcode hC hJ fun recs W js s0 op zz al pd tm ep1 ep2 H' vs2 hv2 hlen hB hI hj hs0 hs1 hop hda=>?_
 have hr9:Rm 90 A:=hr.le (by decide)
 have hA:AskOk recs ⟨(s0+3).fdiv 4 * 4,[],[],[],[],false⟩ [] [] []:=⟨(fun i h=>by cases h),(fun n v h=>by cases h),(fun i h=>by cases h)⟩
 refine XS.cons (law_asks (x:=⟨rw,rl,P,al,pd,tm⟩) kf hr9 L hLs hcode hC hB hI hlen ⟨⟨js,op,_,[],[],[],ep1,ep2,hj,hop,.nil,Mea.start,Nat.le_refl _,Nat.le_refl _,Nat.le_refl _,hA,hda⟩,hv2⟩ fun n H' vs' hn h=>?_)
 refine XS.cons (law_bases kf ceq hr9 L hB hI hlen hn h fun js op st bs asked places ep1 ep2 H' yv hop hh hok ht hal hcl hpl hda hm=>?_)
 exact law_part3 kf hr9 L hB hlen ⟨hs0,hs1⟩ hop hh hok ht hal hcl hm hda hq
end
end Mine
end
section
set_option maxHeartbeats 8000000
namespace Mine
noncomputable abbrev kS (x:String) (t:Nat):Value:=.str (Str.ofString x) t
noncomputable abbrev kI (n:Int):Value:=.int n 0
noncomputable abbrev kR (a:Addr):Value:=.ref a
noncomputable abbrev kN:Value:=.none
noncomputable abbrev kE (P:Params) (x:String) (t:Nat) (v:Value):DictEntry:=⟨PyData.keyHash P (Str.ofString x),kS x t,v⟩
noncomputable abbrev kT (l:List Value):Obj:={ cls:=.type "tuple",data:=.seq l.toArray }
noncomputable abbrev kC (n q:String) (t ln na z a b:Nat) (c d:Value) (e u:Nat):Obj:={ cls:=.type "code",data:=.fields #[kS n t,kS q (t+1),kS "/claim/cut.py" (t+2),kI ln,kI na,kI 0,kI z,kI 3,kR a,.bool true,kI 181,kR b,kN,c,d,kR e,kI u,kI ln,kS "/claim/cut.py" (u+1)] }
noncomputable abbrev kF (n q:String) (st:Stmt) (d k m:Value) (c:Addr):Obj:={ cls:=.type "function",data:=.func { name:=Str.ofString n,qualname:=Str.ofString q,params:=fnParams st,body:=.stmts (fnBody st),scope:=fnScope st,globals:=3,closure:=[],defaults:=d,kwdefaults:=k,pyModule:=m,code:=kR c } }
noncomputable def kHeap (P:Params):Frag:=[ (2,{ cls:=kN,data:=Data.dict #[] }),
(3,{ cls:=Value.type "dict",data:=Data.dict #[kE P "__name__" 165 (kS "law_pb0341_01" 511),kE P "__doc__" 166 kN,kE P "__package__" 167 kN,kE P "__loader__" 168 (Value.builtin "__main__.__loader__#opaque"),kE P "__spec__" 169 kN,kE P "__annotations__" 170 (kR 6),kE P "__builtins__" 171 (kR 4),kE P "__file__" 173 (kS "/claim/cut.py" 172),kE P "__cached__" 174 kN,kE P "alignment" 195 (kR 21),kE P "align" 204 (kR 28),kE P "whole_words" 211 (kR 35),kE P "place_fields" 220 (kR 42),kE P "pointer_offsets" 231 (kR 49),kE P "record_pointers" 241 (kR 56),kE P "distinct" 250 (kR 63),kE P "LEVELS" 254 (Value.int 4 253),kE P "END_OF_POINTERS" 256 (Value.int 4294967295 255),kE P "DataArea" 348 (kR 122),kE P "base_chain" 356 (kR 133),kE P "string_words" 362 (kR 138),kE P "Type" 406 (kR 155),kE P "Obj" 451 (kR 176),kE P "Types" 510 (kR 212),kE P "_law_row" 523 (kR 223),kE P "_law_next" 530 (kR 230),kE P "_law_pointers" 536 (kR 235),kE P "_law_inside" 542 (kR 240),kE P "law" 548 (kR 245)] 29 }),
(15,kT []),
(17,kT [kS "t" 192]),
(18,kT []),
(20,kC "alignment" "alignment" 189 2 1 0 15 16 (kR 17) (kR 18) 19 193),
(21,kF "alignment" "alignment" (stmtAt 1) kN kN (kS "moduleyard.layout" 187) 20),
(22,kT []),
(24,kT [kS "offset" 199,kS "t" 200,kS "step" 201]),
(25,kT []),
(27,kC "align" "align" 196 6 2 0 22 23 (kR 24) (kR 25) 26 202),
(28,kF "align" "align" (stmtAt 2) kN kN (kS "moduleyard.layout" 187) 27),
(29,kT []),
(31,kT [kS "size" 208]),
(32,kT []),
(34,kC "whole_words" "whole_words" 205 9 1 0 29 30 (kR 31) (kR 32) 33 209),
(35,kF "whole_words" "whole_words" (stmtAt 3) kN kN (kS "moduleyard.layout" 187) 34),
(36,kT []),
(38,kT [kS "record" 215,kS "offset" 216,kS "field" 217]),
(39,kT []),
(41,kC "place_fields" "place_fields" 212 11 1 0 36 37 (kR 38) (kR 39) 40 218),
(42,kF "place_fields" "place_fields" (stmtAt 4) kN kN (kS "moduleyard.layout" 187) 41),
(43,kT []),
(45,kT [kS "t" 224,kS "inner" 225,kS "found" 226,kS "place" 227,kS "offset" 228]),
(46,kT []),
(48,kC "pointer_offsets" "pointer_offsets" 221 22 1 0 43 44 (kR 45) (kR 46) 47 229),
(49,kF "pointer_offsets" "pointer_offsets" (stmtAt 5) kN kN (kS "moduleyard.layout" 187) 48),
(50,kT []),
(52,kT [kS "t" 235,kS "found" 236,kS "field" 237,kS "offset" 238]),
(53,kT []),
(55,kC "record_pointers" "record_pointers" 232 37 1 0 50 51 (kR 52) (kR 53) 54 239),
(56,kF "record_pointers" "record_pointers" (stmtAt 6) kN kN (kS "moduleyard.layout" 187) 55),
(57,kT []),
(59,kT [kS "row" 245,kS "found" 246,kS "one" 247]),
(60,kT []),
(62,kC "distinct" "distinct" 242 46 1 0 57 58 (kR 59) (kR 60) 61 248),
(63,kF "distinct" "distinct" (stmtAt 7) kN kN (kS "moduleyard.layout" 187) 62),
(71,kT []),
(73,kT [kS "self" 272,kS "module" 273,kS "variables" 274,kS "import_index" 275]),
(74,kT []),
(76,kC "__init__" "DataArea.__init__" 269 57 4 0 71 72 (kR 73) (kR 74) 75 276),
(77,kF "__init__" "DataArea.__init__" (methAt 11 0) kN kN (kS "moduleyard.gendata" 251) 76),
(78,kT []),
(80,kT [kS "self" 282,kS "word" 283,kS "offset" 284]),
(81,kT []),
(83,kC "add_word" "DataArea.add_word" 279 66 2 0 78 79 (kR 80) (kR 81) 82 285),
(84,kF "add_word" "DataArea.add_word" (methAt 11 1) kN kN (kS "moduleyard.gendata" 251) 83),
(85,kT []),
(87,kT [kS "self" 291,kS "text" 292,kS "word" 293]),
(88,kT []),
(90,kC "string_address" "DataArea.string_address" 288 73 2 0 85 86 (kR 87) (kR 88) 89 294),
(91,kF "string_address" "DataArea.string_address" (methAt 11 2) kN kN (kS "moduleyard.gendata" 251) 90),
(92,kT []),
(94,kT [kS "self" 300,kS "record" 301]),
(95,kT []),
(97,kC "descriptor" "DataArea.descriptor" 297 80 2 0 92 93 (kR 94) (kR 95) 96 302),
(98,kF "descriptor" "DataArea.descriptor" (methAt 11 3) kN kN (kS "moduleyard.gendata" 251) 97),
(99,kT []),
(101,kT [kS "self" 308,kS "record" 309]),
(102,kT []),
(104,kC "own_descriptor" "DataArea.own_descriptor" 305 85 2 0 99 100 (kR 101) (kR 102) 103 310),
(105,kF "own_descriptor" "DataArea.own_descriptor" (methAt 11 4) kN kN (kS "moduleyard.gendata" 251) 104),
(106,kT []),
(108,kT [kS "self" 316,kS "record" 317,kS "chain" 318,kS "base" 319,kS "level" 320,kS "offset" 321]),
(109,kT []),
(111,kC "make_descriptor" "DataArea.make_descriptor" 313 90 2 0 106 107 (kR 108) (kR 109) 110 322),
(112,kF "make_descriptor" "DataArea.make_descriptor" (methAt 11 5) kN kN (kS "moduleyard.gendata" 251) 111),
(113,kT []),
(115,kT [kS "self" 328,kS "record" 329,kS "offset" 330]),
(116,kT []),
(118,kC "add_reference" "DataArea.add_reference" 325 105 2 0 113 114 (kR 115) (kR 116) 117 331),
(119,kF "add_reference" "DataArea.add_reference" (methAt 11 6) kN kN (kS "moduleyard.gendata" 251) 118),
(120,kT [kS "descriptors" 334,kS "fixups" 335,kS "import_index" 336,kS "module" 337,kS "size" 338,kS "strings" 339,kS "words" 340]),
(121,{ cls:=Value.type "dict",data:=Data.dict #[kE P "__module__" 264 (kS "moduleyard.gendata" 251),kE P "__firstlineno__" 268 (Value.int 55 267),kE P "__init__" 278 (kR 77),kE P "add_word" 287 (kR 84),kE P "string_address" 296 (kR 91),kE P "descriptor" 304 (kR 98),kE P "own_descriptor" 312 (kR 105),kE P "make_descriptor" 324 (kR 112),kE P "add_reference" 333 (kR 119),kE P "__static_attributes__" 341 (kR 120),kE P "__dict__" 343 (kR 123),kE P "__weakref__" 345 (kR 124),kE P "__doc__" 346 kN] 4 }),
(122,{ cls:=Value.type "type",data:=Data.cls { name:=Str.ofString "DataArea",bases:=[Value.type "object"],mro:=[kR 122,Value.type "object"],ns:=121,qualname:=Str.ofString "DataArea" },slots:=#[none,none,some (kS "DataArea" 257),some (kS "DataArea" 265),some (Value.builtin "object.__new__"),some (Value.bool true)] }),
(123,{ cls:=Value.type "getset_descriptor",data:=Data.fields #[kS "__dict__" 342,kR 122,Value.builtin "function.__dict__",Value.builtin "function.__dict__#set"] }),
(124,{ cls:=Value.type "getset_descriptor",data:=Data.fields #[kS "__weakref__" 344,kR 122,Value.builtin "ExceptionGroup.__weakref__",kN] }),
(127,kT []),
(129,kT [kS "record" 352,kS "chain" 353]),
(130,kT []),
(132,kC "base_chain" "base_chain" 349 112 1 0 127 128 (kR 129) (kR 130) 131 354),
(133,kF "base_chain" "base_chain" (stmtAt 12) kN kN (kS "moduleyard.gendata" 251) 132),
(134,kT []),
(137,kC "string_words" "string_words" 357 117 1 0 134 135 kN kN 136 360),
(138,kF "string_words" "string_words" (stmtAt 13) kN kN (kS "moduleyard.gendata" 251) 137),
(146,kT []),
(148,kT [kS "self" 380,kS "number" 381,kS "form" 382,kS "size" 383]),
(149,kT []),
(151,kC "__init__" "Type.__init__" 377 129 4 0 146 147 (kR 148) (kR 149) 150 384),
(152,kF "__init__" "Type.__init__" (methAt 15 0) kN kN (kS "moduleyard.types" 363) 151),
(153,kT [kS "base" 387,kS "exno" 388,kS "fields" 389,kS "form" 390,kS "hidden" 391,kS "label" 392,kS "length" 393,kS "level" 394,kS "module" 395,kS "number" 396,kS "params" 397,kS "size" 398]),
(154,{ cls:=Value.type "dict",data:=Data.dict #[kE P "__module__" 372 (kS "moduleyard.types" 363),kE P "__firstlineno__" 376 (Value.int 127 375),kE P "__init__" 386 (kR 152),kE P "__static_attributes__" 399 (kR 153),kE P "__dict__" 401 (kR 156),kE P "__weakref__" 403 (kR 157),kE P "__doc__" 404 kN] 4 }),
(155,{ cls:=Value.type "type",data:=Data.cls { name:=Str.ofString "Type",bases:=[Value.type "object"],mro:=[kR 155,Value.type "object"],ns:=154,qualname:=Str.ofString "Type" },slots:=#[none,none,some (kS "Type" 365),some (kS "Type" 373),some (Value.builtin "object.__new__"),some (Value.bool true)] }),
(156,{ cls:=Value.type "getset_descriptor",data:=Data.fields #[kS "__dict__" 400,kR 155,Value.builtin "function.__dict__",Value.builtin "function.__dict__#set"] }),
(157,{ cls:=Value.type "getset_descriptor",data:=Data.fields #[kS "__weakref__" 402,kR 155,Value.builtin "ExceptionGroup.__weakref__",kN] }),
(167,kT []),
(169,kT [kS "self" 422,kS "name" 423,kS "kind" 424,kS "type_of" 425,kS "place" 426]),
(170,kT []),
(172,kC "__init__" "Obj.__init__" 419 144 5 0 167 168 (kR 169) (kR 170) 171 427),
(173,kF "__init__" "Obj.__init__" (methAt 16 0) kN kN (kS "moduleyard.types" 363) 172),
(174,kT [kS "exported" 430,kS "isparam" 431,kS "kind" 432,kS "level" 433,kS "module" 434,kS "name" 435,kS "narrowed" 436,kS "number" 437,kS "offset" 438,kS "place" 439,kS "readonly" 440,kS "slot" 441,kS "type" 442,kS "value" 443]),
(175,{ cls:=Value.type "dict",data:=Data.dict #[kE P "__module__" 414 (kS "moduleyard.types" 363),kE P "__firstlineno__" 418 (Value.int 142 417),kE P "__init__" 429 (kR 173),kE P "__static_attributes__" 444 (kR 174),kE P "__dict__" 446 (kR 177),kE P "__weakref__" 448 (kR 178),kE P "__doc__" 449 kN] 4 }),
(176,{ cls:=Value.type "type",data:=Data.cls { name:=Str.ofString "Obj",bases:=[Value.type "object"],mro:=[kR 176,Value.type "object"],ns:=175,qualname:=Str.ofString "Obj" },slots:=#[none,none,some (kS "Obj" 407),some (kS "Obj" 415),some (Value.builtin "object.__new__"),some (Value.bool true)] }),
(177,{ cls:=Value.type "getset_descriptor",data:=Data.fields #[kS "__dict__" 445,kR 176,Value.builtin "function.__dict__",Value.builtin "function.__dict__#set"] }),
(178,{ cls:=Value.type "getset_descriptor",data:=Data.fields #[kS "__weakref__" 447,kR 176,Value.builtin "ExceptionGroup.__weakref__",kN] }),
(188,kT []),
(190,kT [kS "self" 467]),
(191,kT []),
(193,kC "__init__" "Types.__init__" 464 161 1 0 188 189 (kR 190) (kR 191) 192 468),
(194,kF "__init__" "Types.__init__" (methAt 17 0) kN kN (kS "moduleyard.types" 363) 193),
(195,kT [kS "" 471,kS "" 472]),
(196,kT []),
(198,kT [kS "self" 476,kS "form" 477,kS "size" 478,kS "module" 479,kS "label" 480,kS "made" 481]),
(199,kT []),
(201,kC "new" "Types.new" 473 172 5 0 196 197 (kR 198) (kR 199) 200 482),
(202,kF "new" "Types.new" (methAt 17 1) (kR 195) kN (kS "moduleyard.types" 363) 201),
(203,kT []),
(205,kT [kS "self" 488,kS "length" 489,kS "made" 490]),
(206,kT []),
(208,kC "string" "Types.string" 485 181 2 0 203 204 (kR 205) (kR 206) 207 491),
(209,kF "string" "Types.string" (methAt 17 2) kN kN (kS "moduleyard.types" 363) 208),
(210,kT [kS "boolean" 494,kS "byte" 495,kS "char" 496,kS "counter" 497,kS "integer" 498,kS "known" 499,kS "mask" 500,kS "nil" 501,kS "none" 502]),
(211,{ cls:=Value.type "dict",data:=Data.dict #[kE P "__module__" 459 (kS "moduleyard.types" 363),kE P "__firstlineno__" 463 (Value.int 159 462),kE P "__init__" 470 (kR 194),kE P "new" 484 (kR 202),kE P "string" 493 (kR 209),kE P "__static_attributes__" 503 (kR 210),kE P "__dict__" 505 (kR 213),kE P "__weakref__" 507 (kR 214),kE P "__doc__" 508 kN] 4 }),
(212,{ cls:=Value.type "type",data:=Data.cls { name:=Str.ofString "Types",bases:=[Value.type "object"],mro:=[kR 212,Value.type "object"],ns:=211,qualname:=Str.ofString "Types" },slots:=#[none,none,some (kS "Types" 452),some (kS "Types" 460),some (Value.builtin "object.__new__"),some (Value.bool true)] }),
(213,{ cls:=Value.type "getset_descriptor",data:=Data.fields #[kS "__dict__" 504,kR 212,Value.builtin "function.__dict__",Value.builtin "function.__dict__#set"] }),
(214,{ cls:=Value.type "getset_descriptor",data:=Data.fields #[kS "__weakref__" 506,kR 212,Value.builtin "ExceptionGroup.__weakref__",kN] }),
(217,kT []),
(219,kT [kS "script" 516,kS "row" 517,kS "cell" 518,kS "figure" 519,kS "lap" 520]),
(220,kT []),
(222,kC "_law_row" "_law_row" 513 187 1 0 217 218 (kR 219) (kR 220) 221 521),
(223,kF "_law_row" "_law_row" (stmtAt 19) kN kN (kS "law_pb0341_01" 511) 222),
(224,kT []),
(226,kT [kS "row" 527]),
(227,kT []),
(229,kC "_law_next" "_law_next" 524 200 1 0 224 225 (kR 226) (kR 227) 228 528),
(230,kF "_law_next" "_law_next" (stmtAt 20) kN kN (kS "law_pb0341_01" 511) 229),
(231,kT []),
(234,kC "_law_pointers" "_law_pointers" 531 202 1 0 231 232 kN kN 233 534),
(235,kF "_law_pointers" "_law_pointers" (stmtAt 21) kN kN (kS "law_pb0341_01" 511) 234),
(236,kT []),
(239,kC "_law_inside" "_law_inside" 537 207 1 0 236 237 kN kN 238 540),
(240,kF "_law_inside" "_law_inside" (stmtAt 22) kN kN (kS "law_pb0341_01" 511) 239),
(241,kT []),
(244,kC "law" "law" 543 215 1 0 241 242 kN kN 243 546),
(245,kF "law" "law" (stmtAt 23) kN kN (kS "law_pb0341_01" 511) 244) ]
noncomputable def view:Program:={ PySem.Challenge.pw_pb0341_01 with main:={ PySem.Challenge.pw_pb0341_01.main with body:=[1,2,3,4,5,6,7,9,10,11,12,13,15,16,17,19,20,21,22,23].map stmtAt } }
noncomputable def kAs:List Addr:=[2,3,15,17,18,20,21,22,24,25,27,28,29,31,32,34,35,36,38,39,41,42,43,45,46,48,49,50,52,53,55,56,57,59,60,62,63,71,73,74,76,77,78,80,81,83,84,85,87,88,90,91,92,94,95,97,98,99,101,102,104,105,106,108,109,111,112,113,115,116,118,119,120,121,122,123,124,127,129,130,132,133,134,137,138,146,148,149,151,152,153,154,155,156,157,167,169,170,172,173,174,175,176,177,178,188,190,191,193,194,195,196,198,199,201,202,203,205,206,208,209,210,211,212,213,214,217,219,220,222,223,224,226,227,229,230,231,234,235,236,239,240,241,244,245]
end Mine
end
section
open PySem PySem.W PyProof.Rows
set_option maxHeartbeats 8000000
namespace Mine
theorem kAs_ok (P:Params):kAs=(kHeap P).map (·.1):=by kernel_rfl
theorem hl:LeftO PySem.Challenge.rw_pb0341_01.row.prog view [] (fun s=>xlAt view [] s && recOk PySem.Challenge.rw_pb0341_01.row.records s) (kmHook kHeap kAs kAs_ok [242]).obs (kmHook kHeap kAs kAs_ok [242]).val 3464:=by
 intro w
 kernel_rfl
end Mine
end
section
set_option maxHeartbeats 8000000
namespace Mine
noncomputable def ads:Ads:=⟨21,28,35,42,49,56,63,133,138,223,230,235,240,122,155,176,212,77,84,91,98,105,112,119,152,173,194,202⟩
noncomputable def obIn (K:Frag) (f:Addr):Obj:=match K.lookup f with
 | some o=>o
 | none=>{ cls:=.none,data:=.fields #[] }
noncomputable def fdIn (K:Frag) (f:Addr):FuncData:=match K.lookup f with
 | some ⟨_,_,.func fd,_⟩=>fd
 | _=>default
theorem FnK.of {K:Frag} {f:Addr} {qual:Str} {st:Stmt} (e1:K.lookup f=some ⟨(obIn K f).cls,(obIn K f).dict,.func (fnOf (fnName st) qual (fnParams st) (fnBody st) (fnScope st) .none .none (fdIn K f).doc (fdIn K f).pyModule (fdIn K f).annotations (fdIn K f).code (fdIn K f).closureTuple),(obIn K f).slots⟩)
  (e2:codeIn K (fdIn K f).code qual=true) (e3:keepIn K (.ref f)=true):FnK K f qual st:=⟨⟨_,_,_,_,_,_,_,_,e1,e2⟩,e3⟩
noncomputable def refA:Value->Addr
 | .ref a=>a
 | _=>0
noncomputable def strT:Value->Tok
 | .str _ t=>t
 | _=>0
noncomputable def intT:Option (Option Value)->Tok
 | some (some (.int _ t))=>t
 | _=>0
noncomputable def seqV:Obj->Array Value×Nat
 | ⟨_,_,.seq v n,_⟩=>(v,n)
 | _=>(#[],0)
theorem FnKD.of {K:Frag} {f:Addr} {qual:Str} {st:Stmt} (e1:K.lookup f=some ⟨(obIn K f).cls,(obIn K f).dict,.func (fnOf (fnName st) qual (fnParams st) (fnBody st) (fnScope st) (.ref (refA (fdIn K f).defaults)) .none (fdIn K f).doc (fdIn K f).pyModule (fdIn K f).annotations (fdIn K f).code (fdIn K f).closureTuple),(obIn K f).slots⟩)
  (e2:codeIn K (fdIn K f).code qual=true) (e4:K.lookup (refA (fdIn K f).defaults)=some (obIn K (refA (fdIn K f).defaults)))
  (e5:(obIn K (refA (fdIn K f).defaults)).data=.seq #[.str "" (strT ((seqV (obIn K (refA (fdIn K f).defaults))).1.getD 0 .none)),.str "" (strT ((seqV (obIn K (refA (fdIn K f).defaults))).1.getD 1 .none))] (seqV (obIn K (refA (fdIn K f).defaults))).2)
  (e3:keepIn K (.ref f)=true):FnKD K f qual st:=⟨⟨_,_,_,_,_,_,_,_,_,_,_,_,_,e1,e2,e4,e5⟩,e3⟩
noncomputable def clsAttrB (K:Frag) (C:Addr) (n:Str):Bool:=plainGet K C n && (findIn K (.ref C) n==some none) && hasDictIn K C && (findIn K (.ref C) "__setattr__"==some (some (.builtin "object.__setattr__"))) && plainOver K C && (takerIn K C n==some none)
theorem ClsAttr.all {K:Frag} {C:Addr} {ns:List Str} (e:ns.all (clsAttrB K C)=true):∀ n∈ns,ClsAttr K C n:=fun n hn=>by
 have:=List.all_eq_true.mp e n hn
 unfold clsAttrB at this
 simp only [Bool.and_eq_true,beq_iff_eq] at this
 obtain ⟨⟨⟨⟨⟨h1,h2⟩,h3⟩,h4⟩,h5⟩,h6⟩:=this
 exact ⟨h1,h2,h3,h4,h5,h6⟩
theorem exT {K:Frag} {n:Str} {k:Int} (e:nsIn K mainGlobals n=some (some (.int k (intT (nsIn K mainGlobals n))))):∃ t,nsIn K mainGlobals n=some (some (.int k t)):=⟨_,e⟩
theorem kfOf (D:Wd) {P:Params} {sc:Addr} {so:Obj} (h:D.K=kHeap P++[(sc,so)]):KF D ads:=by
 obtain ⟨prog,w,K,p,loose,mean,mg,mb⟩:=D
 subst h
 constructor <;> first
  | exact FnK.of (by kernel_rfl) (by kernel_rfl) (by kernel_rfl)
  | exact FnKD.of (by kernel_rfl) (by kernel_rfl) (by kernel_rfl) (by kernel_rfl) (by kernel_rfl)
  | exact ClsAttr.all (by kernel_rfl)
  | exact exT (by kernel_rfl)
  | exact ⟨by kernel_rfl,by kernel_rfl,by kernel_rfl⟩
  | kernel_rfl
end Mine
end
section
set_option maxHeartbeats 8000000
namespace Mine
noncomputable def clD (K:Frag) (C:Addr):ClassData:=match K.lookup C with
 | some ⟨_,_,.cls cd,_⟩=>cd
 | _=>default
noncomputable def dictEs (K:Frag) (N:Addr):Array DictEntry×Nat:=match K.lookup N with
 | some ⟨_,_,.dict es n,_⟩=>(es,n)
 | _=>(#[],0)
noncomputable def strKeysB (es:Array DictEntry):Bool:=es.toList.all fun e=>match e.key with
 | .str _ _=>true
 | _=>false
theorem strKeys_of {es:Array DictEntry} (e3:strKeysB es=true):StrKeys es:=fun e he=>by
 have:=List.all_eq_true.mp e3 e (by simpa using he)
 cases hk:e.key with
 | str n t=>exact ⟨n,t,rfl⟩
 | _=>rw [hk] at this; cases this
noncomputable def slotAt (o:Obj) (i:Nat):Option Value:=(o.slots[i]?).join
theorem clsEqOf (K:Frag) (C:Addr) (e1:K.lookup C=some (excClassObj (clD K C).name (clD K C).qualname C (clD K C).ns (clD K C).bases [.type "object"] (clD K C).hasDict (clD K C).slotNames (clD K C).subclasses (clD K C).abstract (clD K C).collection (obIn K C).dict
   (slotAt (obIn K C) 0) (slotAt (obIn K C) 1) (slotAt (obIn K C) 2) (slotAt (obIn K C) 3) (slotAt (obIn K C) 5) "object.__new__"))
  (e2:K.lookup (clD K C).ns=some ⟨(obIn K (clD K C).ns).cls,(obIn K (clD K C).ns).dict,.dict (dictEs K (clD K C).ns).1 (dictEs K (clD K C).ns).2,(obIn K (clD K C).ns).slots⟩) (e3:strKeysB (dictEs K (clD K C).ns).1=true)
  (e4:nsFind (dictEs K (clD K C).ns).1 "__eq__"=none) (e5:nsFind (dictEs K (clD K C).ns).1 "__ne__"=none):ClsEq K C:=fun h x o X hx hc=>
 ⟨o,_,_,_,_,_,_,_,_,_,_,_,_,_,_,_,_,nsFind (dictEs K (clD K C).ns).1,hx,hc,X _ _ e1,⟨_,_,_,X _ _ e2,rfl,strKeys_of e3,fun _=>rfl⟩,e4,e5⟩
theorem ceqOf (D:Wd) {P:Params} {sc:Addr} {so:Obj} (h:D.K=kHeap P++[(sc,so)]):ClsEq D.K ads.cType:=by
 rw [h]
 exact clsEqOf _ _ (by kernel_rfl) (by kernel_rfl) (by kernel_rfl) (by kernel_rfl) (by kernel_rfl)
theorem codeOf (D:Wd) {P:Params} {sc:Addr} {so:Obj} (h:D.K=kHeap P++[(sc,so)]):∀ h,D.K.In h->CodeHd h 244 242:=fun hp X=>by
 rw [h] at X
 exact codeHd_of_K X (by kernel_rfl)
end Mine
end
section
set_option maxHeartbeats 8000000
namespace Mine
theorem ints_rel {ws:List Value} {is:List Int} (h:IntsAre ws is) (T:Led):VRels T (is.map .int) ws:=.of_ints h
theorem cells_conc {D:Wd} {T:Led} {cm:Str->Option Value} (hn:∀ n,cm n=none) {l:List (Str×Addr)} {cells:List (Addr×Obj)} (h:CellsAre cm l cells):Concs D T (cellEnts l) cells/\cells.map (·.1)=l.map (·.2):=by
 induction h with
 | nil=>exact ⟨.nil,rfl⟩
 | @cons n c o cs cells d _ ih=>exact ⟨.cons (b:=[(c,o)]) (.cell0 (d.trans (by rw [hn]))) ih.1,congrArg (_::·) ih.2⟩
theorem law_enter {prog:Program} {w:World} {s:Shared} {Pm:Params} {p:Program} {loose:List Str} {mean:ExcName->Option Value} {mg mb:Str->Option Value} {fa sc:Addr} {o so:Obj} {pm doc:Value} {ws:List Value} {nw:Nat} {is:List Int} {R:Result->Shared->Prop}
  (X:(kHeap Pm).In s.heap) (hT:TabsAt [(244,242)] s.heap) (T:Top p loose mean mg mb s.heap)
  (ho:s.heap.get? fa=some o) (hdata:o.data=.func (docDef (fnName (stmtAt 23)) (fnParams (stmtAt 23)) (fnBody (stmtAt 23)) (fnScope (stmtAt 23)) pm (.ref 244) doc)) (hcd:s.heap.CodeRec (.ref 244) (fnName (stmtAt 23)))
  (hsc:s.heap.get? sc=some so) (hoc:so.cls=.type "list") (hod:so.data=.seq ws.toArray nw) (hI:IntsAre ws is) (hlen:is.length<=2 ^ 20)
  (hR:∀ s':Shared,(∀ b o,b≠242->s.heap.get? b=some o->s'.heap.get? b=some o)->(∃ ps,s'.heap.get? 242=some (tabObj ps))->s'.os=s.os->GOk s.gens s'.gens->R (.ok (.ret (.bool true))) s') :
  codeAny (model prog w) callerA (.call (.ref fa) ⟨[.ref sc],[]⟩) R s:=by
 refine call_cellsN_ret (binds:=[("script",.ref sc)]) (by decide) ho hdata T.nolimit hcd (by rfl) (fun x hx=>by cases List.mem_singleton.mp hx; exact .inl (by rfl)) (by decide) (fun h₁ tk cells F N Y=>?_) (by rfl) (by rfl) (by rfl)
 generalize hL:s.heap.objs.size=L at F N Y ⊢
 have Xs:(kHeap Pm++[(sc,so)]:Frag).In (ghostOf s.heap [(244,242)]):=fun a o' e=>by
  have hk:=ghost_K hT X (by kernel_rfl)
  rw [List.lookup_append] at e
  cases hl:(kHeap Pm).lookup a with
  | some o''=>rw [hl] at e; cases e; exact hk a _ hl
  | none=>
   rw [hl] at e
   have e2:List.lookup a [(sc,so)]=some o':=e
   rw [List.lookup_cons] at e2
   cases hb:a==sc with
   | false=>rw [hb] at e2; cases e2
   | true=>
    rw [hb] at e2
    cases e2
    rw [eq_of_beq hb]
    exact ghost_get hT hsc fun q=>by rw [q] at hoc; cases hoc
 have hlk:List.lookup sc (kHeap Pm++[(sc,so)]:Frag)=some so:=by
  rw [List.lookup_append]
  cases hl:(kHeap Pm).lookup sc with
  | some o''=>
   have:=X sc _ hl
   rw [hsc] at this
   cases this
   rfl
  | none=>simp
 let D:Wd:=⟨prog,w,kHeap Pm++[(sc,so)],topProg,loose++(recsOf p).map (·.name)++(litsOf p).map (·.1)++(clssOf p loose).map (·.name),mean,mg,mb⟩
 have hBase:Base D (ghostOf s.heap [(244,242)]):=⟨Xs,ghost_top hT T⟩
 have kf:KF D ads:=kfOf D rfl
 have ceq:ClsEq D.K ads.cType:=ceqOf D rfl
 have hC:∀ h,D.K.In h->CodeHd h 244 242:=codeOf D rfl
 let z:Cz:=⟨L+1,L+2,L+3,L+4,L+5,L+6,L+7⟩
 let fm:Fm:=⟨ghostOf s.heap [(244,242)],L,s.gens,s.os,lawNs,by decide⟩
 let env:Env:=envOfC (fnName (stmtAt 23)) (fnScope (stmtAt 23)) L fa (.ref 244)
 have hLE:LE fm env z:=⟨rfl,rfl,by rfl⟩
 have hE:EnvOk fm env:=⟨by rfl,rfl,rfl,rfl⟩
 have hRm:Rm 100 (callerA.deeper env):=⟨Nat.le_of_ble_eq_true (by rfl),Nat.le_of_ble_eq_true (by rfl),by rfl,by rfl⟩
 have hP:s.heap.get? 242=some (tabObj #[]):=(hT _ (.head _)).2
 have hPlt:242 < L:=by rw [<- hL]; exact Heap.lt_size hP
 have hlow:sysModules < L:=by rw [<- hL]; exact Nat.lt_of_le_of_lt (by decide) T.g.lt
 have N2:=ghost_news hT F N
 have hnone:∀ n,bindC env.kindOf [("script",.ref sc)] (fun _=>none) n=none:=fun n=>by
  have hk:env.kindOf "script"=some .local:=by rfl
  simp [bindC,hk]
 have Y':CellsAre (bindC env.kindOf [("script",.ref sc)] fun _=>none) [("row",L+7),("names",L+6),("codes_of_x",L+5),("step",L+4),("due",L+3),("start",L+2),("own_one",L+1)] cells:=Y
 obtain ⟨cc,em⟩:=cells_conc (D:=D) (T:=[]) hnone Y'
 replace em:cells.map (·.1)=[L+7,L+6,L+5,L+4,L+3,L+2,L+1]:=em
 let NX:Led:=cells
 have I0:Inv D fm [] { s with heap:=h₁,toks:=tk } ([(L+7,.cell none),(L+6,.cell none),(L+5,.cell none),(L+4,.cell none),(L+3,.cell none),(L+2,.cell none),(L+1,.cell none)]++[(242,.raw (tabObj #[]))]) (some (.ref sc)::List.replicate 26 none):=by
  refine ⟨⟨_,NX++[(242,tabObj #[])],ghost_fr hT F,?_,cc.append (.cons (b:=[_]) (.raw rfl) .nil),N2,?_,fun p hp=>?_⟩,hBase,GOk.refl _,rfl⟩
  ·refine .cons (fun x e=>?_) (LocRel.nones _)
   cases e
   have hk:env.kindOf "script"=some .local:=by rfl
   exact ⟨.ref sc,by unfold bindL; rw [if_pos hk]; simp [bindL],.ref _⟩
  ·rw [List.nil_append,List.map_append,em]
   simp
   exact ⟨fun c0=>(linF (Nat.add_le_add hPlt (Nat.le_of_eq c0)) (by simp +arith)),⟨fun c0=>(linF (Nat.add_le_add hPlt (Nat.le_of_eq c0)) (by simp +arith)),⟨fun c0=>(linF (Nat.add_le_add hPlt (Nat.le_of_eq c0)) (by simp +arith)),⟨fun c0=>(linF (Nat.add_le_add hPlt (Nat.le_of_eq c0)) (by simp +arith)),⟨fun c0=>(linF (Nat.add_le_add hPlt (Nat.le_of_eq c0)) (by simp +arith)),⟨fun c0=>(linF (Nat.add_le_add hPlt (Nat.le_of_eq c0)) (by simp +arith)),fun c0=>(linF (Nat.add_le_add hPlt (Nat.le_of_eq c0)) (by simp +arith))⟩⟩⟩⟩⟩⟩
  ·rcases List.mem_append.mp hp with hp | hp
   ·have hm:p.1∈NX.map (·.1):=List.mem_map_of_mem hp
    rw [em] at hm
    simp only [List.mem_cons,List.not_mem_nil,or_false] at hm
    intro e
    rw [e] at hm
    rcases hm with h | h | h | h | h | h | h <;> exact absurd hlow (by rw [h]; exact Nat.not_lt.mpr (Nat.le_add_right _ _))
   ·rw [List.mem_singleton.mp hp]; decide
 have hbody:=law_body (D:=D) (fm:=fm) (env:=env) (A:=callerA.deeper env) (z:=z) (R:=[]) (sc:=sc) (c:=244) (P:=242) (so:=so) (ws:=ws) (nw:=nw) (is:=is) (Q:=fun fl H' _=>match fl with | .ret x=>x=.bool true/\∃ op,TabO op/\(242,AObj.raw op)∈H' | _=>False) kf ceq hRm hLE (Nat.ne_of_gt hlow) rfl hC (show List.lookup sc (kHeap Pm++[(sc,so)])=some so from hlk) hoc hod (ints_rel hI) hlen fun H' vs' op h1 h2 _=>⟨rfl,op,h1,h2⟩
 refine wpAny_mono ((hbody.run hE [] _ (I0.perm ?_))) (fun fl s' ⟨T',fl',H',vs',st,I',hfl,hq⟩=>?_) (fun _ _ h=>h)
 ·exact (pick [0,5,5,0,3,0,0,0] _)
 ·cases hfl with
  | next=>exact hq.elim
  | brk=>exact hq.elim
  | cont=>exact hq.elim
  | ret hr=>
   obtain ⟨rfl,op,⟨ps,rfl,_⟩,hm⟩:=hq
   cases hr
   exact hR s' (fun b o hb e=>I'.keep b o (ghost_ne e (by simpa using hb))) ⟨ps,I'.rawAt hm⟩ I'.os I'.gens
end Mine
end
section
set_option maxHeartbeats 8000000
namespace Mine
theorem bare_of {g₀ g:Array GenState} (h:GOk g₀ g) (e:g₀=#[]):AllBare g:=fun y hy=>by
 obtain ⟨i,hi,rfl⟩:=Array.getElem_of_mem hy
 exact h.2 i _ (by subst e; exact Nat.zero_le _) (Array.getElem?_eq_getElem hi)
theorem oldK_of {h h':Heap} (hT:TabsAt [(244,242)] h) (hk:∀ b o,b≠242->h.get? b=some o->h'.get? b=some o) (hp:∃ ps,h'.get? 242=some (tabObj ps)):OldK h h':=by
 obtain ⟨ps,hP⟩:=hp
 have hq:=hT _ (.head _)
 refine ⟨fun b o e=>?_,fun b o e=>?_⟩
 ·by_cases hb:b=242
  ·subst hb
   have e2:=hq.2
   rw [e] at e2
   cases e2
   exact .inr (.inl ⟨(hq.1.tab hq.2).isCodeTable,rfl,#[],ps,rfl,by rw [Array.empty_append]; exact hP⟩)
  ·exact .inl (hk b o hb e)
 ·by_cases hb:b=242
  ·exact ⟨_,hb ▸ hP⟩
  ·exact ⟨o,hk b o hb e⟩
theorem said:OpenLaw.wellSaid PySem.Challenge.rw_pb0341_01=true:=by kernel_rfl
theorem go:PySem.Challenge.rw_pb0341_01.Holds:=by
 w_on
 refine holds_law said fun said=>?_
 refine PySem.W.holds_open (q:=view) (loose:=[]) (Xt:=fun s=>xlAt view [] s && recOk (RowW.records (OpenRow.toRowW _)) s) (XP:=XL view []) (Yf:=Hook.obs (kmHook kHeap kAs kAs_ok [242])) (Ya:=Hook.val (kmHook kHeap kAs kAs_ok [242])) (YP:=Hook.says (kmHook kHeap kAs kAs_ok [242])) (N:=3464) hl (Hook.of _) (Hook.keeps _) (fun s e=>xl_of s (Bool.and_eq_true_iff.mp e).1) XL.keeps (by rfl) (by rfl) (by rfl) (fun s e=>recFacts_of (Bool.and_eq_true_iff.mp e).2) (by rfl) (by first | assumption | decide +kernel) (by decide +kernel) ⟨rfl,rfl,rfl,rfl,rfl,by decide +kernel⟩ ?hw ?hc
 case hw=>w_witness2
 case hc=>
  w_strict (
 intro w s₀ s₁ mg mb G Y fa o pm cd doc dV kV ho hd hcd hD hmg hg args vals as hpre hlay hrd hwl hlo
 have KX:=km_in_of Y
 km_tabs Y
 have X:=(Ground.X G).1
 have V:=(Ground.X G).2
 refine Ground.open G ?_
 intro T B D TE TW
 try (refine guard_noD D (by decide +kernel) ?_; clear D)
 have hT9:TabsAt [(244,242)] s₁.heap:=fun q hq=>by
  cases List.mem_singleton.mp hq
  exact ⟨codeHd_of_K KX (by kernel_rfl),hT8 242 (.head _)⟩
 have he9:cd=PySem.Value.ref 244:=law_code (x:=PySem.Str.ofString "law") (c:=244) (P:=242) KX (Top.g T) (by kernel_rfl) hmg ho hd
 subst he9
 clear hmg
 wrow_args hpre hlay hrd hwl hlo
 all_goals (
  first | refine callC_kw (enter_call ?_) | refine enter_call ?_
  rename Heap.IsList _ _ _=>hl
  rename IntsAre _ _=>hI
  obtain ⟨so,hsc,hoc,nw,hod⟩:=hl
  have he:=Dflts.none hD rfl
  subst he
  have he:=Dflts.noKw hD
  subst he
  refine law_enter KX hT9 T ho (fd_plain hd) hcd hsc hoc hod hI ?_ fun s' h1 h2 h3 h4=>⟨.inl ⟨.bool true,.bool true,[],rfl,fun _=>rfl,.bool _,?_,fun _=>⟨.nil,fun a h=>by cases h⟩⟩,oldK_of hT9 h1 h2,h3,bare_of h4 hg⟩
  ·have:∀ n:Nat,¬ ((63:Int) < (n:Int))->n<=2 ^ 20:=fun n h=>by omega
   exact this _ (by assumption)
  ·first | wrow_post | rfl))
end Mine
end
theorem PySem.Challenge.cw_pb0341_01_holds : PySem.Challenge.rw_pb0341_01.Holds :=
  Mine.go
