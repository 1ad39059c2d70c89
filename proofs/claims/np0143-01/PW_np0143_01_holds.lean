import PyProof.Rows.All
import Wide.All
import OpenK.AllK
import Wide.FinOn
import OpenK.KMeth
import PyProof.NoPylong
import PyProof.Rows.ListMul
import PyProof.ListTruth
import OpenK.KNot
import PyProof.IsInstanceT
import PyProof.FitsReplace
import PySem.Challenge.RW_np0143_01
open PySem PySem.W PySem.Calls PyProof.Rows
set_option Elab.async false
set_option maxRecDepth 100000
set_option autoImplicit false
set_option linter.all false
namespace T
noncomputable def sOf (x:List Nat):Str:=⟨⟨x⟩⟩
theorem leL {a b c:Nat} (h:a≤b) (e:Nat.ble b c=true):a≤c:=Nat.le_trans h (Nat.le_of_ble_eq_true e)
theorem ltL {a b c:Nat} (h:a < b) (e:Nat.ble b c=true):a < c:=Nat.lt_of_lt_of_le h (Nat.le_of_ble_eq_true e)
theorem leP {a b c k:Nat} (h:a≤b) (e:Nat.ble (b+k) c=true):a+k≤c:=Nat.le_trans (Nat.add_le_add_right h k) (Nat.le_of_ble_eq_true e)
noncomputable def nseq:List Nat→List Nat→Bool
  | [],b=>(match b with
    | []=>true
    | _::_=>false)
  | a::r,b=>(match b with
    | []=>false
    | x::t=>cond (Nat.beq a x) (nseq r t) false)
theorem nseq_iff {a:List Nat}:∀ {b:List Nat},nseq a b=true ↔ a=b:=by
  induction a with
  | nil=>intro b;cases b with
    | nil=>exact ⟨fun _=>rfl,fun _=>rfl⟩
    | cons y t=>exact ⟨nofun,nofun⟩
  | cons x r ih=>intro b;cases b with
    | nil=>exact ⟨nofun,nofun⟩
    | cons y t =>
      show cond (Nat.beq x y) (nseq r t) false=true ↔ _
      cases h:Nat.beq x y with
      | true=>rw [Nat.eq_of_beq_eq_true h];exact ih.trans ⟨congrArg _,fun e=>(List.cons.inj e).2⟩
      | false=>exact ⟨nofun,fun e=>absurd (List.cons.inj e).1 (Nat.ne_of_beq_eq_false h)⟩
noncomputable def seq (a b:Str):Bool:=nseq a.cps.toList b.cps.toList
theorem seq_iff {a b:Str}:seq a b=true ↔ a=b:=by
  unfold seq
  rw [nseq_iff]
  cases a;cases b
  simp only [Str.mk.injEq]
  exact Array.toList_inj
theorem seq_beq (a b:Str):seq a b=(a == b):=by
  rw [Bool.eq_iff_iff,seq_iff,beq_iff_eq]
theorem seq_dec (a b:Str):seq a b=decide (a=b):=by
  rw [Bool.eq_iff_iff,seq_iff,decide_eq_true_eq]
noncomputable def lk {β:Type}:List (Str × β)→Str→Option β
  | [],_=>none
  | p::r,x=>cond (seq x p.1) (some p.2) (lk r x)
theorem lk_eq {β:Type} (l:List (Str × β)) (x:Str):lk l x=l.lookup x:=by
  induction l with
  | nil=>rfl
  | cons p r ih =>
    show cond (seq x p.1) (some p.2) (lk r x)=_
    rw [List.lookup_cons,← seq_beq,ih]
    cases seq x p.1<;>rfl
inductive BI where
  | len | isinstance | max | sorted | append | pop | index | dget | dpop | join | excInit
  deriving DecidableEq,Inhabited
noncomputable def BI.id:BI→String
  | .len => "len" | .isinstance => "isinstance" | .max => "max" | .sorted => "sorted" | .append => "list.append" | .pop => "list.pop" | .index => "list.index"
  | .dget => "dict.get" | .dpop => "dict.pop" | .join => "str.join" | .excInit => "Exception.__init__"
inductive TI where
  | str | range | exception | tuple
  deriving DecidableEq,Inhabited
noncomputable def TI.id:TI→String
  | .str => "str" | .range => "range" | .exception => "Exception" | .tuple => "tuple"
inductive AV where
  | none
  | bool (b:Bool)
  | int (i:Int)
  | si (i:Int)
  | str (s:Str)
  | ss (s:Str)
  | ref (a:Addr)
  | typ (n:TI)
  | bi (n:BI)
  | mut (i:Nat)
  | inst (C:Addr) (d:Nat)
  | tup (vs:List AV)
  | fl (vs:List AV)
  | fd (es:List (Str × AV))
  | fi (C:Addr) (fs:List (Str × AV))
  | any
  | sl (vs:List AV)
  | op (v:AV)
  | rg (a:Int) (n:Nat)
  deriving Inhabited
noncomputable abbrev BK:=Str × Bool × Str
noncomputable def allF {α:Type} (f:α→Bool):List α→Bool
  | []=>true
  | x::r=>cond (f x) (allF f r) false
theorem allF_iff {α:Type} {f:α→Bool} {l:List α}:allF f l=true ↔ ∀ x∈l,f x=true:=by
  induction l with
  | nil=>exact ⟨fun _ _ m=>(nomatch m),fun _=>rfl⟩
  | cons x r ih =>
    rw [List.forall_mem_cons,← ih]
    show cond (f x) (allF f r) false=true ↔ _
    cases f x with
    | true=>exact ⟨fun h=>⟨rfl,h⟩,And.right⟩
    | false=>exact ⟨nofun,fun h=>h.1⟩
noncomputable def clF:Nat→AV→Bool
  | 0,_=>false
  | k+1,v=>match v with
    | .mut _=>false
    | .inst _ _=>false
    | .tup vs=>allF (clF k) vs
    | .fl vs=>allF (clF k) vs
    | .fd es=>allF (fun e=>clF k e.2) es
    | .fi _ es=>allF (fun e=>clF k e.2) es
    | _=>true
noncomputable def Cl (v:AV):Prop:=∃ k,clF k v=true
inductive AObj where
  | gone
  | list (sym:Bool) (vs:List AV)
  | ed
  | sd (sym:Bool) (es:List (Str × AV))
  | nd (es:List (Int × AV))
  | bd (es:List (BK × AV))
  | kd (ks:List Str) (tab:List (Str × AV))
  | exc (C:Addr) (d:Option Nat) (tr:Bool)
  | raw (o:Obj)
  deriving Inhabited
structure Cc where
  G:Addr→Option Obj
  F:Addr→Option Obj
  r:List Addr
  tb:List Addr
  w:World
noncomputable def Cc.has (c:Cc) (a:Addr) (o:Obj):Prop:=c.G a=some o∨c.F a=some o
noncomputable def Cc.free (c:Cc) (a:Addr):Prop:=c.G a=none∧c.F a=none
theorem Cc.free.no {c:Cc} {a:Addr} {o:Obj} (h:c.free a):¬ c.has a o:=fun e=>by
  rcases e with e | e
  · rw [h.1] at e;cases e
  · rw [h.2] at e;cases e
noncomputable abbrev tupObj (vs:Array Value):Obj:={cls:=.type "tuple",data:=.seq vs}
noncomputable abbrev listObj (vs:Array Value) (n:Nat):Obj:={cls:=.type "list",data:=.seq vs n}
noncomputable abbrev dictObj (es:Array DictEntry) (n:Nat):Obj:={cls:=.type "dict",data:=.dict es n}
mutual
inductive VRel (c:Cc):AV→Value→Prop
  | none:VRel c .none .none
  | bool (b):VRel c (.bool b) (.bool b)
  | int (i t):VRel c (.int i) (.int i t)
  | si (i t):VRel c (.si i) (.int i t)
  | str (s t):VRel c (.str s) (.str s t)
  | ss (s t):VRel c (.ss s) (.str s t)
  | ref (a):VRel c (.ref a) (.ref a)
  | typ (n):VRel c (.typ n) (.type n.id)
  | bi (n):VRel c (.bi n) (.builtin n.id)
  | mut {i a}:c.r[i]?=some a→VRel c (.mut i) (.ref a)
  | inst {C d x dx}:c.r[d]?=some dx→c.G x=some (instObj C dx)→VRel c (.inst C d) (.ref x)
  | tup {vs a vals}:c.G a=some (tupObj vals)→VRels c vs vals.toList→VRel c (.tup vs) (.ref a)
  | fl {vs a vals n}:c.G a=some (listObj vals n)→VRels c vs vals.toList→VRel c (.fl vs) (.ref a)
  | fd {es a ens n}:c.G a=some (dictObj ens n)→SRels c es ens.toList→(a == sysModules)=false→VRel c (.fd es) (.ref a)
  | fi {C fs x dx ens n}:c.G x=some (instObj C dx)→c.G dx=some (dictObj ens n)→SRels c fs ens.toList→VRel c (.fi C fs) (.ref x)
  | any (v):VRel c .any v
  | sl {vs a vals n}:c.G a=some (listObj vals n)→VRels c vs vals.toList→(∀ v∈vs,Cl v)→VRel c (.sl vs) (.ref a)
  | op {v x}:VRel c v x→Cl v→VRel c (.op v) x
  | rg {a n t u v x}:c.G x=some {cls:=.type "range",dict:=none,data:=.fields #[.int a t,.int (a+(n:Nat)) u,.int 1 v],slots:=#[]}→VRel c (.rg a n) (.ref x)
inductive VRels (c:Cc):List AV→List Value→Prop
  | nil:VRels c [] []
  | cons {a v as vs}:VRel c a v→VRels c as vs→VRels c (a::as) (v::vs)
inductive SRels (c:Cc):List (Str × AV)→List DictEntry→Prop
  | nil:SRels c [] []
  | cons {k a e es ens t}:e.hash=hashStr c.w k→e.key=.str k t→VRel c a e.val→SRels c es ens→SRels c ((k,a)::es) (e::ens)
end
inductive NRels (c:Cc):List (Int × AV)→List DictEntry→Prop
  | nil:NRels c [] []
  | cons {k a e es ens t}:e.hash=hashInt k→e.key=.int k t→VRel c a e.val→NRels c es ens→NRels c ((k,a)::es) (e::ens)
inductive BRels (c:Cc) (hb:BK→Int):List (BK × AV)→List DictEntry→Prop
  | nil:BRels c hb [] []
  | cons {k a e es ens x vals t1 t2}:e.hash=hb k→e.key=.ref x→c.G x=some (tupObj vals)→vals.toList=[.str k.1 t1,.bool k.2.1,.str k.2.2 t2]→VRel c a e.val→BRels c hb es ens→BRels c hb ((k,a)::es) (e::ens)
structure Ext (c c':Cc):Prop where
  G:∀ a o,c.G a=some o→c'.G a=some o
  r:∀ (i:Nat) (a:Addr),c.r[i]?=some a→c'.r[i]?=some a
  tb:∀ a,a∈c.tb→a∈c'.tb
  w:c'.w=c.w
  F:c'.F=c.F
theorem Ext.refl (c:Cc):Ext c c:=⟨fun _ _ e=>e,fun _ _ e=>e,fun _ e=>e,rfl,rfl⟩
theorem Ext.trans {a b c:Cc} (x:Ext a b) (y:Ext b c):Ext a c :=
  ⟨fun u o e=>y.G u o (x.G u o e),fun u o e=>y.r u o (x.r u o e),fun u e=>y.tb u (x.tb u e),y.w.trans x.w,y.F.trans x.F⟩
structure Sub (c c':Cc):Prop where
  G:∀ a o,c.G a=some o→c'.G a=some o
  r:∀ (i:Nat) (a:Addr),c.r[i]?=some a→c'.r[i]?=some a
  tb:∀ a,a∈c.tb→a∈c'.tb
  w:c'.w=c.w
theorem Ext.sub {c c':Cc} (x:Ext c c'):Sub c c':=⟨x.G,x.r,x.tb,x.w⟩
theorem VRel.sub {c c':Cc} (x:Sub c c') {a:AV} {v:Value} (h:VRel c a v):VRel c' a v :=
  VRel.rec (motive_1:=fun a v _=>VRel c' a v) (motive_2:=fun a v _=>VRels c' a v) (motive_3:=fun a v _=>SRels c' a v) .none .bool .int .si .str .ss .ref .typ .bi (fun h=>.mut (x.r _ _ h)) (fun h g=>.inst (x.r _ _ h) (x.G _ _ g)) (fun g _ h=>.tup (x.G _ _ g) h) (fun g _ h=>.fl (x.G _ _ g) h)
    (fun g _ k h=>.fd (x.G _ _ g) h k) (fun g g' _ h=>.fi (x.G _ _ g) (x.G _ _ g') h) .any (fun g _ k h=>.sl (x.G _ _ g) h k) (fun _ k h=>.op h k) (fun g=>.rg (x.G _ _ g)) .nil (fun _ _ h t=>.cons h t) .nil (fun h k _ _ v t=>.cons (by rw [x.w];exact h) k v t) h
theorem VRels.sub {c c':Cc} (x:Sub c c') {a:List AV} {v:List Value} (h:VRels c a v):VRels c' a v :=
  VRels.rec (motive_1:=fun a v _=>VRel c' a v) (motive_2:=fun a v _=>VRels c' a v) (motive_3:=fun a v _=>SRels c' a v) .none .bool .int .si .str .ss .ref .typ .bi (fun h=>.mut (x.r _ _ h)) (fun h g=>.inst (x.r _ _ h) (x.G _ _ g)) (fun g _ h=>.tup (x.G _ _ g) h) (fun g _ h=>.fl (x.G _ _ g) h)
    (fun g _ k h=>.fd (x.G _ _ g) h k) (fun g g' _ h=>.fi (x.G _ _ g) (x.G _ _ g') h) .any (fun g _ k h=>.sl (x.G _ _ g) h k) (fun _ k h=>.op h k) (fun g=>.rg (x.G _ _ g)) .nil (fun _ _ h t=>.cons h t) .nil (fun h k _ _ v t=>.cons (by rw [x.w];exact h) k v t) h
theorem SRels.sub {c c':Cc} (x:Sub c c') {a:List (Str × AV)} {v:List DictEntry} (h:SRels c a v):SRels c' a v :=
  SRels.rec (motive_1:=fun a v _=>VRel c' a v) (motive_2:=fun a v _=>VRels c' a v) (motive_3:=fun a v _=>SRels c' a v) .none .bool .int .si .str .ss .ref .typ .bi (fun h=>.mut (x.r _ _ h)) (fun h g=>.inst (x.r _ _ h) (x.G _ _ g)) (fun g _ h=>.tup (x.G _ _ g) h) (fun g _ h=>.fl (x.G _ _ g) h)
    (fun g _ k h=>.fd (x.G _ _ g) h k) (fun g g' _ h=>.fi (x.G _ _ g) (x.G _ _ g') h) .any (fun g _ k h=>.sl (x.G _ _ g) h k) (fun _ k h=>.op h k) (fun g=>.rg (x.G _ _ g)) .nil (fun _ _ h t=>.cons h t) .nil (fun h k _ _ v t=>.cons (by rw [x.w];exact h) k v t) h
theorem VRel.mono {c c':Cc} (x:Ext c c') {a:AV} {v:Value} (h:VRel c a v):VRel c' a v:=h.sub x.sub
theorem VRels.mono {c c':Cc} (x:Ext c c') {a:List AV} {v:List Value} (h:VRels c a v):VRels c' a v:=h.sub x.sub
theorem SRels.mono {c c':Cc} (x:Ext c c') {a:List (Str × AV)} {v:List DictEntry} (h:SRels c a v):SRels c' a v:=h.sub x.sub
noncomputable def VE (c:Cc) (G:Value→Prop):AV→Prop
  | .none=>G .none
  | .bool b=>G (.bool b)
  | .int i=>∀ t,G (.int i t)
  | .si i=>∀ t,G (.int i t)
  | .str s=>∀ t,G (.str s t)
  | .ss s=>∀ t,G (.str s t)
  | .ref a=>G (.ref a)
  | .typ n=>G (.type n.id)
  | .bi n=>G (.builtin n.id)
  | .mut i=>∀ a,c.r[i]?=some a→G (.ref a)
  | .inst C d=>∀ x dx,c.r[d]?=some dx→c.G x=some (instObj C dx)→G (.ref x)
  | .tup vs=>∀ a vals,c.G a=some (tupObj vals)→VRels c vs vals.toList→G (.ref a)
  | .fl vs=>∀ a vals n,c.G a=some (listObj vals n)→VRels c vs vals.toList→G (.ref a)
  | .fd es=>∀ a ens n,c.G a=some (dictObj ens n)→SRels c es ens.toList→(a == sysModules)=false→G (.ref a)
  | .fi C fs=>∀ x dx ens n,c.G x=some (instObj C dx)→c.G dx=some (dictObj ens n)→SRels c fs ens.toList→G (.ref x)
  | .any=>∀ v,G v
  | .sl vs=>∀ a vals n,c.G a=some (listObj vals n)→VRels c vs vals.toList→(∀ v∈vs,Cl v)→G (.ref a)
  | .op v=>∀ x,VRel c v x→Cl v→G x
  | .rg a n=>∀ x t u v,c.G x=some {cls:=.type "range",dict:=none,data:=.fields #[.int a t,.int (a+(n:Nat)) u,.int 1 v],slots:=#[]}→G (.ref x)
theorem VRel.elim {c:Cc} {a:AV} {v:Value} {G:Value→Prop} (h:VRel c a v):VE c G a→G v :=
  VRel.casesOn (motive_1:=fun a v _=>VE c G a→G v) h id (fun _=>id) (fun _ t k=>k t) (fun _ t k=>k t) (fun _ t k=>k t) (fun _ t k=>k t) (fun _=>id) (fun _=>id) (fun _=>id) (fun e k=>k _ e) (fun e f k=>k _ _ e f) (fun e f k=>k _ _ e f) (fun e f k=>k _ _ _ e f)
    (fun e f x k=>k _ _ _ e f x) (fun e f x k=>k _ _ _ _ e f x) (fun v k=>k v) (fun e f x k=>k _ _ _ e f x) (fun e f k=>k _ e f) (fun e k=>k _ _ _ _ e)
theorem VRels.nilE {c:Cc} {vs:List Value} {G:List Value→Prop} (h:VRels c [] vs) (k:G []):G vs:=by cases h;exact k
theorem VRels.consE {c:Cc} {a:AV} {as:List AV} {vs:List Value} {G:List Value→Prop} (h:VRels c (a::as) vs) (k:∀ x xs,VRel c a x→VRels c as xs→G (x::xs)):G vs:=by cases h with | cons h t=>exact k _ _ h t
theorem VRels.ind {c:Cc} {P:List AV→List Value→Prop} (h0:P [] []) (hc:∀ a as x xs,VRel c a x→VRels c as xs→P as xs→P (a::as) (x::xs)):∀ {as:List AV} {xs:List Value},VRels c as xs→P as xs:=by
  intro as
  induction as with
  | nil=>exact fun h=>h.nilE h0
  | cons a r ih=>exact fun h=>h.consE fun x xs h t=>hc a r x xs h t (ih t)
theorem SRels.nilE {c:Cc} {vs:List DictEntry} {G:List DictEntry→Prop} (h:SRels c [] vs) (k:G []):G vs:=by cases h;exact k
theorem SRels.consE {c:Cc} {p:Str × AV} {es:List (Str × AV)} {vs:List DictEntry} {G:List DictEntry→Prop} (h:SRels c (p::es) vs) (k:∀ e ens t,e.hash=hashStr c.w p.1→e.key=.str p.1 t→VRel c p.2 e.val→SRels c es ens→G (e::ens)):G vs:=by cases h with | cons h1 h2 h3 h4=>exact k _ _ _ h1 h2 h3 h4
theorem SRels.ind {c:Cc} {P:List (Str × AV)→List DictEntry→Prop} (h0:P [] []) (hc:∀ p es e ens t,e.hash=hashStr c.w p.1→e.key=.str p.1 t→VRel c p.2 e.val→SRels c es ens→P es ens→P (p::es) (e::ens)) :
    ∀ {es:List (Str × AV)} {ens:List DictEntry},SRels c es ens→P es ens:=by
  intro es
  induction es with
  | nil=>exact fun h=>h.nilE h0
  | cons p r ih=>exact fun h=>h.consE fun e ens t h1 h2 h3 h4=>hc p r e ens t h1 h2 h3 h4 (ih h4)
theorem NRels.sub {c c':Cc} (x:Sub c c') {a:List (Int × AV)} {v:List DictEntry} (h:NRels c a v):NRels c' a v:=by
  induction h with
  | nil=>exact .nil
  | cons h k v _ ih=>exact .cons h k (v.sub x) ih
theorem BRels.sub {c c':Cc} {hb} (x:Sub c c') {a:List (BK × AV)} {v:List DictEntry} (h:BRels c hb a v):BRels c' hb a v:=by
  induction h with
  | nil=>exact .nil
  | cons h k g e v _ ih=>exact .cons h k (x.G _ _ g) e (v.sub x) ih
noncomputable def kdE (ks:List Str) (tab:List (Str × AV)):List (Str × AV):=ks.map fun k=>(k,(lk tab k).getD .any)
noncomputable def ORel (hb:World→BK→Int) (c:Cc):AObj→Obj→Prop
  | .gone,_=>True
  | .list sy vs,o=>∃ vals n,o=listObj vals n∧VRels c vs vals.toList∧(sy=true→∀ v∈vs,Cl v)
  | .ed,o=>∃ n,o=dictObj #[] n
  | .sd _ es,o=>∃ ens n,o=dictObj ens n∧SRels c es ens.toList
  | .nd es,o=>∃ ens n,o=dictObj ens n∧NRels c es ens.toList∧∀ e∈es,Cl e.2
  | .bd es,o=>∃ ens n,o=dictObj ens n∧BRels c (hb c.w) es ens.toList∧(∀ e∈es,Cl e.2)∧(es.map (·.1)).Nodup
  | .kd ks tab,o=>∃ ens n,o=dictObj ens n∧SRels c (kdE ks tab) ens.toList
  | .exc C d tr,o=>o.cls=.ref C∧(match d with | none=>o.dict=none | some i=>∃ a,c.r[i]?=some a∧o.dict=some a) ∧
      ∃ vs,o.data=.fields vs∧6≤vs.size∧((tr=false∧vs[1]?=some .none)∨∃ t,vs[1]?=some (.ref t)∧t∈c.tb)∧vs[2]?=some .none
  | .raw o',o=>o=o'
theorem ORel.sub {hb} {c c':Cc} (x:Sub c c') {a:AObj} {o:Obj} (h:ORel hb c a o):ORel hb c' a o:=by
  cases a with
  | gone=>trivial
  | list s vs=>obtain ⟨vals,n,rfl,r,k⟩:=h;exact ⟨vals,n,rfl,r.sub x,k⟩
  | ed=>exact h
  | sd s es=>obtain ⟨ens,n,rfl,r⟩:=h;exact ⟨ens,n,rfl,r.sub x⟩
  | nd es=>obtain ⟨ens,n,rfl,r,k⟩:=h;exact ⟨ens,n,rfl,r.sub x,k⟩
  | bd es=>obtain ⟨ens,n,rfl,r,k⟩:=h;exact ⟨ens,n,rfl,by rw [x.w];exact r.sub x,k⟩
  | kd ks tab=>obtain ⟨ens,n,rfl,r⟩:=h;exact ⟨ens,n,rfl,r.sub x⟩
  | exc C d tr =>
    obtain ⟨h1,h2,vs,h3,h4,h5,h6⟩:=h
    refine ⟨h1,?_,vs,h3,h4,h5.imp id fun ⟨t,a,b⟩=>⟨t,a,x.tb _ b⟩,h6⟩
    cases d with
    | none=>exact h2
    | some i=>obtain ⟨a,p,q⟩:=h2;exact ⟨a,x.r _ _ p,q⟩
  | raw o'=>exact h
theorem NRels.mono {c c':Cc} (x:Ext c c') {a:List (Int × AV)} {v:List DictEntry} (h:NRels c a v):NRels c' a v:=h.sub x.sub
theorem BRels.mono {c c':Cc} {hb} (x:Ext c c') {a:List (BK × AV)} {v:List DictEntry} (h:BRels c hb a v):BRels c' hb a v:=h.sub x.sub
theorem ORel.mono {hb} {c c':Cc} (x:Ext c c') {a:AObj} {o:Obj} (h:ORel hb c a o):ORel hb c' a o:=h.sub x.sub
noncomputable abbrev Fm:=Addr × (Str→Option Value)
structure St (hb:World→BK→Int) (c:Cc) (σ:List AObj) (fs:List Fm) (h:Heap):Prop where
  keep:∀ a o,c.has a o→h.get? a=some o
  len:c.r.length=σ.length
  mem:∀ (i:Nat) (a:Addr),c.r[i]?=some a→∃ o,h.get? a=some o∧∀ b:AObj,σ[i]?=some b→ORel hb c b o
  fr:∀ f∈fs,h.Ns f.1 f.2
  nd:(fs.map (·.1)++c.r).Nodup
  sep:∀ a∈fs.map (·.1)++c.r,c.free a
  tbs:∀ t∈c.tb,t ∉ fs.map (·.1)++c.r∧c.free t∧∃ o ts,h.get? t=some o∧o.data=.fields ts∧4≤ts.size
  disj:∀ a o,c.G a=some o→c.F a=none
section
variable {hb:World→BK→Int} {c:Cc} {σ:List AObj} {fs:List Fm} {h h':Heap}
theorem St.frLt (S:St hb c σ fs h) {a:Addr} (m:a∈fs.map (·.1)++c.r):a < h.objs.size:=by
  rcases List.mem_append.mp m with m | m
  · obtain ⟨f,hf,rfl⟩:=List.mem_map.mp m;exact (S.fr f hf).lt
  · obtain ⟨i,hi⟩:=List.mem_iff_getElem?.mp m
    obtain ⟨o,ho,_⟩:=S.mem i a hi;exact Heap.lt_size ho
theorem St.gNone (S:St hb c σ fs h):c.free h.objs.size:=by
  constructor
  · cases q:c.G h.objs.size with
    | none=>rfl
    | some o=>exact absurd (Heap.lt_size (S.keep _ _ (.inl q))) (Nat.lt_irrefl _)
  · cases q:c.F h.objs.size with
    | none=>rfl
    | some o=>exact absurd (Heap.lt_size (S.keep _ _ (.inr q))) (Nat.lt_irrefl _)
theorem St.tbLt (S:St hb c σ fs h) {t:Addr} (m:t∈c.tb):t < h.objs.size:=by
  obtain ⟨_,_,o,ts,ho,_⟩:=S.tbs t m;exact Heap.lt_size ho
theorem St.grow (S:St hb c σ fs h) (k:∀ b o,h.get? b=some o→h'.get? b=some o):St hb c σ fs h' :=
  ⟨fun a o e=>k _ _ (S.keep a o e),S.len,fun i a e=>let ⟨o,p,q⟩:=S.mem i a e;⟨o,k _ _ p,q⟩,fun f m=>(S.fr f m).keeps k,S.nd,S.sep,
   fun t m=>let ⟨a,b,o,ts,p,q⟩:=S.tbs t m;⟨a,b,o,ts,k _ _ p,q⟩,S.disj⟩
noncomputable def Cc.addR (c:Cc) (a:Addr):Cc:={c with r:=c.r++[a]}
noncomputable def Cc.addG (c:Cc) (a:Addr) (o:Obj):Cc:={c with G:=fun b=>if b=a then some o else c.G b}
theorem Ext.addR (c:Cc) (a:Addr):Ext c (c.addR a) :=
  ⟨fun _ _ e=>e,fun i b e=>by
    show (c.r++[a])[i]?=_
    rw [List.getElem?_append_left (List.getElem?_eq_some_iff.mp e).1];exact e,fun _ e=>e,rfl,rfl⟩
theorem Ext.addG {c:Cc} {a:Addr} (o:Obj) (n:c.free a):Ext c (c.addG a o) :=
  ⟨fun b o' e=>by
    show (if b=a then some o else c.G b)=_
    rw [if_neg (fun q=>by rw [q,n.1] at e;cases e)];exact e,fun _ _ e=>e,fun _ e=>e,rfl,rfl⟩
theorem addG_ne {c:Cc} {a b:Addr} {o:Obj} (h:b ≠ a):(c.addG a o).G b=c.G b:=if_neg h
theorem addG_eq {c:Cc} {a b:Addr} {o o':Obj} (e:(c.addG a o).G b=some o'):(b=a∧o=o')∨c.G b=some o':=by
  by_cases q:b=a
  · exact .inl ⟨q,Option.some.inj ((if_pos q:(c.addG a o).G b=some o).symm.trans e)⟩
  · exact .inr ((addG_ne q).symm.trans e)
theorem St.claimG (S:St hb c σ fs h) {a:Addr} {o:Obj} (h1:a ∉ fs.map (·.1)++c.r) (h2:a ∉ c.tb) (h3:c.free a) (ho:h.get? a=some o):St hb (c.addG a o) σ fs h :=
  ⟨fun b _ e=>e.elim (fun e=>(addG_eq e).elim (fun q=>q.1▸q.2▸ho) fun e=>S.keep b _ (.inl e)) fun e=>S.keep b _ (.inr e),S.len,
    fun i b e=>(S.mem i b e).imp fun _ q=>⟨q.1,fun b hb=>(q.2 b hb).mono (Ext.addG o h3)⟩,S.fr,S.nd,fun b m=>⟨(addG_ne fun z:b=a=>h1 (z▸m)).trans (S.sep b m).1,(S.sep b m).2⟩,
    fun t m=>⟨(S.tbs t m).1,⟨(addG_ne fun z:t=a=>h2 (z▸m)).trans (S.tbs t m).2.1.1,(S.tbs t m).2.1.2⟩,(S.tbs t m).2.2⟩,fun b _ e=>(addG_eq e).elim (fun q=>q.1▸h3.2) fun e=>S.disj b _ e⟩
theorem get_concat {α:Type} {l:List α} {a b:α} {i:Nat} (e:(l++[a])[i]?=some b):(i < l.length∧l[i]?=some b)∨(i=l.length∧b=a):=by
  rcases Nat.lt_trichotomy i l.length with q | q | q
  · exact .inl ⟨q,(List.getElem?_append_left q).symm.trans e⟩
  · rw [q,List.getElem?_concat_length] at e
    exact .inr ⟨q,(Option.some.inj e).symm⟩
  · rw [List.getElem?_eq_none (by rw [List.length_append];exact q)] at e
    cases e
theorem St.claimR (S:St hb c σ fs h) {a:Addr} {o:Obj} {b:AObj} (h1:a ∉ fs.map (·.1)++c.r) (h2:a ∉ c.tb) (h3:c.free a) (ho:h.get? a=some o) (r:ORel hb (c.addR a) b o):St hb (c.addR a) (σ++[b]) fs h:=by
  have el:∀ x,x∈fs.map (·.1)++(c.r++[a])→x∈fs.map (·.1)++c.r∨x=a:=fun x m=>by
    rw [← List.append_assoc] at m
    exact (List.mem_append.mp m).imp id List.mem_singleton.mp
  refine ⟨S.keep,by show (c.r++[a]).length=_;rw [List.length_append,List.length_append,S.len];rfl,fun i x e=>?_,S.fr,?_,fun x m=>(el x m).elim (S.sep x) fun q=>q▸h3,fun t m=>⟨fun m'=>(el t m').elim (S.tbs t m).1 fun q=>h2 (q▸m),(S.tbs t m).2⟩,S.disj⟩
  · rcases get_concat e with ⟨l,e⟩ | ⟨l,e⟩
    · obtain ⟨o',p,q⟩:=S.mem i x e
      exact ⟨o',p,fun b' hb'=>(q b' ((get_concat hb').elim And.right fun z=>absurd (S.len.trans z.1.symm) (Nat.ne_of_gt l))).mono (Ext.addR c _)⟩
    · exact ⟨o,e▸ho,fun b' hb'=>(get_concat hb').elim (fun z=>absurd (l.trans S.len) (Nat.ne_of_lt z.1)) fun z=>z.2▸r⟩
  · show (fs.map (·.1)++(c.r++[a])).Nodup
    rw [← List.append_assoc]
    exact List.nodup_append.mpr ⟨S.nd,List.pairwise_singleton ..,fun x hx y hy e=>h1 (List.mem_singleton.mp hy▸e▸hx)⟩
theorem St.endOut (S:St hb c σ fs h):h.objs.size ∉ fs.map (·.1)++c.r:=fun m=>absurd (S.frLt m) (Nat.lt_irrefl _)
theorem St.endTb (S:St hb c σ fs h):h.objs.size ∉ c.tb:=fun m=>absurd (S.tbLt m) (Nat.lt_irrefl _)
theorem St.newMut (S:St hb c σ fs h) {o:Obj} {b:AObj} (k:∀ b o,h.get? b=some o→h'.get? b=some o) (ho:h'.get? h.objs.size=some o) (r:ORel hb (c.addR h.objs.size) b o) :
    St hb (c.addR h.objs.size) (σ++[b]) fs h':=(S.grow k).claimR S.endOut S.endTb S.gNone ho r
theorem St.newImm (S:St hb c σ fs h) {o:Obj} (k:∀ b o,h.get? b=some o→h'.get? b=some o) (ho:h'.get? h.objs.size=some o) :
    St hb (c.addG h.objs.size o) σ fs h':=(S.grow k).claimG S.endOut S.endTb S.gNone ho
theorem St.upd (S:St hb c σ fs h) {i:Nat} {a:Addr} {o:Obj} {b:AObj} (ha:c.r[i]?=some a) (hs:Heap.SameBut a h h') (ho:h'.get? a=some o) (r:ORel hb c b o):St hb c (σ.set i b) fs h':=by
  have am:a∈c.r:=List.mem_of_getElem? ha
  have ne:∀ (j:Nat) (x:Addr),c.r[j]?=some x→x=a→j=i:=fun j x e q=>by
    subst q
    exact (List.getElem?_inj (List.getElem?_eq_some_iff.mp e).1 ((List.nodup_append.mp S.nd).2.1)).mp (e.trans ha.symm)
  refine ⟨fun x o' e=>?_,by simp [S.len],fun j x e=>?_,fun f m=>?_,S.nd,S.sep,fun t m=>?_,S.disj⟩
  · refine (hs.2 x fun q=>?_).trans (S.keep x o' e)
    subst q;exact absurd e (S.sep x (List.mem_append_right _ am)).no
  · by_cases q:x=a
    · have:=ne j x e q
      subst q this
      refine ⟨o,ho,fun b' hb'=>?_⟩
      rw [List.getElem?_set_self' ] at hb'
      cases z:σ[j]? with
      | none=>rw [z] at hb';cases hb'
      | some y=>rw [z] at hb';cases hb';exact r
    · obtain ⟨o',p,z⟩:=S.mem j x e
      refine ⟨o',(hs.2 x q).trans p,fun b' hb'=>z b' ?_⟩
      rw [List.getElem?_set_ne] at hb'
      · exact hb'
      · intro w;subst w;rw [ha] at e;cases e;exact q rfl
  · refine (S.fr f m).sameBut hs fun q=>?_
    exact absurd rfl ((List.nodup_append.mp S.nd).2.2 f.1 (List.mem_map_of_mem m) a am |> fun z=>q▸z)
  · obtain ⟨p,q,o',ts,u,v⟩:=S.tbs t m
    exact ⟨p,q,o',ts,(hs.2 t fun z=>p (List.mem_append_right _ (z▸am))).trans u,v⟩
theorem St.store {L:Addr} {m m':Str→Option Value} (S:St hb c σ ((L,m)::fs) h) (hs:Heap.SameBut L h h') (hn:h'.Ns L m'):St hb c σ ((L,m')::fs) h':=by
  have nd:=S.nd
  rw [List.map_cons,List.cons_append,List.nodup_cons] at nd
  have Lout:L ∉ fs.map (·.1)++c.r:=nd.1
  refine ⟨fun x o' e=>?_,S.len,fun j x e=>?_,fun f q=>?_,S.nd,S.sep,fun t q=>?_,S.disj⟩
  · refine (hs.2 x fun q=>?_).trans (S.keep x o' e)
    subst q;exact absurd e (S.sep x (by simp)).no
  · obtain ⟨o',p,z⟩:=S.mem j x e
    exact ⟨o',(hs.2 x fun q=>Lout (List.mem_append_right _ (q▸List.mem_of_getElem? e))).trans p,z⟩
  · rcases List.mem_cons.mp q with rfl | q
    · exact hn
    · exact (S.fr f (.tail _ q)).sameBut hs fun z=>Lout (List.mem_append_left _ (z▸List.mem_map_of_mem q))
  · obtain ⟨p,r,o',ts,u,v⟩:=S.tbs t q
    exact ⟨p,r,o',ts,(hs.2 t fun z=>p (by simp [z])).trans u,v⟩
theorem St.enter {m:Str→Option Value} (S:St hb c σ fs h) (k:∀ b o,h.get? b=some o→h'.get? b=some o) (hn:h'.Ns h.objs.size m):St hb c σ ((h.objs.size,m)::fs) h':=by
  have S':=S.grow k
  refine ⟨S'.keep,S.len,S'.mem,fun f q=>?_,?_,fun a q=>?_,fun t q=>?_,S.disj⟩
  · rcases List.mem_cons.mp q with rfl | q
    · exact hn
    · exact S'.fr f q
  · rw [List.map_cons,List.cons_append,List.nodup_cons]
    exact ⟨fun z=>absurd (S.frLt z) (Nat.lt_irrefl _),S.nd⟩
  · rcases List.mem_cons.mp (show a∈h.objs.size::(fs.map (·.1)++c.r) from q) with rfl | q
    · exact S.gNone
    · exact S.sep a q
  · obtain ⟨p,r⟩:=S'.tbs t q
    refine ⟨fun z=>?_,r⟩
    rcases List.mem_cons.mp (show t∈h.objs.size::(fs.map (·.1)++c.r) from z) with rfl | z
    · exact absurd (S.tbLt q) (Nat.lt_irrefl _)
    · exact p z
theorem St.leave {f:Fm} (S:St hb c σ (f::fs) h):St hb c σ fs h :=
  ⟨S.keep,S.len,S.mem,fun g q=>S.fr g (.tail _ q),(List.nodup_cons.mp S.nd).2,fun a q=>S.sep a (.tail _ q),fun t q=>let ⟨p,r⟩:=S.tbs t q;⟨fun z=>p (.tail _ z),r⟩,S.disj⟩
theorem St.at (S:St hb c σ fs h) {i:Nat} {a:Addr} {b:AObj} (ha:c.r[i]?=some a) (hb':σ[i]?=some b):∃ o,h.get? a=some o∧ORel hb c b o :=
  let ⟨o,p,q⟩:=S.mem i a ha;⟨o,p,q b hb'⟩
end
end T
namespace T
inductive Res (α:Type) where
  | ok (a:α)
  | exc (i:Nat)
inductive AFlow where
  | next
  | ret (v:AV)
inductive Orc where
  | b (b:Bool)
  | v (v:AV)
  | vs (l:List AV)
  | n (n:Nat)
  | ns (l:List Nat)
  | cut (k:Nat) (as:List AV) (σ:List AObj) (r:Res AV) (σ':List AObj)
  | stm (ls:List (Str × AV)) (σ:List AObj) (r:Res AFlow) (ls':List (Str × AV)) (σ':List AObj)
structure Rd where
  sc:Scope
  hnd:Option Nat
  dep:Nat
  off:Nat
structure AS where
  ls:List (Str × AV)
  σ:List AObj
  orc:List Orc
  obl:List Prop
noncomputable def AllP:List Prop→Prop
  | []=>True
  | p::r=>p∧AllP r
theorem allP_append {a b:List Prop}:AllP (a++b) ↔ AllP a∧AllP b:=by
  induction a with
  | nil=>simp [AllP]
  | cons p r ih=>simp only [List.cons_append,AllP,ih,and_assoc]
structure EM (α:Type) where
  run:Rd→AS→Option (Res α × AS)
  mono:∀ rd as r as',run rd as=some (r,as')→AllP as'.obl→AllP as.obl
noncomputable def ret {α:Type} (a:α):EM α:=⟨fun _ s=>some (.ok a,s),fun _ _ _ _ e=>by cases e;exact id⟩
noncomputable def flt {α:Type}:EM α:=⟨fun _ _=>none,fun _ _ _ _ e=>by cases e⟩
noncomputable def bnd {α β:Type} (m:EM α) (f:α→EM β):EM β:=⟨fun rd s=>match m.run rd s with
  | none=>none
  | some (.ok a,s')=>(f a).run rd s'
  | some (.exc i,s')=>some (.exc i,s'),fun rd as r as' e=>by
    split at e
    · cases e
    · rename_i a s₁ e1;exact fun o=>m.mono _ _ _ _ e1 ((f a).mono _ _ _ _ e o)
    · rename_i i s₁ e1;cases e;exact m.mono _ _ _ _ e1⟩
noncomputable def sop {α:Type} (f:Rd→List AObj→Option (α × List AObj)):EM α:=⟨fun rd s=>match f rd s.σ with
  | none=>none
  | some (a,σ')=>some (.ok a,{s with σ:=σ'}),fun rd as r as' e=>by
    split at e
    · cases e
    · cases e;exact id⟩
noncomputable def sopN {α:Type} (f:Rd→List Orc→List AObj→Option (α × List AObj × List Prop × List Orc)):EM α:=⟨fun rd s=>match f rd s.orc s.σ with
  | none=>none
  | some (a,σ',ps,orc')=>some (.ok a,{s with σ:=σ',obl:=ps++s.obl,orc:=orc'}),fun rd as r as' e=>by
    split at e
    · cases e
    · cases e;exact fun h=>(allP_append.mp h).2⟩
noncomputable def nameE (gl:List (Str × AV)) (x:Str):EM AV:=⟨fun rd s=>match lk rd.sc.names x with
  | some .local=>(match lk s.ls x with
    | none=>none
    | some v=>some (.ok v,s))
  | some .globalImplicit=>(match lk gl x with
    | none=>none
    | some v=>some (.ok v,s))
  | _=>none,fun rd as r as' e=>by
    split at e
    · split at e
      · cases e
      · cases e;exact id
    · split at e
      · cases e
      · cases e;exact id
    · cases e⟩
noncomputable def setL (x:Str) (v:AV):EM Unit:=⟨fun rd s=>match lk rd.sc.names x with
  | some .local=>some (.ok (),{s with ls:=(x,v)::s.ls})
  | _=>none,fun rd as r as' e=>by
    split at e
    · cases e;exact id
    · cases e⟩
inductive FlowR (c:Cc):AFlow→Flow→Prop
  | next:FlowR c .next .next
  | ret {a v}:VRel c a v→FlowR c (.ret a) (.ret v)
theorem FlowR.mono {c c':Cc} (x:Ext c c') {a:AFlow} {f:Flow} (h:FlowR c a f):FlowR c' a f:=by
  cases h with
  | next=>exact .next
  | ret h=>exact .ret (h.mono x)
structure Frm where
  L:Addr
  a:Addr
  cd:Value
  qual:Str
  sc:Scope
noncomputable def Frm.env (f:Frm):Env:=envOf f.qual f.sc f.L f.a f.cd
structure Out where
  env:Env
  m:Str→Option Value
structure Gd where
  prog:Program
  w:World
  hb:World→BK→Int
  B:Heap
  K:Frag
  p:Program
  loose:List Str
  mg:Str→Option Value
  mb:Str→Option Value
  os:OsState
  XB:K.In B
  TB:TopRead p loose mg mb B
  MB:(∃ mc,B.Ns cStatics mc∧mc "sys.int_max_str_digits" = none)
structure Hp (g:Gd) (hnd:Option Nat) (dep:Nat) (c:Cc) (σ:List AObj) (fs:List Out) (A:Around) (s:Shared):Prop where
  st:St g.hb c σ (fs.map fun o=>(o.env.locals,o.m)) s.heap
  base:∀ a o,g.B.get? a=some o→c.G a=some o
  w:c.w=g.w
  frames:A.frames=some (fs.map (·.env))
  guards:A.guards=some []
  fok:∀ o∈fs,o.env.frame=some o.env.locals∧o.env.scope.kind=.function
  depth:A.depth≤301+dep
  units:A.units≤4+16 * dep
  hnd:match hnd with | none=>A.handled=none | some i=>∃ a,c.r[i]?=some a∧A.handled=some (.ref a)
  gens:s.gens=#[]
  os:s.os=g.os
  low:∀ a∈c.r,1 < a
structure Inv (g:Gd) (rd:Rd) (c:Cc) (f:Frm) (outs:List Out) (m:Str→Option Value) (as:AS) (A:Around) (s:Shared):Prop where
  hp:Hp g rd.hnd rd.dep c as.σ (⟨f.env,m⟩::outs) A s
  ls:∀ x v,lk as.ls x=some v→∃ v',m x=some v'∧VRel c v v'
  sc:f.sc=rd.sc
  room:rd.dep≤500+rd.off
noncomputable def IsExc (σ:List AObj) (i:Nat):Prop:=∃ C d tr,σ[i]?=some (.exc C d tr)
noncomputable def After {α β:Type} (R:Cc→α→β→Prop) (c':Cc) (σ:List AObj) (r:Res α) (Q:β→Shared→Prop) (E:Value→Shared→Prop) (s':Shared):Prop:=match r with
  | .ok a=>∀ b,R c' a b→Q b s'
  | .exc i=>∀ e,c'.r[i]?=some e→IsExc σ i→E (.ref e) s'
noncomputable def Snd (g:Gd) (c₀:Cc) {α β:Type} (m:EM α) (t:Env→Sem β) (R:Cc→α→β→Prop):Prop :=
  ∀ rd as r as',m.run rd as=some (r,as')→∀ c f outs lm A s (Q:β→Shared→Prop) (E:Value→Shared→Prop),Ext c₀ c→Inv g rd c f outs lm as A s→AllP as'.obl →
    (∀ c' lm' s',Ext c c'→Inv g rd c' f outs lm' as' A s'→After R c' as'.σ r Q E s')→wpAny (model g.prog g.w) A (t f.env) Q E s
noncomputable def Leaf (g:Gd) (c₀:Cc) {α β:Type} (f:Rd→List AObj→Option (α × List AObj)) (t:Sem β) (R:Cc→α→β→Prop):Prop :=
  ∀ rd σ a σ',f rd σ=some (a,σ')→∀ c fs A s (Q:β→Shared→Prop) (E:Value→Shared→Prop),Ext c₀ c→Hp g rd.hnd rd.dep c σ fs A s →
    (∀ c' s',Ext c c'→Hp g rd.hnd rd.dep c' σ' fs A s'→∀ b,R c' a b→Q b s')→wpAny (model g.prog g.w) A t Q E s
theorem no_some {α:Type} {x:α} {G:Prop} (e:none=some x):G:=by cases e
theorem no_tf {G:Prop} (e:false=true):G:=by cases e
noncomputable def Ok {γ:Type} (C:γ→Prop):Option γ→Prop
  | none=>False
  | some x=>C x
noncomputable abbrev EOk {α:Type} (C:Res α→AS→Prop) (o:Option (Res α × AS)):Prop:=Ok (fun p=>C p.1 p.2) o
noncomputable def obn {β γ:Type} (o:Option β) (f:β→Option γ):Option γ:=match o with
  | some x=>f x
  | none=>none
theorem EOk.mono {α:Type} {C D:Res α→AS→Prop} (h:∀ r as,C r as→D r as):∀ {o:Option (Res α × AS)},EOk C o→EOk D o
  | some p,P=>h p.1 p.2 P
noncomputable def bndC {α β:Type} (f:α→EM β) (rd:Rd) (C:Res β→AS→Prop) (r:Res α) (as:AS):Prop:=match r with
  | .ok a=>EOk C ((f a).run rd as)
  | .exc i=>C (.exc i) as
theorem EOk.bnd {α β:Type} {m:EM α} {f:α→EM β} {rd:Rd} {as:AS} {C:Res β→AS→Prop} (P:EOk C ((bnd m f).run rd as)):EOk (bndC f rd C) (m.run rd as):=by
  revert P
  show EOk C (match m.run rd as with | none=>none | some (.ok a,s')=>(f a).run rd s' | some (.exc i,s')=>some (.exc i,s'))→_
  cases m.run rd as with
  | none=>exact id
  | some p=>obtain ⟨r,s'⟩:=p;cases r with
    | ok a=>exact id
    | exc i=>exact id
theorem EOk.obl {α:Type} {m:EM α} {rd:Rd} {as:AS} {C:Res α→AS→Prop} (o:∀ r as,C r as→AllP as.obl) (P:EOk C (m.run rd as)):AllP as.obl:=by
  cases e:m.run rd as with
  | none=>rw [e] at P;exact P.elim
  | some p=>rw [e] at P;exact m.mono rd as p.1 p.2 e (o _ _ P)
theorem EOk.sop1 {α:Type} {f:Rd→List AObj→Option (α × List AObj)} {rd:Rd} {as:AS} {C:Res α→AS→Prop} (P:EOk C ((T.sop f).run rd as)):Ok (fun p=>C (.ok p.1) {as with σ:=p.2}) (f rd as.σ):=by
  revert P
  show EOk C (match f rd as.σ with | none=>none | some (a,σ')=>some (.ok a,{as with σ:=σ'}))→_
  cases f rd as.σ with
  | none=>exact id
  | some p=>exact id
theorem EOk.sop {α β:Type} {f:Rd→List AObj→Option (α × List AObj)} {k:α→EM β} {rd:Rd} {as:AS} {C:Res β→AS→Prop} (P:EOk C ((T.bnd (sop f) k).run rd as)):Ok (fun p=>EOk C ((k p.1).run rd {as with σ:=p.2})) (f rd as.σ):=by
  have P:=P.bnd
  revert P
  show EOk _ (match f rd as.σ with | none=>none | some (a,σ')=>some (.ok a,{as with σ:=σ'}))→_
  cases f rd as.σ with
  | none=>exact id
  | some p=>exact id
section
variable {g:Gd} {c₀:Cc} {α β γ δ:Type}
theorem Snd.pure {a:α} {b:β} {R:Cc→α→β→Prop} (h:∀ c,Ext c₀ c→R c a b):Snd g c₀ (ret a) (fun _=>Pure.pure b) R:=by
  intro rd as r as' e
  cases e
  exact fun c f outs lm A s Q E x I o k=>wpAny_pure (k c lm s (.refl c) I b (h c x))
theorem Snd.flt {t:Env→Sem β} {R:Cc→α→β→Prop}:Snd g c₀ (flt:EM α) t R:=fun rd as r as' e=>by cases e
theorem Snd.bind {m:EM α} {t:Env→Sem β} {R:Cc→α→β→Prop} {f:α→EM γ} {k:Env→β→Sem δ} {R':Cc→γ→δ→Prop}
    (h1:Snd g c₀ m t R) (h2:∀ a b c₁,Ext c₀ c₁→R c₁ a b→Snd g c₁ (f a) (fun env=>k env b) R') :
    Snd g c₀ (bnd m f) (fun env=>t env>>=k env) R':=by
  intro rd as r as' e
  simp only [bnd] at e
  split at e
  · cases e
  · rename_i a s₁ e1
    have w1:=h1 rd as _ _ e1
    refine fun c fr outs lm A s Q E x I o kk=>wpAny_bind (w1 c fr outs lm A s _ E x I ((f a).mono _ _ _ _ e o) fun c' lm' s' x' I'=>?_)
    intro b hb
    exact (h2 a b c' (x.trans x') hb rd s₁ r as' e) c' fr outs lm' A s' Q E (.refl c') I' o fun c'' lm'' s'' x'' I''=>kk c'' lm'' s'' (x'.trans x'') I''
  · rename_i i s₁ e1
    cases e
    have w1:=h1 rd as _ _ e1
    exact fun c fr outs lm A s Q E x I o kk=>wpAny_bind (w1 c fr outs lm A s _ E x I o fun c' lm' s' x' I'=>kk c' lm' s' x' I')
theorem Snd.conv {m:EM α} {t t':Env→Sem β} {R:Cc→α→β→Prop} (h:Snd g c₀ m t R) (e:∀ env,t' env=t env):Snd g c₀ m t' R:=by
  have:t'=t:=funext e
  rw [this];exact h
theorem Snd.map {m:EM α} {t t':Env→Sem β} {R:Cc→α→β→Prop} (h:Snd g c₀ m t R)
    (k:∀ A env Q E s,wpAny (model g.prog g.w) A (t env) Q E s→wpAny (model g.prog g.w) A (t' env) Q E s):Snd g c₀ m t' R:=by
  intro rd as r as' e c f outs lm A s Q E x I o kk
  exact k _ _ _ _ _ (h rd as r as' e c f outs lm A s Q E x I o kk)
theorem Snd.stand {m:EM α} {p:Env→Pos} {t:Env→Sem β} {R:Cc→α→β→Prop} (h:Snd g c₀ m t R):Snd g c₀ m (fun env=>standAt (p env)>>=fun _=>t env) R :=
  h.map fun _ _ _ _ _ q=>wpAny_bind (wpAny_standAt q)
theorem Snd.hold {m:EM α} {vs:Env→List Value} {t:Env→Sem β} {R:Cc→α→β→Prop} (h:Snd g c₀ m t R):Snd g c₀ m (fun env=>holding (vs env) (t env)) R :=
  h.map fun _ _ _ _ _ q=>wpAny_holding q
theorem Snd.leaf {f:Rd→List AObj→Option (α × List AObj)} {t:Env→Sem β} {R:Cc→α→β→Prop} (h:∀ env,Leaf g c₀ f (t env) R):Snd g c₀ (sop f) t R:=by
  intro rd as r as' e c fr outs lm A s Q E x I o kk
  simp only [sop] at e
  split at e
  · cases e
  · rename_i a σ' e1
    cases e
    refine h fr.env rd as.σ a σ' e1 c _ A s Q E x I.hp fun c' s' x' H' b hb=>?_
    refine kk c' lm s' x' ⟨H',fun y v q=>?_,I.sc,I.room⟩ b hb
    obtain ⟨v',p,z⟩:=I.ls y v q
    exact ⟨v',p,z.mono x'⟩
noncomputable def LeafN (g:Gd) (c₀:Cc) {α β:Type} (f:Rd→List Orc→List AObj→Option (α × List AObj × List Prop × List Orc)) (t:Sem β) (R:Cc→α→β→Prop):Prop :=
  ∀ rd orc σ a σ' ps orc',f rd orc σ=some (a,σ',ps,orc')→AllP ps→∀ c fs A s (Q:β→Shared→Prop) (E:Value→Shared→Prop),Ext c₀ c→Hp g rd.hnd rd.dep c σ fs A s →
    (∀ c' s',Ext c c'→Hp g rd.hnd rd.dep c' σ' fs A s'→∀ b,R c' a b→Q b s')→wpAny (model g.prog g.w) A t Q E s
theorem Snd.leafN {f:Rd→List Orc→List AObj→Option (α × List AObj × List Prop × List Orc)} {t:Env→Sem β} {R:Cc→α→β→Prop} (h:∀ env,LeafN g c₀ f (t env) R):Snd g c₀ (sopN f) t R:=by
  intro rd as r as' e c fr outs lm A s Q E x I o kk
  simp only [sopN] at e
  split at e
  · cases e
  · rename_i a σ' ps orc' e1
    cases e
    refine h fr.env rd as.orc as.σ a σ' ps orc' e1 (allP_append.mp o).1 c _ A s Q E x I.hp fun c' s' x' H' b hb=>?_
    refine kk c' lm s' x' ⟨H',fun y v q=>?_,I.sc,I.room⟩ b hb
    obtain ⟨v',p,z⟩:=I.ls y v q
    exact ⟨v',p,z.mono x'⟩
theorem Snd.run {m:EM α} {t:Env→Sem β} {R:Cc→α→β→Prop} (h:Snd g c₀ m t R) {rd:Rd} {as:AS} {c:Cc} {f:Frm} {outs:List Out} {lm:Str→Option Value} {A:Around} {s:Shared} {Q:β→Shared→Prop} {E:Value→Shared→Prop} {C:Res α→AS→Prop}
    (x:Ext c₀ c) (I:Inv g rd c f outs lm as A s) (o:∀ r as,C r as→AllP as.obl) (kk:∀ r as' c' lm' s',C r as'→Ext c c'→Inv g rd c' f outs lm' as' A s'→After R c' as'.σ r Q E s') (P:EOk C (m.run rd as)):wpAny (model g.prog g.w) A (t f.env) Q E s:=by
  cases e:m.run rd as with
  | none=>rw [e] at P;exact P.elim
  | some p=>rw [e] at P;exact h rd as p.1 p.2 e c f outs lm A s Q E x I (o _ _ P) fun c' lm' s'=>kk p.1 p.2 c' lm' s' P
theorem Snd.step {m:EM α} {t:Env→Sem β} {R:Cc→α→β→Prop} {k:α→EM γ} (h:Snd g c₀ m t R) {rd:Rd} {as:AS} {c:Cc} {f:Frm} {outs:List Out} {lm:Str→Option Value} {A:Around} {s:Shared} {Q:β→Shared→Prop} {E:Value→Shared→Prop} {C:Res γ→AS→Prop}
    (x:Ext c₀ c) (I:Inv g rd c f outs lm as A s) (o:∀ r as,C r as→AllP as.obl) (P:EOk C ((bnd m k).run rd as))
    (hok:∀ a as' c' lm' s' b,EOk C ((k a).run rd as')→Ext c c'→Inv g rd c' f outs lm' as' A s'→R c' a b→Q b s') (hexc:∀ i as' c' lm' s' e,C (.exc i) as'→Ext c c'→Inv g rd c' f outs lm' as' A s'→c'.r[i]?=some e→IsExc as'.σ i→E (.ref e) s') :
    wpAny (model g.prog g.w) A (t f.env) Q E s :=
  h.run x I (fun r as'=>match r with
    | .ok _=>fun P=>P.obl o
    | .exc _=>o _ _) (fun r as' c' lm' s'=>match r with
    | .ok a=>fun P x' I' b hb=>hok a as' c' lm' s' b P x' I' hb
    | .exc i=>fun P x' I' e he hi=>hexc i as' c' lm' s' e P x' I' he hi) P.bnd
noncomputable def SndQ (g:Gd) (c₀:Cc) (m:EM α) (t:Env→Sem β) (R:Cc→α→β→Prop):Prop:=∀ rd as c f outs lm A s (Q:β→Shared→Prop) (E:Value→Shared→Prop) (C:Res α→AS→Prop),Ext c₀ c→Inv g rd c f outs lm as A s→(∀ r as,C r as→AllP as.obl) →
  (∀ r as' c' lm' s',C r as'→Ext c c'→Inv g rd c' f outs lm' as' A s'→After R c' as'.σ r Q E s')→EOk C (m.run rd as)→wpAny (model g.prog g.w) A (t f.env) Q E s
theorem Snd.q {m:EM α} {t:Env→Sem β} {R:Cc→α→β→Prop} (h:SndQ g c₀ m t R):Snd g c₀ m t R:=fun rd as r as' e c f outs lm A s Q E x I o kk =>
  h rd as c f outs lm A s Q E (fun r1 as1=>(r1,as1)=(r,as')) x I (fun _ _ h=>(Prod.mk.inj h).2▸o) (fun _ _ c' lm' s' h=>by cases h;exact kk c' lm' s') (e▸rfl)
theorem Frm.loc {f:Frm}:f.env.locals=f.L:=rfl
noncomputable def GlobOk (g:Gd) (x:Str) (a:AV):Prop:=(x == ("__classdict__" : Str))=false∧∃ v,(∀ c,VRel c a v)∧(g.mg x=some v∨(g.mg x=none∧g.mb x=some v))
theorem Hp.stays {hnd:Option Nat} {dep:Nat} {c:Cc} {σ:List AObj} {fs:List Out} {A:Around} {s:Shared} (H:Hp g hnd dep c σ fs A s):∀ b o,g.B.get? b=some o→s.heap.get? b=some o :=
  fun b o e=>H.st.keep b o (.inl (H.base b o e))
theorem Hp.K {hnd:Option Nat} {dep:Nat} {c:Cc} {σ:List AObj} {fs:List Out} {A:Around} {s:Shared} (H:Hp g hnd dep c σ fs A s):g.K.In s.heap:=g.XB.keeps H.stays
theorem Hp.T {hnd:Option Nat} {dep:Nat} {c:Cc} {σ:List AObj} {fs:List Out} {A:Around} {s:Shared} (H:Hp g hnd dep c σ fs A s):TopRead g.p g.loose g.mg g.mb s.heap:=g.TB.keeps H.stays
theorem loadName_global {M:Model} {A:Around} {E:Value→Shared→Prop} {s:Shared} {f:Frm} {x:Str} {mg mb:Str→Option Value} {v:Value} {Q:Value→Shared→Prop} (hk:f.sc.kind=.function) (hx:f.sc.names.lookup x=some .globalImplicit)
    (hg:s.heap.Ns mainGlobals mg) (hb:s.heap.Ns builtinsNs mb) (h:mg x=some v∨(mg x=none∧mb x=some v)) (q:Q v s):wpAny M A (loadName f.env x) Q E s:=by
  have e1:f.env.scope.kind=.function:=hk
  have e2:f.env.kindOf x=some .globalImplicit:=hx
  unfold loadName
  simp only [e1,Env.blockKind,ScopeKind.isAnnotationScope,Bool.false_and,Bool.false_eq_true,if_false,e2]
  unfold loadGlobal
  refine wpAny_bind (wpAny_nsGet (a:=mainGlobals) hg ?_)
  rcases h with h | ⟨h1,h2⟩
  · rw [h];exact wpAny_pure q
  · rw [h1]
    refine wpAny_bind (wpAny_nsGet (a:=builtinsNs) hb ?_)
    rw [h2];exact wpAny_pure q
theorem Snd.name {gl:List (Str × AV)} (hgl:∀ x a,lk gl x=some a→GlobOk g x a) {x:Str}:Snd g c₀ (nameE gl x) (fun env=>loadName env x) VRel:=by
  intro rd as r as' e c fr outs lm A s Q E hx I o kk
  simp only [nameE] at e
  have hsc:=I.sc
  have hk:fr.sc.kind=.function:=(I.hp.fok ⟨fr.env,lm⟩ (.head _)).2
  split at e
  · rename_i hl
    split at e
    · cases e
    · rename_i v hv
      cases e
      obtain ⟨v',p,q⟩:=I.ls x v hv
      rw [lk_eq,← hsc] at hl
      exact wpAny_loadName_local hk hl (I.hp.st.fr _ (.head _)) p (kk c lm s (.refl c) I v' q)
  · rename_i hl
    split at e
    · cases e
    · rename_i v hv
      cases e
      obtain ⟨_,v',p,q⟩:=hgl x v hv
      rw [lk_eq,← hsc] at hl
      exact loadName_global hk hl I.hp.T.g I.hp.T.b q (kk c lm s (.refl c) I v' (p c))
  · cases e
theorem ls_put {c:Cc} {ls:List (Str × AV)} {m:Str→Option Value} {x:Str} {a:AV} {v:Value} (h:VRel c a v) (L:∀ y b,lk ls y=some b→∃ v',m y=some v'∧VRel c b v') (y:Str) (b:AV) (e:lk ((x,a)::ls) y=some b) :
    ∃ v',(if y=x then some v else m y)=some v'∧VRel c b v':=by
  have e:cond (seq y x) (some a) (lk ls y)=some b:=e
  cases q:seq y x with
  | true=>rw [q] at e;exact ⟨v,if_pos (seq_iff.mp q),Option.some.inj e▸h⟩
  | false =>
    rw [q] at e
    obtain ⟨v',p,z⟩:=L y b e
    exact ⟨v',by rw [if_neg fun z=>by rw [← seq_iff,q] at z;cases z];exact p,z⟩
theorem Hp.store {hnd:Option Nat} {dep:Nat} {c:Cc} {σ:List AObj} {fs:List Out} {A:Around} {s:Shared} {e:Env} {m m':Str→Option Value} {h':Heap} {tk:Nat} (H:Hp g hnd dep c σ (⟨e,m⟩::fs) A s) (hs:Heap.SameBut e.locals s.heap h') (hn:h'.Ns e.locals m') :
    Hp g hnd dep c σ (⟨e,m'⟩::fs) A {s with heap:=h',toks:=tk} :=
  ⟨H.st.store hs hn,H.base,H.w,H.frames,H.guards,fun q hq=>(List.mem_cons.mp hq).elim (fun z=>z▸H.fok ⟨e,m⟩ (.head _)) fun z=>H.fok q (.tail _ z),H.depth,H.units,H.hnd,H.gens,H.os,H.low⟩
theorem Snd.setL {x:Str} {a:AV} {v:Value} (h:VRel c₀ a v):Snd g c₀ (setL x a) (fun env=>bindName env x v) (fun _ _ _=>True):=by
  intro rd as r as' e c fr outs lm A s Q E hx I o kk
  simp only [T.setL] at e
  have hsc:=I.sc
  have hk:fr.sc.kind=.function:=(I.hp.fok ⟨fr.env,lm⟩ (.head _)).2
  split at e
  · rename_i hl
    cases e
    rw [lk_eq,← hsc] at hl
    unfold bindName
    refine wpAny_bind (wpAny_holding (wpAny_point (wpAny_bind (wpAny_storeName_local hl (I.hp.st.fr _ (.head _)) (fun h' hn hs=>wpAny_point ?_) ?_))))
    · exact kk c (fun y=>if y=x then some v else lm y) {s with heap:=h',toks:=s.toks+1} (.refl c) ⟨I.hp.store hs hn,ls_put (h.mono hx) I.ls,I.sc,I.room⟩ () trivial
    · show (fr.sc.kind == .class || (fr.sc.kind == .module && _))=false
      rw [hk];rfl
  · cases e
end
end T
namespace T
noncomputable abbrev AR (α:Type):=α × List AObj × List Prop × List Orc
noncomputable def LeafQ (g:Gd) (c₀:Cc) {α β:Type} (f:Rd→List Orc→List AObj→Option (AR α)) (t:Sem β) (R:Cc→α→β→Prop):Prop :=
  ∀ rd orc σ c fs A s (Q:β→Shared→Prop) (E:Value→Shared→Prop) (C:AR α→Prop),Ext c₀ c→Hp g rd.hnd rd.dep c σ fs A s →
    (∀ a σ' ps orc' c' s' b,C (a,σ',ps,orc')→Ext c c'→Hp g rd.hnd rd.dep c' σ' fs A s'→R c' a b→Q b s')→(∀ y,C y→AllP y.2.2.1)→Ok C (f rd orc σ)→wpAny (model g.prog g.w) A t Q E s
theorem LeafN.q {g:Gd} {c₀:Cc} {α β:Type} {f:Rd→List Orc→List AObj→Option (AR α)} {t:Sem β} {R:Cc→α→β→Prop} (h:LeafQ g c₀ f t R):LeafN g c₀ f t R :=
  fun rd orc σ a σ' ps orc' e hP c fs A s Q E x H k=>h rd orc σ c fs A s Q E (·=(a,σ',ps,orc')) x H (fun _ _ _ _ c' s' v hb x' H' r=>by cases hb;exact k c' s' x' H' v r) (fun _ hb=>hb▸hP) (e▸rfl)
noncomputable def LeafS (g:Gd) (c₀:Cc) {α β:Type} (f:Rd→List AObj→Option (α × List AObj)) (t:Sem β) (R:Cc→α→β→Prop):Prop :=
  ∀ rd σ c fs A s (Q:β→Shared→Prop) (E:Value→Shared→Prop) (C:α × List AObj→Prop),Ext c₀ c→Hp g rd.hnd rd.dep c σ fs A s →
    (∀ a σ' c' s' b,C (a,σ')→Ext c c'→Hp g rd.hnd rd.dep c' σ' fs A s'→R c' a b→Q b s')→Ok C (f rd σ)→wpAny (model g.prog g.w) A t Q E s
theorem Leaf.s {g:Gd} {c₀:Cc} {α β:Type} {f:Rd→List AObj→Option (α × List AObj)} {t:Sem β} {R:Cc→α→β→Prop} (h:LeafS g c₀ f t R):Leaf g c₀ f t R :=
  fun rd σ a σ' e c fs A s Q E x H k=>h rd σ c fs A s Q E (·=(a,σ')) x H (fun _ _ c' s' v hb x' H' r=>by cases hb;exact k c' s' x' H' v r) (e▸rfl)
noncomputable def orO {β γ:Type} (o:Option β) (f:β→Option γ) (d:Option γ):Option γ:=match o with
  | some x=>f x
  | none=>d
noncomputable def pk {α:Type} (b:Bool) (x y:α):α:=match b with
  | true=>x
  | false=>y
noncomputable def gdO {γ:Type} (b:Bool) (x:Option γ):Option γ:=match b with
  | true=>x
  | false=>none
noncomputable def askB {γ:Type} (o:List Orc) (f:Bool→List Orc→Option γ):Option γ:=match o with
  | []=>none
  | x::r=>match x with
    | .b b=>f b r
    | _=>none
noncomputable def askV {γ:Type} (o:List Orc) (f:AV→List Orc→Option γ):Option γ:=match o with
  | []=>none
  | x::r=>match x with
    | .v b=>f b r
    | _=>none
noncomputable def askVs {γ:Type} (o:List Orc) (f:List AV→List Orc→Option γ):Option γ:=match o with
  | []=>none
  | x::r=>match x with
    | .vs b=>f b r
    | _=>none
noncomputable def askN {γ:Type} (o:List Orc) (f:Nat→List Orc→Option γ):Option γ:=match o with
  | []=>none
  | x::r=>match x with
    | .n b=>f b r
    | _=>none
noncomputable def objC {γ:Type} (o:Option AObj) (ed:Option γ) (sd:Bool→List (Str × AV)→Option γ) (kd:List Str→List (Str × AV)→Option γ) (nd:List (Int × AV)→Option γ):Option γ:=match o with
  | none=>none
  | some x=>match x with
    | .gone=>none
    | .list _ _=>none
    | .ed=>ed
    | .sd a b=>sd a b
    | .nd a=>nd a
    | .bd _=>none
    | .kd a b=>kd a b
    | .exc _ _ _=>none
    | .raw _=>none
noncomputable def lstC {γ:Type} (o:Option AObj) (f:Bool→List AV→Option γ):Option γ:=match o with
  | none=>none
  | some x=>match x with
    | .list a b=>f a b
    | _=>none
noncomputable def mutO {γ:Type} (v:AV) (f:Nat→Option γ):Option γ:=match v with
  | .mut i=>f i
  | _=>none
noncomputable def consA {γ:Type} (as:List AV) (f:AV→List AV→Option γ):Option γ:=match as with
  | []=>none
  | a::r=>f a r
noncomputable def nilA {γ:Type} (as:List AV) (f:Option γ):Option γ:=match as with
  | []=>f
  | _::_=>none
noncomputable def oneA {γ:Type} (as:List AV) (f:AV→Option γ):Option γ:=consA as fun a r=>nilA r (f a)
noncomputable def twoA {γ:Type} (as:List AV) (f:AV→AV→Option γ):Option γ:=consA as fun a r=>consA r fun b t=>nilA t (f a b)
section
variable {β γ:Type} {C:γ→Prop} {G:Prop} {c:Cc}
theorem Ok.no {G:Prop} (P:Ok C none):G:=P.elim
theorem Ok.obn {f:β→Option γ}:∀ {o:Option β},Ok C (T.obn o f)→(∀ x,o=some x→Ok C (f x)→G)→G
  | some x,P,h=>h x rfl P
theorem Ok.orO {f:β→Option γ} {d:Option γ}:∀ {o:Option β},Ok C (T.orO o f d)→(∀ x,o=some x→Ok C (f x)→G)→(o=none→Ok C d→G)→G
  | some x,P,h,_=>h x rfl P
  | none,P,_,h=>h rfl P
theorem Ok.pk {x y:Option γ}:∀ {b:Bool},Ok C (T.pk b x y)→(b=true→Ok C x→G)→(b=false→Ok C y→G)→G
  | true,P,h,_=>h rfl P
  | false,P,_,h=>h rfl P
theorem Ok.gdO {x:Option γ}:∀ {b:Bool},Ok C (T.gdO b x)→(b=true→Ok C x→G)→G
  | true,P,h=>h rfl P
theorem Ok.askB {f:Bool→List Orc→Option γ}:∀ {o:List Orc},Ok C (T.askB o f)→(∀ b r,Ok C (f b r)→G)→G
  | .b b::r,P,h=>h b r P
theorem Ok.askV {f:AV→List Orc→Option γ}:∀ {o:List Orc},Ok C (T.askV o f)→(∀ b r,Ok C (f b r)→G)→G
  | .v b::r,P,h=>h b r P
theorem Ok.askVs {f:List AV→List Orc→Option γ}:∀ {o:List Orc},Ok C (T.askVs o f)→(∀ b r,Ok C (f b r)→G)→G
  | .vs b::r,P,h=>h b r P
theorem Ok.askN {f:Nat→List Orc→Option γ}:∀ {o:List Orc},Ok C (T.askN o f)→(∀ b r,Ok C (f b r)→G)→G
  | .n b::r,P,h=>h b r P
theorem Ok.objC {o:Option AObj} {ed:Option γ} {sd:Bool→List (Str × AV)→Option γ} {kd:List Str→List (Str × AV)→Option γ} {nd:List (Int × AV)→Option γ} (P:Ok C (T.objC o ed sd kd nd))
    (h1:o=some .ed→Ok C ed→G) (h2:∀ a b,o=some (.sd a b)→Ok C (sd a b)→G) (h3:∀ a b,o=some (.kd a b)→Ok C (kd a b)→G) (h4:∀ a,o=some (.nd a)→Ok C (nd a)→G):G:=by
  cases o with
  | none=>exact P.elim
  | some x=>cases x with
    | ed=>exact h1 rfl P
    | sd a b=>exact h2 a b rfl P
    | kd a b=>exact h3 a b rfl P
    | nd a=>exact h4 a rfl P
    | _=>exact P.elim
theorem Ok.lstC {f:Bool→List AV→Option γ} {o:Option AObj} (P:Ok C (T.lstC o f)) (h:∀ a b,o=some (.list a b)→Ok C (f a b)→G):G:=by
  cases o with
  | none=>exact P.elim
  | some x=>cases x with
    | list a b=>exact h a b rfl P
    | _=>exact P.elim
theorem Ok.mutO {G:Value→Prop} {f:Nat→Option γ} {v:AV} {v':Value} (P:Ok C (T.mutO v f)) (hv:VRel c v v') (h:∀ i a,c.r[i]?=some a→Ok C (f i)→G (.ref a)):G v':=by
  revert P
  refine VRel.casesOn (motive_1:=fun v v' _=>Ok C (T.mutO v f)→G v') hv ?_ ?_ ?_ ?_ ?_ ?_ ?_ ?_ ?_ (fun e P=>h _ _ e P) ?_ ?_ ?_ ?_ ?_ ?_ ?_ ?_ ?_<;>(intros;exact Ok.no ‹_›)
theorem Ok.consA {G:List Value→Prop} {f:AV→List AV→Option γ} {as:List AV} {vs:List Value} (P:Ok C (T.consA as f)) (hv:VRels c as vs) (h:∀ a x as xs,VRel c a x→VRels c as xs→Ok C (f a as)→G (x::xs)):G vs :=
  VRels.casesOn (motive_2:=fun as vs _=>Ok C (T.consA as f)→G vs) hv (fun P=>P.elim) (fun r t P=>h _ _ _ _ r t P) P
theorem Ok.nilA {G:List Value→Prop} {f:Option γ} {as:List AV} {vs:List Value} (P:Ok C (T.nilA as f)) (hv:VRels c as vs) (h:Ok C f→G []):G vs :=
  VRels.casesOn (motive_2:=fun as vs _=>Ok C (T.nilA as f)→G vs) hv h (fun _ _ P=>P.elim) P
theorem Ok.oneA {G:List Value→Prop} {f:AV→Option γ} {as:List AV} {vs:List Value} (P:Ok C (T.oneA as f)) (hv:VRels c as vs) (h:∀ a x,VRel c a x→Ok C (f a)→G [x]):G vs :=
  Ok.consA P hv fun a x _ _ r t P=>Ok.nilA (G:=fun xs=>G (x::xs)) P t fun P=>h a x r P
theorem Ok.twoA {G:List Value→Prop} {f:AV→AV→Option γ} {as:List AV} {vs:List Value} (P:Ok C (T.twoA as f)) (hv:VRels c as vs) (h:∀ a x b y,VRel c a x→VRel c b y→Ok C (f a b)→G [x,y]):G vs :=
  Ok.consA P hv fun a x _ _ r t P=>Ok.consA (G:=fun xs=>G (x::xs)) P t fun b y _ _ r2 t P=>Ok.nilA (G:=fun xs=>G (x::y::xs)) P t fun P=>h a x b y r r2 P
end
theorem gdO_ok {γ:Type} {b:Bool} {x:Option γ} {y:γ} (e:gdO b x=some y):b=true∧x=some y:=by
  cases b with
  | true=>exact ⟨rfl,e⟩
  | false=>cases e
theorem one_rel {c:Cc} {x:Value} (h:VRel c .none x):x=.none:=h.elim (G:=fun x=>x=.none) rfl
theorem bool_rel {c:Cc} {b:Bool} {x:Value} (h:VRel c (.bool b) x):x=.bool b:=h.elim (G:=fun x=>x=.bool b) rfl
theorem addG_at (c:Cc) (a:Addr) (o:Obj):(c.addG a o).G a=some o:=if_pos rfl
theorem obn_some {β γ:Type} {o:Option β} {f:β→Option γ} {y:γ} (e:obn o f=some y):∃ x,o=some x∧f x=some y:=by
  cases o with
  | none=>exact no_some e
  | some x=>exact ⟨x,rfl,e⟩
noncomputable def exnO {γ:Type} (o:Option AObj) (f:Addr→Option Nat→Bool→Option γ):Option γ:=match o with
  | none=>none
  | some x=>match x with
    | .exc C d t=>f C d t
    | _=>none
theorem exnO_ok {γ:Type} {C:Option γ→Prop} (h0:C none) {f:Addr→Option Nat→Bool→Option γ} {o:Option AObj} (h:∀ D d t,o=some (.exc D d t)→C (f D d t)):C (exnO o f):=by
  cases o with
  | none=>exact h0
  | some x=>cases x with
    | exc D d t=>exact h D d t rfl
    | _=>exact h0
inductive Noted (K:AS→Prop) (i:Nat) (as:AS):Prop
  | mk (C d t):as.σ[i]?=some (.exc C d t)→K {as with σ:=as.σ.set i (.exc C d true)}→Noted K i as
theorem Ok.exnO {γ:Type} {C:γ→Prop} {G:Prop} {f:Addr→Option Nat→Bool→Option γ} {o:Option AObj} (P:Ok C (T.exnO o f)) (h:∀ D d t,o=some (.exc D d t)→Ok C (f D d t)→G):G:=exnO_ok (C:=fun o=>Ok C o→G) Ok.no h P
noncomputable def noneO {γ:Type} (a:AV) (x:Option γ):Option γ:=match a with
  | .none=>x
  | _=>none
section
variable {γ:Type} {C:γ→Prop} {c:Cc} {a:AV} {v:Value} {G:Value→Prop}
theorem Ok.noneO {x:Option γ} (P:Ok C (T.noneO a x)) (hv:VRel c a v) (h:Ok C x→G .none):G v:=by
  revert P
  refine VRel.casesOn (motive_1:=fun a v _=>Ok C (T.noneO a x)→G v) hv h ?_ ?_ ?_ ?_ ?_ ?_ ?_ ?_ ?_ ?_ ?_ ?_ ?_ ?_ ?_ ?_ ?_ ?_<;>(intros;exact Ok.no ‹_›)
end
noncomputable def Mo {α:Type} (as:AS) (o:Option (Res α × AS)):Prop:=∀ p,o=some p→AllP p.2.obl→AllP as.obl
section
variable {α β:Type} {as:AS} {C:Res α→AS→Prop}
theorem Mo.no:Mo as (none:Option (Res α × AS)):=fun _ e=>no_some e
theorem Mo.yes {r:Res α} {s:AS} (h:s.obl=as.obl):Mo as (some (r,s)):=fun p e o=>h▸(congrArg (fun z:Res α × AS=>AllP z.2.obl) (Option.some.inj e)).mpr o
theorem Mo.run {m:EM β} {rd:Rd} {as0:AS} {k:Res β × AS→Option (Res α × AS)} (h0:as0.obl=as.obl) (h:∀ p,Mo p.2 (k p)):Mo as (obn (m.run rd as0) k):=fun p e o =>
  let ⟨q,e1,e2⟩:=obn_some e;h0▸m.mono rd as0 q.1 q.2 e1 (h q p e2 o)
theorem Mo.gd {b:Bool} {o:Option (Res α × AS)} (h:Mo as o):Mo as (gdO b o):=fun p e=>h p (gdO_ok e).2
theorem Mo.exc {o:Option AObj} {f:Addr→Option Nat→Bool→Option (Res α × AS)} (h:∀ D d t,Mo as (f D d t)):Mo as (exnO o f):=exnO_ok (C:=Mo as) Mo.no fun D d t _=>h D d t
theorem Mo.obl {o:Option (Res α × AS)} (M:Mo as o) (P:EOk C o) (oC:∀ r as,C r as→AllP as.obl):AllP as.obl:=by
  cases o with
  | none=>exact P.elim
  | some p=>exact M p rfl (oC _ _ P)
theorem EOk.run {m:EM β} {rd:Rd} {as:AS} {k:Res β × AS→Option (Res α × AS)} (P:EOk C (obn (m.run rd as) k)):EOk (fun r s=>EOk C (k (r,s))) (m.run rd as):=by
  revert P
  cases m.run rd as with
  | none=>exact id
  | some p=>exact id
theorem EOk.get {o:Option (Res α × AS)} (P:EOk C o):∃ r s,o=some (r,s)∧C r s:=by
  cases o with
  | none=>exact P.elim
  | some p=>exact ⟨p.1,p.2,rfl,P⟩
end
noncomputable def sx (neg b:Bool):Bool:=cond neg (!b) b
theorem sx_eq (neg b:Bool):sx neg b=xor neg b:=by cases neg<;>cases b<;>rfl
noncomputable def ansN (neg k l:Bool) (orc:List Orc) (σ:List AObj):Option (AR AV):=pk l (some (.bool (sx neg k),σ,[],orc)) (askB orc fun b r=>some (.bool (sx neg b),σ,[k=b],r))
theorem ansN_ok {neg k l:Bool} {orc:List Orc} {σ:List AObj} {C:AR AV→Prop} {G:Prop} (o:∀ y,C y→AllP y.2.2.1) (P:Ok C (ansN neg k l orc σ)) (h:∀ ps r,C (.bool (xor neg k),σ,ps,r)→G):G :=
  P.pk (fun _ P=>h [] orc (sx_eq neg k▸P)) fun _ P=>P.askB fun b r P=>h [k=b] r (by have e:k=b:=(o _ P).1;exact (congrArg (fun z=>C (.bool z,σ,[k=b],r)) ((congrArg (xor neg) e).trans (sx_eq neg b).symm)).mpr P)
end T
namespace T
section
variable {hb:World→BK→Int} {c:Cc} {σ:List AObj} {fs:List Fm} {h h':Heap}
theorem St.slots (S:St hb c σ fs h) (x:Heap.SlotsOnly (fs.map (·.1)) h h'):St hb c σ fs h':=by
  have out:∀ a,a ∉ fs.map (·.1)→h'.get? a=h.get? a:=x.2.1
  have nd:=S.nd
  refine ⟨fun a o e=>(out a fun m=>?_).trans (S.keep a o e),S.len,fun i a e=>?_,fun f m=>?_,S.nd,S.sep,fun t m=>?_,S.disj⟩
  · exact absurd e (S.sep a (List.mem_append_left _ m)).no
  · obtain ⟨o,p,q⟩:=S.mem i a e
    exact ⟨o,(out a fun m=>(List.nodup_append.mp nd).2.2 a m a (List.mem_of_getElem? e) rfl).trans p,q⟩
  · obtain ⟨o,es,ep,ho,hd,r⟩:=S.fr f m
    obtain ⟨sl,hs⟩:=x.2.2 _ _ ho
    exact ⟨_,es,ep,hs,hd,r⟩
  · obtain ⟨p,q,o,ts,u,v⟩:=S.tbs t m
    exact ⟨p,q,o,ts,(out t fun m'=>p (List.mem_append_left _ m')).trans u,v⟩
theorem fields_set {o:Obj} {ts:Array Value} (hd:o.data=.fields ts) (i:Nat) (x:Value):(o.mapFields (·.setIfInBounds i x)).data=.fields (ts.setIfInBounds i x)∧(o.mapFields (·.setIfInBounds i x)).cls=o.cls∧(o.mapFields (·.setIfInBounds i x)).dict=o.dict∧(o.mapFields (·.setIfInBounds i x)).isFreed=false:=by
  obtain ⟨a,b,d,e⟩:=o
  subst hd
  exact ⟨rfl,rfl,rfl,rfl⟩
theorem St.setTb (S:St hb c σ fs h) {t:Addr} {o:Obj} {ts:Array Value} (m:t∈c.tb) (ho:h.get? t=some o) (hd:o.data=.fields ts) (i:Nat) (x:Value):St hb c σ fs (h.update t (Obj.mapFields (·.setIfInBounds i x))):=by
  obtain ⟨p,q,o',ts',u,v,w⟩:=S.tbs t m
  rw [ho] at u;cases u
  rw [hd] at v;cases v
  obtain ⟨e1,_,_,e2⟩:=fields_set hd i x
  have hs:Heap.SameBut t h (h.update t (Obj.mapFields (·.setIfInBounds i x))):=.update ..
  refine ⟨fun a o e=>(hs.2 a fun z=>?_).trans (S.keep a o e),S.len,fun i a e=>?_,fun f m'=>?_,S.nd,S.sep,fun t' m'=>?_,S.disj⟩
  · subst z;exact absurd e q.no
  · obtain ⟨o,p',q'⟩:=S.mem i a e
    exact ⟨o,(hs.2 a fun z=>p (List.mem_append_right _ (z▸List.mem_of_getElem? e))).trans p',q'⟩
  · exact (S.fr f m').sameBut hs fun z=>p (List.mem_append_left _ (z▸List.mem_map_of_mem m'))
  · obtain ⟨p',q',o',ts',u',v',w'⟩:=S.tbs t' m'
    by_cases z:t'=t
    · subst z
      refine ⟨p',q',_,_,Heap.get?_update_self _ ho e2,e1,by simpa using w⟩
    · exact ⟨p',q',o',ts',(hs.2 t' z).trans u',v',w'⟩
noncomputable def Cc.addT (c:Cc) (a:Addr):Cc:={c with tb:=a::c.tb}
theorem Ext.addT (c:Cc) (a:Addr):Ext c (c.addT a):=⟨fun _ _ e=>e,fun _ _ e=>e,fun _ e=>.tail _ e,rfl,rfl⟩
theorem St.newTb (S:St hb c σ fs h) {o:Obj} {ts:Array Value} (hd:o.data=.fields ts) (hz:4≤ts.size) (hf:o.isFreed=false):St hb (c.addT h.objs.size) σ fs (h.push o):=by
  have S':=S.grow (h':=h.push o) fun b o' e=>Heap.get?_push_of_some _ e
  refine ⟨S'.keep,S.len,fun i a e=>let ⟨o,p,q⟩:=S'.mem i a e;⟨o,p,fun b hb=>(q b hb).mono (Ext.addT c _)⟩,S'.fr,S.nd,S.sep,fun t m=>?_,S.disj⟩
  rcases List.mem_cons.mp m with rfl | m
  · exact ⟨fun z=>absurd (S.frLt z) (Nat.lt_irrefl _),S.gNone,o,ts,Heap.get?_push_size _ hf,hd,hz⟩
  · exact S'.tbs t m
end
section
variable {g:Gd} {hnd:Option Nat} {dep:Nat} {c:Cc} {σ:List AObj} {fs:List Out} {A:Around} {E:Value→Shared→Prop} {s:Shared}
theorem Hp.upd (H:Hp g hnd dep c σ fs A s) {c':Cc} {σ':List AObj} {h':Heap} {tk:Nat} (x:Ext c c') (S:St g.hb c' σ' (fs.map fun o=>(o.env.locals,o.m)) h') (l:∀ a∈c'.r,1 < a:=by exact H.low):Hp g hnd dep c' σ' fs A {s with heap:=h',toks:=tk} :=
  ⟨S,fun a o e=>x.G a o (H.base a o e),x.w.trans H.w,H.frames,H.guards,H.fok,H.depth,H.units,(by
    have:=H.hnd
    cases hnd with
    | none=>exact this
    | some i=>obtain ⟨a,p,q⟩:=this;exact ⟨a,x.r _ _ p,q⟩),H.gens,H.os,l⟩
theorem Hp.size (H:Hp g hnd dep c σ fs A s):1 < s.heap.objs.size:=by
  have:=H.T.g.lt
  exact Nat.lt_of_le_of_lt (by decide:1≤mainGlobals) this
theorem Hp.alloc (H:Hp g hnd dep c σ fs A s) {o:Obj} {b:AObj} {tk:Nat} (hf:o.isFreed=false) (r:ORel g.hb (c.addR s.heap.objs.size) b o) :
    Hp g hnd dep (c.addR s.heap.objs.size) (σ++[b]) fs A {s with heap:=s.heap.push o,toks:=tk} :=
  H.upd (Ext.addR c _) (H.st.newMut (fun _ _ e=>Heap.get?_push_of_some _ e) (Heap.get?_push_size _ hf) r) fun a m=>by
    rcases List.mem_append.mp (show a∈c.r++[s.heap.objs.size] from m) with m | m
    · exact H.low a m
    · rw [List.mem_singleton.mp m];exact H.size
theorem Hp.allocI (H:Hp g hnd dep c σ fs A s) {o:Obj} {tk:Nat} (hf:o.isFreed=false) :
    Hp g hnd dep (c.addG s.heap.objs.size o) σ fs A {s with heap:=s.heap.push o,toks:=tk} :=
  H.upd (Ext.addG o H.st.gNone) (H.st.newImm (fun _ _ e=>Heap.get?_push_of_some _ e) (Heap.get?_push_size _ hf))
theorem Hp.tick (H:Hp g hnd dep c σ fs A s) (tk:Nat):Hp g hnd dep c σ fs A {s with toks:=tk}:=H.upd (.refl c) H.st
theorem Hp.notMods (H:Hp g hnd dep c σ fs A s) {i:Nat} {a:Addr} (h:c.r[i]?=some a):(a == sysModules)=false:=by
  have:=H.low a (List.mem_of_getElem? h)
  exact beq_eq_false_iff_ne.mpr fun e=>by rw [e] at this;exact absurd this (by decide)
theorem Hp.funFrames (H:Hp g hnd dep c σ fs A s):s.heap.FunFrames {} (fs.map (·.env)):=by
  have fr:=H.st.fr
  have fok:=H.fok
  generalize fs=l at fr fok
  induction l with
  | nil=>trivial
  | cons o r ih =>
    obtain ⟨f1,f2⟩:=fok o (.head _)
    refine ⟨by rw [f2];decide,?_,ih (fun f m=>fr f (.tail _ m)) fun o m=>fok o (.tail _ m)⟩
    obtain ⟨ob,es,ep,ho,hd,_⟩:=fr _ (.head _)
    exact ⟨o.env.locals,ob,f1,by unfold Heap.get?;simp,ho,fun vs q=>by rw [hd] at q;cases q⟩
theorem Hp.frameAddrs (H:Hp g hnd dep c σ fs A s):(fs.map (·.env)).filterMap (·.frame)=(fs.map fun o=>(o.env.locals,o.m)).map (·.1):=by
  have fok:=H.fok
  generalize fs=l at fok
  induction l with
  | nil=>rfl
  | cons o r ih =>
    rw [List.map_cons,List.filterMap_cons,(fok o (.head _)).1,ih fun o m=>fok o (.tail _ m)]
    rfl
theorem noteFrame_ok {o:Out} {os:List Out} {i:Nat} {e C:Addr} {d:Option Nat} {tr:Bool} {Q:Unit→Shared→Prop} (H:Hp g hnd dep c σ (o::os) A s) (he:c.r[i]?=some e) (hi:σ[i]?=some (.exc C d tr))
    (k:∀ c' s',Ext c c'→Hp g hnd dep c' (σ.set i (.exc C d true)) (o::os) A s'→Q () s'):wpAny (model g.prog g.w) A (noteFrame (.ref e) o.env) Q E s:=by
  obtain ⟨oe,ho,hcl,hdc,vs,hd,hsz,htb,hcx⟩:=H.st.at he hi
  have hf:=(H.fok o (.head _)).1
  have same:∀ {c' h'} (v:Value) (vs':Array Value) (oe':Obj),Ext c c'→St g.hb c' σ ((o::os).map fun o=>(o.env.locals,o.m)) h'→h'.get? e=some oe'→oe'.data=.fields vs'→vs'.size=vs.size→vs'[2]?=some .none→oe'.cls=oe.cls→oe'.dict=oe.dict →
      (∃ t,v=.ref t∧t∈c'.tb)→St g.hb c' (σ.set i (.exc C d true)) ((o::os).map fun o=>(o.env.locals,o.m)) (h'.update e (Obj.mapFields (·.setIfInBounds 1 v))):=by
    intro c' h' v vs' oe' x S p q z z0 z1 z2 ⟨t,hv,ht⟩
    obtain ⟨e1,e2,e3,e4⟩:=fields_set q 1 v
    refine S.upd (x.r _ _ he) (.update ..) (Heap.get?_update_self _ p e4) ⟨by rw [e2,z1];exact hcl,?_,_,e1,by simp [z];omega,⟨.inr ⟨t,by rw [hv,Array.getElem?_setIfInBounds_self_of_lt (by omega)],ht⟩,by rw [Array.getElem?_setIfInBounds_ne (by decide)];exact z0⟩⟩
    rw [e3,z2]
    cases d with
    | none=>exact hdc
    | some j=>obtain ⟨a,p,q⟩:=hdc;exact ⟨a,x.r _ _ p,q⟩
  
  have entry:∀ (s₁:Shared) (head:Value) (b:Bool) (oe₁:Obj),Hp g hnd dep c σ (o::os) A s₁→s₁.heap.get? e=some oe₁→oe₁.data=.fields vs→oe₁.cls=oe.cls→oe₁.dict=oe.dict →
      (∀ c' s',Ext c c'→Hp g hnd dep c' (σ.set i (.exc C d true)) (o::os) A s'→Q () s') →
      wpAny (model g.prog g.w) A (do let a ← frameOf o.env;let pl ← entryPlaceOf o.env.locals b;let b ← EntryCells.newEntry head a .none (rawInt o.env.locals) .none pl;setField (.ref e) 1 b) Q E s₁:=by
    intro s₁ head b oe₁ H₁ ho₁ hd₁ z1 z2 k
    refine wpAny_bind (wpAny_frameOf_fun H₁.frames H₁.funFrames hf fun h₂ hs₂=>?_)
    have hs₂:Heap.SlotsOnly (((o::os).map (·.env)).filterMap (·.frame)) s₁.heap h₂:=hs₂
    rw [H₁.frameAddrs] at hs₂
    have S₂:=H₁.st.slots hs₂
    have en:e ∉ ((o::os).map fun o=>(o.env.locals,o.m)).map (·.1):=fun m=>(List.nodup_append.mp H₁.st.nd).2.2 e m e (List.mem_of_getElem? he) rfl
    refine wpAny_bind (wpAny_entryPlaceOf fun pl hpl=>?_)
    unfold EntryCells.newEntry newFields
    refine wpAny_bind (wpAny_newObj_type ?_ (hpl.sizeOk5 _ _ _ _ _))
    have ho₂:h₂.get? e=some oe₁:=(hs₂.2.1 e en).trans ho₁
    have S₃:=S₂.newTb (o:={cls:=.type "traceback",dict:=none,data:=.fields ([head,.ref o.env.locals,.none,rawInt o.env.locals,.none]++(if pl.isEmpty then List.replicate 6 Value.none else pl)).toArray}) rfl (by simp only [List.size_toArray,List.length_append,List.length_cons,List.length_nil];omega) rfl
    have ho₃:=Heap.get?_push_of_some (h:=h₂) {cls:=.type "traceback",dict:=none,data:=.fields ([head,.ref o.env.locals,.none,rawInt o.env.locals,.none]++(if pl.isEmpty then List.replicate 6 Value.none else pl)).toArray} ho₂
    refine wpAny_setField ho₃ hd₁ (by omega) ?_
    refine k _ _ (Ext.addT c _) (H₁.upd (tk:=s₁.toks) (Ext.addT c _) (same _ vs oe₁ (Ext.addT c _) S₃ ho₃ hd₁ rfl hcx z1 z2 ⟨_,rfl,.head _⟩))
  unfold noteFrame
  simp only [hf]
  rcases htb with ⟨_,h1⟩ | ⟨t,h1,ht⟩
  · refine wpAny_bind (wpAny_field ho hd h1 ?_)
    rw [if_neg (by decide)]
    exact entry s _ _ oe H ho hd rfl rfl k
  · refine wpAny_bind (wpAny_field ho hd h1 ?_)
    rw [if_pos (show (Value.ref t != Value.none)=true from by simp)]
    obtain ⟨p,q,ot,ts,hot,hdt,hzt⟩:=H.st.tbs t ht
    have l3:ts[3]?=some ts[3]:=Array.getElem?_eq_getElem (by omega)
    refine wpAny_bind (wpAny_field hot hdt l3 ?_)
    split
    · refine wpAny_pure (k c s (.refl c) ?_)
      have:=H.upd (tk:=s.toks) (.refl c) (H.st.upd (b:=.exc C d true) he (.refl e s.heap) ho ⟨hcl,hdc,vs,hd,hsz,.inr ⟨t,h1,ht⟩,hcx⟩)
      exact this
    · refine wpAny_bind (wpAny_setField hot hdt (by omega) ?_)
      have te:e ≠ t:=fun z=>p (List.mem_append_right _ (z▸List.mem_of_getElem? he))
      refine entry _ _ _ oe (H.upd (tk:=s.toks) (.refl c) (H.st.setTb ht hot hdt 3 .none)) ((Heap.get?_update_other _ _ (Ne.symm te)).trans ho) hd rfl rfl fun c' s' x H'=>k c' s' x H'
theorem setFlight_ok {i:Nat} {e C:Addr} {d:Option Nat} {fr:Option Addr} {Q:Unit→Shared→Prop} (H:Hp g hnd dep c σ fs A s) (he:c.r[i]?=some e) (hi:∃ tr,σ[i]?=some (.exc C d tr))
    (k:∀ s',Hp g hnd dep c σ fs A s'→Q () s'):wpAny (model g.prog g.w) A (setFlight (.ref e) fr) Q E s:=by
  obtain ⟨tr,hi⟩:=hi
  obtain ⟨oe,ho,hcl,hdc,vs,hd,hsz,htb,hcx⟩:=H.st.at he hi
  unfold setFlight
  rcases htb with ⟨_,h1⟩ | ⟨t,h1,ht⟩
  · refine wpAny_bind (wpAny_field ho hd h1 ?_)
    rw [if_neg (by decide)]
    exact wpAny_pure (k s H)
  · refine wpAny_bind (wpAny_field ho hd h1 ?_)
    rw [if_pos (show (Value.ref t != Value.none)=true from by simp)]
    obtain ⟨p,q,ot,ts,hot,hdt,hzt⟩:=H.st.tbs t ht
    exact wpAny_setField hot hdt (by omega) (k _ (H.upd (tk:=s.toks) (.refl c) (H.st.setTb ht hot hdt 3 _)))
theorem leaving_ok {o:Out} {os:List Out} {i:Nat} {e C:Addr} {d:Option Nat} {tr:Bool} {Q:Unit→Shared→Prop} (H:Hp g hnd dep c σ (o::os) A s) (he:c.r[i]?=some e) (hi:σ[i]?=some (.exc C d tr))
    (k:∀ c' s',Ext c c'→Hp g hnd dep c' (σ.set i (.exc C d true)) (o::os) A s'→Q () s'):wpAny (model g.prog g.w) A (leaving o.env (.ref e)) Q E s:=by
  unfold leaving
  refine wpAny_bind (noteFrame_ok H he hi fun c' s' x H'=>setFlight_ok (C:=C) (d:=d) H' (x.r _ _ he) ⟨true,?_⟩ fun s'' H''=>k c' s'' x H'')
  rw [List.getElem?_set_self' ,hi];rfl
theorem passOn_ok {α:Type} {what:String} {o:Out} {i:Nat} {e C:Addr} {d:Option Nat} {Q:α→Shared→Prop} (H:Hp g hnd dep c σ fs A s) (he:c.r[i]?=some e) (hi:σ[i]?=some (.exc C d true))
    (k:∀ s',Hp g hnd dep c σ fs A s'→E (.ref e) s'):wpAny (model g.prog g.w) A (PySem.passOn what (.ref e) o.env) Q E s:=by
  obtain ⟨oe,ho,hcl,hdc,vs,hd,hsz,htb,hcx⟩:=H.st.at he hi
  rcases htb with ⟨h0,_⟩ | ⟨t,h1,ht⟩
  · cases h0
  · unfold PySem.passOn
    refine wpAny_bind (wpAny_field ho hd h1 ?_)
    rw [if_neg (by simp)]
    exact wpAny_bind (setFlight_ok H he ⟨true,hi⟩ fun s' H'=>wpAny_throw (k s' H'))
end
end T
namespace T
noncomputable def putS {β:Type}:List (Str × β)→Str→β→List (Str × β)
  | [],k,v=>[(k,v)]
  | p::r,k,v=>cond (seq k p.1) ((p.1,v)::r) (p::putS r k v)
section
variable {c:Cc}
theorem isStr_seq (k name:Str) (t:Tok):(Value.str k t).isStr name=seq name k:=by
  rw [seq_beq]
  show (k == name)=(name == k)
  rw [Bool.eq_iff_iff,beq_iff_eq,beq_iff_eq]
  exact eq_comm
noncomputable def Found (c:Cc) (o:Option Value) (a:Option AV):Prop:=match a with
  | some a=>∃ v,o=some v∧VRel c a v
  | none=>o=none
theorem SRels.look {es:List (Str × AV)} {ens:List DictEntry} (h:SRels c es ens) (name:Str):Found c ((ens.find? (·.key.isStr name)).map (·.val)) (lk es name) :=
  h.ind (P:=fun es ens=>Found c ((ens.find? (·.key.isStr name)).map (·.val)) (lk es name)) rfl fun p es e ens t _ h2 h3 _ ih=>by
    show Found c _ (cond (seq name p.1) (some p.2) (lk es name))
    rw [List.find?_cons,h2,isStr_seq]
    cases seq name p.1 with
    | true=>exact ⟨_,rfl,h3⟩
    | false=>exact ih
theorem SRels.noRef {es:List (Str × AV)} {ens:List DictEntry} (h:SRels c es ens):ens.any (·.refKey)=false :=
  h.ind (P:=fun _ ens=>ens.any (·.refKey)=false) rfl fun _ _ e _ t _ h2 _ _ ih=>by
    rw [List.any_cons,ih,show e.refKey=false from by delta DictEntry.refKey;rw [h2]];rfl
theorem SRels.length {es:List (Str × AV)} {ens:List DictEntry} (h:SRels c es ens):ens.length=es.length :=
  h.ind (P:=fun es ens=>ens.length=es.length) rfl fun _ _ _ _ _ _ _ _ _ ih=>congrArg (·+1) ih
theorem SRels.lookIn {es:List (Str × AV)} {ens:Array DictEntry} {n:Nat} (h:SRels c es ens.toList) (name:Str):∃ o,lookIn name (dictObj ens n)=some o∧Found c o (lk es name):=by
  refine ⟨_,?_,h.look name⟩
  delta PySem.W.lookIn
  show (match ens.toList.find? (·.key.isStr name) with | some e=>some (some e.val) | none=>if ens.toList.any (·.refKey) then none else some none)=_
  rw [h.noRef]
  cases ens.toList.find? (·.key.isStr name)<;>rfl
theorem SRels.put {es:List (Str × AV)} {ens:List DictEntry} (h:SRels c es ens) {name:Str} {a:AV} {v:Value} {tk:Tok} (hv:VRel c a v):SRels c (putS es name a) (putL name (hashStr c.w name) (.str name tk) v ens) :=
  h.ind (P:=fun es ens=>SRels c (putS es name a) (putL name (hashStr c.w name) (.str name tk) v ens)) (.cons rfl rfl hv .nil) fun p es e ens t h1 h2 h3 h4 ih=>by
    show SRels c (cond (seq name p.1) ((p.1,a)::es) (p::putS es name a)) (if e.key.isStr name then _ else _)
    rw [h2,isStr_seq]
    cases seq name p.1 with
    | true=>exact .cons h1 rfl hv h4
    | false=>exact .cons h1 h2 h3 ih
theorem putS_length {β:Type} (es:List (Str × β)) (k:Str) (v:β):(putS es k v).length≤es.length+1:=by
  induction es with
  | nil=>exact Nat.le_refl _
  | cons p r ih =>
    show (cond (seq k p.1) ((p.1,v)::r) (p::putS r k v)).length≤_
    cases seq k p.1 with
    | true=>exact Nat.le_succ _
    | false=>exact Nat.succ_le_succ ih
theorem inst_at {g:Gd} {hnd:Option Nat} {dep:Nat} {σ:List AObj} {fs:List Out} {A:Around} {s:Shared} {C x dx:Addr} {d:Nat} {sy:Bool} {es:List (Str × AV)}
    (H:Hp g hnd dep c σ fs A s) (h1:c.r[d]?=some dx) (h2:c.G x=some (instObj C dx)) (hd:σ[d]?=some (.sd sy es)):∃ ens n,InstAt s.heap x (instObj C dx) C (some (dictObj ens n))∧SRels c es ens.toList :=
  let ⟨_,p,ens,n,e,q⟩:=H.st.at h1 hd
  ⟨ens,n,⟨H.st.keep _ _ (.inl h2),rfl,rfl,p.trans (congrArg some e)⟩,q⟩
end
noncomputable def AttrOk (K:Frag) (C:Addr) (n:Str):Prop :=
  plainGet K C n=true∧hasDictIn K C=true∧(∃ attr,findIn K (.ref C) n=some attr∧noGet K attr=true) ∧
  findIn K (.ref C) "__setattr__" = some (some (.builtin "object.__setattr__"))∧plainOver K C=true∧takerIn K C n=some none
noncomputable def bare:AV→Bool
  | .bi _=>false
  | .op _=>false
  | .any=>false
  | _=>true
theorem bare_handed {c:Cc} {a:AV} {v:Value} (h:VRel c a v):bare a=true→handedIn v=true :=
  VRel.casesOn (motive_1:=fun a v _=>bare a=true→handedIn v=true) h (fun _=>rfl) (fun _ _=>rfl) (fun _ _ _=>rfl) (fun _ _ _=>rfl) (fun _ _ _=>rfl) (fun _ _ _=>rfl) (fun _ _=>rfl) (fun _ _=>rfl) (fun _ e=>nomatch e) (fun _ _=>rfl) (fun _ _ _=>rfl) (fun _ _ _=>rfl) (fun _ _ _=>rfl)
    (fun _ _ _ _=>rfl) (fun _ _ _ _=>rfl) (fun _ e=>nomatch e) (fun _ _ _ _=>rfl) (fun _ _ e=>nomatch e) (fun _ _=>rfl)
noncomputable def memP {α:Type} (p:α→Bool):List α→Bool
  | []=>false
  | x::r=>cond (p x) true (memP p r)
theorem memP_iff {α:Type} {p:α→Bool} {l:List α}:memP p l=true ↔ ∃ x∈l,p x=true:=by
  induction l with
  | nil=>exact ⟨nofun,fun ⟨_,m,_⟩=>nomatch m⟩
  | cons x r ih =>
    show cond (p x) true (memP p r)=true ↔ _
    cases q:p x with
    | true=>exact ⟨fun _=>⟨x,.head _,q⟩,fun _=>rfl⟩
    | false=>exact ih.trans ⟨fun ⟨y,m,e⟩=>⟨y,.tail _ m,e⟩,fun ⟨y,m,e⟩=>(List.mem_cons.mp m).elim (fun z=>by rw [← z,e] at q;cases q) fun m=>⟨y,m,e⟩⟩
theorem cond_ff {a b:Bool} (h:cond a b false=true):a=true∧b=true:=by
  cases a with
  | true=>exact ⟨rfl,h⟩
  | false=>cases h
noncomputable def atIn (tab:List (Addr × Str)) (C:Addr) (n:Str):Bool:=memP (fun p=>cond (Nat.beq p.1 C) (seq p.2 n) false) tab
theorem atIn_mem {tab:List (Addr × Str)} {C:Addr} {n:Str} (h:atIn tab C n=true):(C,n)∈tab :=
  let ⟨_,m,e⟩:=memP_iff.mp h
  Nat.eq_of_beq_eq_true (cond_ff e).1▸seq_iff.mp (cond_ff e).2▸m
noncomputable def instC {γ:Type} (v:AV) (fi:Addr→Nat→Option γ) (ff:Addr→List (Str × AV)→Option γ):Option γ:=match v with
  | .inst C d=>fi C d
  | .fi C fs=>ff C fs
  | _=>none
theorem Ok.instC {γ:Type} {C:γ→Prop} {c:Cc} {G:Value→Prop} {fi:Addr→Nat→Option γ} {ff:Addr→List (Str × AV)→Option γ} {a:AV} {v:Value} (P:Ok C (T.instC a fi ff)) (hv:VRel c a v)
    (hi:∀ D d x dx,c.r[d]?=some dx→c.G x=some (instObj D dx)→Ok C (fi D d)→G (.ref x)) (hf:∀ D fs x dx ens n,c.G x=some (instObj D dx)→c.G dx=some (dictObj ens n)→SRels c fs ens.toList→Ok C (ff D fs)→G (.ref x)):G v:=by
  cases a with
  | inst D d=>exact hv.elim fun x dx h1 h2=>hi D d x dx h1 h2 P
  | fi D fs=>exact hv.elim fun x dx ens n h1 h2 h3=>hf D fs x dx ens n h1 h2 h3 P
  | _=>exact P.no
noncomputable def opGet (tab:List (Addr × Str)) (v:AV) (n:Str):Rd→List AObj→Option (AV × List AObj):=fun _ σ=>instC v
  (fun C d=>gdO (atIn tab C n) (objC σ[d]? none (fun _ es=>obn (lk es n) fun a=>gdO (bare a) (some (a,σ))) (fun _ _=>none) (fun _=>none)))
  (fun C fs=>gdO (atIn tab C n) (obn (lk fs n) fun a=>gdO (bare a) (some (a,σ))))
theorem get_ok {g:Gd} {hnd:Option Nat} {dep:Nat} {c:Cc} {σ:List AObj} {fs:List Out} {A:Around} {s:Shared} {Q:Value→Shared→Prop} {E:Value→Shared→Prop} {C xa dx:Addr} {ens:Array DictEntry} {m:Nat} {es:List (Str × AV)} {n:Str} {a:AV} {ex:Bool}
    (H:Hp g hnd dep c σ fs A s) (ok:AttrOk g.K C n) (I:InstAt s.heap xa (instObj C dx) C (some (dictObj ens m))) (R:SRels c es ens.toList) (l:lk es n=some a) (b:bare a=true) (k:∀ v,VRel c a v→Q v {s with toks:=s.toks+1}):wpAny (model g.prog g.w) A (getAttr (.ref xa) n ex) Q E s:=by
  obtain ⟨h1,h2,⟨attr,h3,h4⟩,_⟩:=ok
  obtain ⟨o,q1,q2⟩:=R.lookIn (n:=m) n
  rw [l] at q2
  obtain ⟨v,e,q2⟩:=q2
  exact get_value H.K I (plainGet_of h1).1 (findObj_own h2 h3 h4 (e▸q1)) (bare_handed q2 b) (k v q2)
theorem leaf_get {g:Gd} {c₀:Cc} {tab:List (Addr × Str)} (ht:∀ p∈tab,AttrOk g.K p.1 p.2) {v:AV} {v':Value} {n:Str} {ex:Bool} (hv:VRel c₀ v v'):Leaf g c₀ (opGet tab v n) (getAttr v' n ex) VRel :=
  .s fun rd σ c fs A s Q E C x H k P=>P.instC (G:=fun v'=>wpAny (model g.prog g.w) A (getAttr v' n ex) Q E s) (hv.mono x)
    (fun _ _ _ _ r1 r2 P=>P.gdO fun e P=>P.objC (fun _ P=>P.no) (fun _ _ e2 P=>P.obn fun _ l P=>P.gdO fun b P=>let ⟨_,_,I,R⟩:=inst_at H r1 r2 e2;get_ok H (ht _ (atIn_mem e)) I R l b fun v h=>k _ _ c _ v P (.refl c) (H.upd (tk:=s.toks+1) (.refl c) H.st) h) (fun _ _ _ P=>P.no) fun _ _ P=>P.no)
    fun _ _ _ _ _ _ r1 r2 R P=>P.gdO fun e P=>P.obn fun _ l P=>P.gdO fun b P=>get_ok H (ht _ (atIn_mem e)) ⟨H.st.keep _ _ (.inl r1),rfl,rfl,H.st.keep _ _ (.inl r2)⟩ R l b fun v h=>k _ _ c _ v P (.refl c) (H.upd (tk:=s.toks+1) (.refl c) H.st) h
noncomputable def opSet (tab:List (Addr × Str)) (v:AV) (n:Str) (b:AV):Rd→List AObj→Option (Unit × List AObj):=fun _ σ=>instC v
  (fun C d=>gdO (atIn tab C n) (objC σ[d]? (some ((),σ.set d (.sd false [(n,b)]))) (fun sy es=>gdO (cond sy false (Nat.ble es.length 900)) (some ((),σ.set d (.sd false (putS es n b))))) (fun _ _=>none) (fun _=>none)))
  (fun _ _=>none)
theorem setAttr_inst {g:Gd} {A:Around} {E:Value→Shared→Prop} {s:Shared} {C x dx:Addr} {ens:Array DictEntry} {m:Nat} {n:Str} {v:Value} {Q:Unit→Shared→Prop} {es:List (Str × AV)} {c:Cc}
    (X:g.K.In s.heap) (I:InstAt s.heap x (instObj C dx) C (some (dictObj ens m))) (R:SRels c es ens.toList) (hw:c.w=g.w) (ok:AttrOk g.K C n) (hz:es.length≤900)
    (k:∀ h' m',Heap.SameBut dx s.heap h'→h'.get? dx=some (dictObj (putL n (hashStr g.w n) (.str n (s.toks+1)) v ens.toList).toArray m')→Q () {s with heap:=h',toks:=s.toks+2}) :
    wpAny (model g.prog g.w) A (setAttr (.ref x) n v) Q E s:=by
  obtain ⟨_,h2,_,h5,h6,h7⟩:=ok
  refine set_plain X I h5 ?_
  refine osa_open X I h6 h7 fun b=>?_
  obtain ⟨cd,hc,hd'⟩:=any_some h2
  have D:=I.dict
  dsimp only at D
  have hx:=I.at_
  refine wpAny_bind (wpAny_pure (wpAny_bind (wpAny_bind (wpAny_loadPart hx (wpAny_bind (Looks.here (s:={s with toks:=s.toks+1}) (looks_clsIn X hc) ?_))))))
  rw [hd']
  refine wpAny_pure (a:=some dx) (wpAny_bind (wpAny_pure (wpAny_bind ?_)))
  unfold nsSet
  refine wpAny_bind (wpAny_bind (wpAny_askSetting (wpAny_pure (wpAny_bind (wpAny_mkText (wpAny_bind (wpAny_loadPart D ?_)))))))
  have nr:ens.any (·.refKey)=false:=by rw [← Array.any_toList];exact R.noRef
  dsimp only
  rw [aRefKeyMayBeTheName_at,nr,Bool.and_false]
  refine wpAny_updatePart D ?_
  have pe:Obj.putName n (hashStr g.w n) (.str n (s.toks+1)) v (dictObj ens m)=dictOf (putL n (hashStr g.w n) (.str n (s.toks+1)) v ens.toList) (putN n ens.toList m):=by
    rw [← putName_dict]
  have D':(s.heap.update dx (Obj.putName n (hashStr g.w n) (.str n (s.toks+1)) v)).get? dx=some (dictOf (putL n (hashStr g.w n) (.str n (s.toks+1)) v ens.toList) (putN n ens.toList m)):=by
    rw [← pe]
    exact Heap.get?_update_self _ D (by rw [pe];rfl)
  have len:(putL n (hashStr g.w n) (.str n (s.toks+1)) v ens.toList).length≤901:=by
    have b:=((hw▸R.put (name:=n) (tk:=s.toks+1) (VRel.any v)):SRels c (putS es n .any) (putL n (hashStr g.w n) (.str n (s.toks+1)) v ens.toList)).length
    rw [b]
    exact Nat.le_trans (putS_length _ _ _) (Nat.succ_le_succ hz)
  refine wpAny_bind (wpAny_lookBehind D' (pastItsLine_dict (by rw [List.size_toArray,sizeLine_eq];omega)) ?_)
  exact wpAny_pure (k _ _ (.update ..) D')
theorem cond_sy {sy b:Bool} (h:cond sy false b=true):b=true:=by
  cases sy with
  | true=>cases h
  | false=>exact h
theorem leaf_set {g:Gd} {c₀:Cc} {tab:List (Addr × Str)} (ht:∀ p∈tab,AttrOk g.K p.1 p.2) {v b:AV} {v' b':Value} {n:Str} (hv:VRel c₀ v v') (hb:VRel c₀ b b'):Leaf g c₀ (opSet tab v n b) (setAttr v' n b') (fun _ _ _=>True) :=
  .s fun rd σ c fs A s Q E C x H k P=>P.instC (G:=fun v'=>wpAny (model g.prog g.w) A (setAttr v' n b') Q E s) (hv.mono x)
    (fun D d z dx r1 r2 P=>P.gdO fun e P =>
      have go:∀ {es:List (Str × AV)} {ens:Array DictEntry} {m:Nat},SRels c es ens.toList→InstAt s.heap z (instObj D dx) D (some (dictObj ens m))→es.length≤900→C ((),σ.set d (.sd false (putS es n b)))→wpAny (model g.prog g.w) A (setAttr (.ref z) n b') Q E s :=
        fun R I hz P=>setAttr_inst H.K I R H.w (ht _ (atIn_mem e)) hz fun h' m' hs hg=>k () _ c _ () P (.refl c) (H.upd (.refl c) (H.st.upd r1 hs hg ⟨_,m',rfl,H.w▸R.put (hb.mono x)⟩)) trivial
      P.objC (fun e2 P=>let ⟨_,p,_,e⟩:=H.st.at r1 e2;go (es:=[]) (ens:=#[]) .nil ⟨H.st.keep _ _ (.inl r2),rfl,rfl,p.trans (congrArg some e)⟩ (Nat.zero_le _) P)
        (fun _ _ e2 P=>P.gdO fun l P=>let ⟨_,_,I,R⟩:=inst_at H r1 r2 e2;go R I (Nat.le_of_ble_eq_true (cond_sy l)) P) (fun _ _ _ P=>P.no) fun _ _ P=>P.no)
    fun _ _ _ _ _ _ _ _ _ P=>P.no
end T
namespace T
section
variable {K:Type} [DecidableEq K]
noncomputable def lkD {β:Type}:List (K × β)→K→Option β
  | [],_=>none
  | p::r,k=>if p.1=k then some p.2 else lkD r k
noncomputable def putD {β:Type}:List (K × β)→K→β→List (K × β)
  | [],k,v=>[(k,v)]
  | p::r,k,v=>if p.1=k then (p.1,v)::r else p::putD r k v
theorem putD_cons {β:Type} (p:K × β) (r:List (K × β)) (k:K) (v:β):putD (p::r) k v=if p.1=k then (p.1,v)::r else p::putD r k v:=rfl
noncomputable def delD {β:Type}:List (K × β)→K→List (K × β)
  | [],_=>[]
  | p::r,k=>if p.1=k then r else p::delD r k
end
noncomputable def delS {β:Type}:List (Str × β)→Str→List (Str × β)
  | [],_=>[]
  | p::r,k=>cond (seq k p.1) r (p::delS r k)
theorem ite_seq {α:Type} (p k:Str) (x y:α):(if p=k then x else y)=cond (seq k p) x y:=by
  cases q:seq k p with
  | true=>exact if_pos (seq_iff.mp q).symm
  | false=>exact if_neg fun e=>by rw [seq_iff.mpr e.symm] at q;cases q
theorem lkD_lk {β:Type} (l:List (Str × β)) (k:Str):lkD l k=lk l k:=by
  induction l with
  | nil=>rfl
  | cons p r ih=>exact (ite_seq p.1 k (some p.2) (lkD r k)).trans (congrArg _ ih)
theorem putD_putS {β:Type} (l:List (Str × β)) (k:Str) (v:β):putD l k v=putS l k v:=by
  induction l with
  | nil=>rfl
  | cons p r ih=>exact (ite_seq p.1 k ((p.1,v)::r) (p::putD r k v)).trans (congrArg (fun z=>cond (seq k p.1) ((p.1,v)::r) (p::z)) ih)
theorem delD_delS {β:Type} (l:List (Str × β)) (k:Str):delD l k=delS l k:=by
  induction l with
  | nil=>rfl
  | cons p r ih=>exact (ite_seq p.1 k r (p::delD r k)).trans (congrArg (fun z=>cond (seq k p.1) r (p::z)) ih)
section
variable {prog:Program} {w:World} {K:Type} [DecidableEq K] {knd:KeyKind prog w K} {c:Cc}
inductive DR (c:Cc) (knd:KeyKind prog w K):List (K × AV)→List DictEntry→Prop
  | nil:DR c knd [] []
  | cons {k a e es ens}:e.hash=knd.hash k→knd.is k e.key=true→VRel c a e.val→DR c knd es ens→DR c knd ((k,a)::es) (e::ens)
theorem DR.keys {es:List (K × AV)} {ens:List DictEntry} (h:DR c knd es ens):∀ e∈ens,∃ k,knd.is k e.key=true∧e.hash=knd.hash k:=by
  induction h with
  | nil=>exact fun e m=>nomatch m
  | cons h1 h2 _ _ ih=>exact fun e m=>(List.mem_cons.mp m).elim (fun q=>q▸⟨_,h2,h1⟩) (ih e)
theorem DR.length {es:List (K × AV)} {ens:List DictEntry} (h:DR c knd es ens):ens.length=es.length:=by
  induction h with
  | nil=>rfl
  | cons _ _ _ _ ih=>exact congrArg (·+1) ih
inductive DIx (c:Cc) (knd:KeyKind prog w K) (es:List (K × AV)) (ens:List DictEntry) (k:K):Option AV→Prop
  | there (a i e):ens.findIdx? (fun e=>knd.is k e.key)=some i→ens[i]?=some e→VRel c a e.val→DR c knd (delD es k) (ens.eraseIdx i)→(∀ b v,VRel c b v→DR c knd (putD es k b) (ens.modify i fun e=>{e with val:=v}))→DIx c knd es ens k (some a)
  | not:ens.findIdx? (fun e=>knd.is k e.key)=none→(∀ key b v,knd.is k key=true→VRel c b v→DR c knd (putD es k b) (ens++[⟨knd.hash k,key,v⟩]))→DIx c knd es ens k none
theorem DR.idx {es:List (K × AV)} {ens:List DictEntry} (h:DR c knd es ens) (k:K):DIx c knd es ens k (lkD es k):=by
  induction h with
  | nil=>exact .not rfl fun key b v h1 h2=>.cons rfl h1 h2 .nil
  | @cons k' a e es ens h1 h2 h3 h4 ih =>
    have fi:∀ {b:Bool},decide (k=k')=b→(e::ens).findIdx? (fun e=>knd.is k e.key)=if b then some 0 else (ens.findIdx? fun e=>knd.is k e.key).map (·+1):=fun q=>by
      rw [List.findIdx?_cons,KeyKind.is_eq_decide h2 k,q]
    by_cases q:k'=k
    · have d1:delD ((k',a)::es) k=es:=if_pos q
      have l1:lkD ((k',a)::es) k=some a:=if_pos q
      rw [l1]
      exact .there a 0 e (fi (decide_eq_true q.symm)) rfl h3 (by rw [d1];exact h4) fun b v hb=>by rw [show putD ((k',a)::es) k b=(k',b)::es from if_pos q];exact .cons h1 h2 hb h4
    · have d1:delD ((k',a)::es) k=(k',a)::delD es k:=if_neg q
      have l1:lkD ((k',a)::es) k=lkD es k:=if_neg q
      have p1:∀ b,putD ((k',a)::es) k b=(k',a)::putD es k b:=fun b=>if_neg q
      have f1:=fi (decide_eq_false fun e=>q e.symm)
      rw [l1]
      generalize lkD es k=o at ih
      cases ih with
      | there a' i e' x1 x2 x3 x4 x5=>exact .there a' (i+1) e' (f1.trans (by rw [x1];rfl)) x2 x3 (by rw [d1];exact .cons h1 h2 h3 x4) fun b v hb=>by rw [p1];exact .cons h1 h2 h3 (x5 b v hb)
      | not x1 x2=>exact .not (f1.trans (by rw [x1];rfl)) fun key b v y1 y2=>by rw [p1];exact .cons h1 h2 h3 (x2 key b v y1 y2)
noncomputable def DAt (h:Heap) (c:Cc) (knd:KeyKind prog w K) (d:Addr) (es:List (K × AV)):Prop:=∃ ens n,h.get? d=some (dictObj ens n)∧DR c knd es ens.toList
theorem keys_arr {es:List (K × AV)} {ens:Array DictEntry} (r:DR c knd es ens.toList):KeysOf knd ens:=fun e m=>r.keys e (Array.mem_toList_iff.mpr m)
theorem findIdx_arr {p:DictEntry→Bool} {ens:Array DictEntry}:ens.findIdx? p=ens.toList.findIdx? p:=by
  obtain ⟨l⟩:=ens
  exact List.findIdx?_toArray ..
theorem DR.mapOf {es:List (K × AV)} {ens:Array DictEntry} {n:Nat} {h:Heap} {d:Addr} (hg:h.get? d=some (dictObj ens n)) (r:DR c knd es ens.toList):h.MapOf knd d (fun k=>findBy knd.is ens k) :=
  ⟨_,ens,n,hg,⟨rfl,rfl,rfl⟩,rfl,keys_arr r,fun _=>rfl⟩
theorem DR.findBy {es:List (K × AV)} {ens:Array DictEntry} (r:DR c knd es ens.toList) (k:K):Found c (findBy knd.is ens k) (lkD es k):=by
  rw [findBy_of_findIdx?,findIdx_arr]
  have q:=r.idx k
  generalize lkD es k=o at q ⊢
  cases q with
  | there a i e x1 x2 x3 x4 x5 =>
    rw [x1]
    refine ⟨e.val,?_,x3⟩
    show Option.map (fun x=>x.val) ens[i]?=_
    rw [← Array.getElem?_toList,x2];rfl
  | not x1=>rw [x1];rfl
theorem Found.has {o:Option Value} {a:Option AV} (h:Found c o a):o.isSome=a.isSome:=by
  cases a with
  | none=>exact congrArg Option.isSome h
  | some a=>obtain ⟨_,e,_⟩:=h;exact congrArg Option.isSome e
section
variable {A:Around} {E:Value→Shared→Prop} {s:Shared} {d:Addr} {es:List (K × AV)} {k:K} {key:Value}
theorem d_in {Q:Value→Shared→Prop} (hk:knd.is k key=true) (hm:(d == sysModules)=false) (D:DAt s.heap c knd d es) (h:Q (.bool (lkD es k).isSome) {s with toks:=s.toks+1}) :
    wpAny (model prog w) A (compareOp .In key (.ref d)) Q E s :=
  let ⟨_,_,g,r⟩:=D
  wpAny_in_of hk hm (r.mapOf g) ((r.findBy k).has▸h)
theorem d_notIn {Q:Value→Shared→Prop} (hk:knd.is k key=true) (hm:(d == sysModules)=false) (D:DAt s.heap c knd d es) (h:Q (.bool (!(lkD es k).isSome)) {s with toks:=s.toks+1}) :
    wpAny (model prog w) A (compareOp .NotIn key (.ref d)) Q E s :=
  let ⟨_,_,g,r⟩:=D
  wpAny_notIn_of hk hm (r.mapOf g) ((r.findBy k).has▸h)
theorem d_item {Q:Value→Shared→Prop} {a:AV} (hk:knd.is k key=true) (D:DAt s.heap c knd d es) (hl:lkD es k=some a) (h:∀ v,VRel c a v→Q v {s with toks:=s.toks+1}) :
    wpAny (model prog w) A (getItem (.ref d) key) Q E s :=
  let ⟨_,_,g,r⟩:=D
  let ⟨v,q,z⟩:=(hl▸r.findBy k:Found c _ (some a))
  wpAny_getItem_of hk (r.mapOf g) q (h v z)
theorem d_setRaw {Q:Unit→Shared→Prop} {b:AV} {v:Value} (hk:knd.is k key=true) (D:DAt s.heap c knd d es) (hb:VRel c b v) (hz:es.length≤100000)
    (fin:∀ h',Heap.SameBut d s.heap h'→DAt h' c knd d (putD es k b)→Q () {s with heap:=h',toks:=s.toks+1}):wpAny (model prog w) A (dictSet d key v) Q E s:=by
  obtain ⟨ens,n,g,r⟩:=D
  have len:ens.size=es.length:=r.length▸Array.length_toList.symm
  delta dictSet
  try with_reducible refine wpAny_holding ?_
  refine wpAny_bind (knd.pyHash hk ?_)
  delta dictSetHashed
  try with_reducible refine wpAny_holding ?_
  refine wpAny_bind (wpAny_dictFind_of (s:={s with toks:=s.toks+1}) hk g rfl (keys_arr r) ?_)
  rw [findIdx_arr]
  have q:=r.idx k
  generalize lkD es k=o at q
  cases q with
  | there a i e p1 p2 p4 p5 p6 =>
    rw [p1]
    exact wpAny_bind (wpAny_rule (wpAny_bind (wpAny_updateDict (s:={s with toks:=s.toks+1}) g rfl (wpAny_point (fin _ (.update ..) ⟨_,n,Heap.get?_update_self _ g rfl,by rw [Array.toList_modify];exact p6 b v hb⟩)))))
  | not p1 p2 =>
    rw [p1]
    exact wpAny_bind (wpAny_rule (wpAny_updateDictKeys (hz:=by rw [len,sizeLine_eq];omega) (s:={s with toks:=s.toks+1}) g rfl (fin _ (.update ..) ⟨_,n+1,Heap.get?_update_self _ g rfl,by rw [Array.toList_push];exact p2 key b v hk hb⟩)))
theorem DAt.ty {h:Heap} (D:DAt h c knd d es):∃ o,h.get? d=some o∧o.cls=.type "dict" := let ⟨_,_,g,_⟩:=D;⟨_,g,rfl⟩
theorem d_set {Q:Unit→Shared→Prop} {b:AV} {v:Value} (hk:knd.is k key=true) (D:DAt s.heap c knd d es) (hb:VRel c b v) (hz:es.length≤100000)
    (h:∀ h',Heap.SameBut d s.heap h'→DAt h' c knd d (putD es k b)→Q () {s with heap:=h',toks:=s.toks+1}):wpAny (model prog w) A (setItem (.ref d) key v) Q E s:=by
  have hT:s.TypeIs (.ref d) "dict" := D.ty
  delta setItem
  try with_reducible refine wpAny_holding ?_
  refine wpAny_bind (wpAny_sequenceKey hT (by decide) ?_)
  refine wpAny_bind (wpAny_callSpecial?_slot (name:=Str.ofString "__setitem__") hT slot_dict_setitem (wpAny_call_entry slot_dict_setitem hT entry_dict_setitem ?_ (args_dict_setitem _ _ _)))
  show wpAny _ _ (Builtin.Dict.notOrdered "__setitem__" ⟨[.ref d,key,v],[]⟩>>=_) _ _ s
  refine wpAny_bind (wpAny_notOrdered_dict hT ?_)
  show wpAny _ _ (dictSet d key v>>=_) _ _ s
  exact wpAny_bind (d_setRaw hk D hb hz fun h' hs D'=>wpAny_pure ⟨.none,rfl,wpAny_pure (h h' hs D')⟩)
theorem d_pop {Q:Value→Shared→Prop} {dv:Value} (hk:knd.is k key=true) (hp:(keyPart key).isSome=true) (hm:(d == sysModules)=false) (D:DAt s.heap c knd d es) (hz:es.length≤100000)
    (h1:∀ a v h',VRel c a v→Heap.SameBut d s.heap h'→DAt h' c knd d (delD es k)→∀ tk,Q v {s with heap:=h',toks:=tk})
    (h2:lkD es k=none→∀ tk,Q dv {s with toks:=tk}) :
    wpAny (model prog w) A (call (.builtin "dict.pop") [.ref d,key,dv] []) Q E s:=by
  obtain ⟨ens,n,g,r⟩:=D
  have M:=r.mapOf g
  have len:ens.size=es.length:=r.length▸Array.length_toList.symm
  refine wpAny_call_entry F.slot_dict_pop M.typeIs F.entry_dict_pop ?_ (F.args_dict_pop_3 _ _ _)
  delta Builtin.«dict.pop»
  refine wpAny_bind ?_
  delta Builtin.Dict.keyAndDefault
  refine wpAny_bind (wpAny_notOrdered_dict M.typeIs ?_)
  show wpAny _ _ (pure (d,key,some dv)) _ _ s
  refine wpAny_pure ?_
  simp only [hp,if_true]
  refine wpAny_bind (wpAny_pure ?_)
  simp only [Bool.false_eq_true,if_false]
  delta Builtin.Dict.takeOut
  refine wpAny_bind ?_
  try with_reducible refine wpAny_holding ?_
  refine wpAny_bind (knd.pyHash hk ?_)
  refine wpAny_bind (wpAny_dictFind_of (s:={s with toks:=s.toks+1}) hk g rfl (keys_arr r) ?_)
  rw [findIdx_arr]
  have q:=r.idx k
  generalize lkD es k=o at q h2
  cases q with
  | there a i en p1 p2 p4 p5 =>
    rw [p1]
    refine wpAny_bind (wpAny_dictEntries (s:={s with toks:=s.toks+1}) g rfl ?_)
    rw [← Array.getElem?_toList,p2]
    have hi:i < ens.size:=(List.getElem?_eq_some_iff.mp p2).1
    have er:ens.eraseIdxIfInBounds i=ens.eraseIdx i hi:=dif_pos hi
    refine wpAny_bind (wpAny_updateDictKeysTo (s:={s with toks:=s.toks+1}) g rfl (wpAny_pure ?_) ?_)
    · simp only [Option.isNone_some,Bool.false_eq_true,if_false]
      exact wpAny_bind (wpAny_letGo (wpAny_pure ⟨en.val,rfl,h1 a en.val _ p4 (.update ..) ⟨_,n+1,Heap.get?_update_self _ g rfl,by show DR c knd _ (ens.eraseIdxIfInBounds i).toList;rw [er,Array.toList_eraseIdx];exact p5⟩ _⟩))
    · rw [er,Array.size_eraseIdx,sizeLine_eq];omega
  | not p1 p2 =>
    rw [p1]
    refine wpAny_pure ?_
    simp only [Option.isNone_none,if_true]
    exact wpAny_bind (wpAny_missedRemoval_other hm (wpAny_bind (wpAny_rule (wpAny_pure ⟨dv,rfl,h2 rfl _⟩))))
end
end
end T
namespace T
section
variable {prog:Program} {w:World} {c:Cc}
theorem SRels.dr {es:List (Str × AV)} {ens:List DictEntry} (hw:c.w=w) (h:SRels c es ens):DR c (strKind prog w) es ens :=
  h.ind (P:=fun es ens=>DR c (strKind prog w) es ens) .nil fun p es e ens t h1 h2 h3 _ ih=>.cons (h1.trans (congrArg (hashStr · p.1) hw)) (by rw [h2];exact beq_self_eq_true p.1) h3 ih
theorem SRels.ofDr {es:List (Str × AV)} {ens:List DictEntry} (hw:c.w=w) (h:DR c (strKind prog w) es ens):SRels c es ens:=by
  induction h with
  | nil=>exact .nil
  | cons h1 h2 h3 _ ih =>
    obtain ⟨t,e⟩:=Value.isStrOf_shape h2
    exact .cons (by rw [h1,hw];rfl) e h3 ih
theorem NRels.dr {es:List (Int × AV)} {ens:List DictEntry} (h:NRels c es ens):DR c (intKind prog w) es ens:=by
  induction h with
  | nil=>exact .nil
  | cons h1 h2 h3 _ ih=>exact .cons h1 (by rw [h2];show (_ == _)=true;simp) h3 ih
theorem NRels.ofDr {es:List (Int × AV)} {ens:List DictEntry} (h:DR c (intKind prog w) es ens):NRels c es ens:=by
  induction h with
  | nil=>exact .nil
  | cons h1 h2 h3 _ ih =>
    obtain ⟨t,e⟩:=Value.isInt_shape h2
    exact .cons h1 e h3 ih
end
noncomputable def keyO {γ:Type} (key:AV) (fs:Str→Bool→Option γ) (fi:Int→Option γ):Option γ:=match key with
  | .str x=>fs x false
  | .ss x=>fs x true
  | .int i=>fi i
  | .si i=>fi i
  | _=>none
section
variable {g:Gd} {c:Cc}
theorem Ok.keyO {γ:Type} {C:γ→Prop} {G:Prop} {fs:Str→Bool→Option γ} {fi:Int→Option γ} {key:AV} {v:Value} (P:Ok C (T.keyO key fs fi)) (hv:VRel c key v)
    (hs:∀ k b,(strKind g.prog g.w).is k v=true→(keyPart v).isSome=true→Ok C (fs k b)→G) (hi:∀ i,(intKind g.prog g.w).is i v=true→Ok C (fi i)→G):G:=by
  revert P hs hi
  have ks:∀ (k:Str) (t:Tok),(strKind g.prog g.w).is k (.str k t)=true:=fun k t=>by show (_ == _)=true;simp
  have ki:∀ (k:Int) (t:Tok),(intKind g.prog g.w).is k (.int k t)=true:=fun k t=>by show (_ == _)=true;simp
  refine VRel.casesOn (motive_1:=fun a v _=>Ok C (T.keyO a fs fi)→(∀ k b,(strKind g.prog g.w).is k v=true→(keyPart v).isSome=true→Ok C (fs k b)→G)→(∀ i,(intKind g.prog g.w).is i v=true→Ok C (fi i)→G)→G) hv
    ?_ ?_ (fun i t P _ h=>h i (ki i t) P) (fun i t P _ h=>h i (ki i t) P) (fun k t P h _=>h k _ (ks k t) rfl P) (fun k t P h _=>h k _ (ks k t) rfl P) ?_ ?_ ?_ ?_ ?_ ?_ ?_ ?_ ?_ ?_ ?_ ?_ ?_<;>(intros;exact Ok.no ‹_›)
section
variable {hnd:Option Nat} {dep:Nat} {σ:List AObj} {fs:List Out} {A:Around} {s:Shared} {i:Nat} {a:Addr}
theorem Hp.sd (H:Hp g hnd dep c σ fs A s) {sy:Bool} {es:List (Str × AV)} (ha:c.r[i]?=some a) (h:σ[i]?=some (.sd sy es)):DAt s.heap c (strKind g.prog g.w) a es:=by
  obtain ⟨o,p,ens,n,rfl,q⟩:=H.st.at ha h
  exact ⟨ens,n,p,q.dr H.w⟩
theorem Hp.nd (H:Hp g hnd dep c σ fs A s) {es:List (Int × AV)} (ha:c.r[i]?=some a) (h:σ[i]?=some (.nd es)):DAt s.heap c (intKind g.prog g.w) a es:=by
  obtain ⟨o,p,ens,n,rfl,q,_⟩:=H.st.at ha h
  exact ⟨ens,n,p,q.dr⟩
theorem Hp.ndCl (H:Hp g hnd dep c σ fs A s) {es:List (Int × AV)} (ha:c.r[i]?=some a) (h:σ[i]?=some (.nd es)):∀ e∈es,Cl e.2 :=
  let ⟨_,_,_,_,_,_,hcl⟩:=H.st.at ha h;hcl
theorem Hp.edS (H:Hp g hnd dep c σ fs A s) (ha:c.r[i]?=some a) (h:σ[i]?=some .ed):DAt s.heap c (strKind g.prog g.w) a []:=by
  obtain ⟨o,p,n,rfl⟩:=H.st.at ha h
  exact ⟨#[],n,p,.nil⟩
theorem Hp.edI (H:Hp g hnd dep c σ fs A s) (ha:c.r[i]?=some a) (h:σ[i]?=some .ed):DAt s.heap c (intKind g.prog g.w) a []:=by
  obtain ⟨o,p,n,rfl⟩:=H.st.at ha h
  exact ⟨#[],n,p,.nil⟩
theorem Hp.setS (H:Hp g hnd dep c σ fs A s) {sy:Bool} {es:List (Str × AV)} {h':Heap} {tk:Nat} (ha:c.r[i]?=some a) (hs:Heap.SameBut a s.heap h') (D:DAt h' c (strKind g.prog g.w) a es) :
    Hp g hnd dep c (σ.set i (.sd sy es)) fs A {s with heap:=h',toks:=tk}:=by
  obtain ⟨ens,n,p,q⟩:=D
  exact H.upd (.refl c) (H.st.upd ha hs p ⟨ens,n,rfl,SRels.ofDr H.w q⟩)
theorem Hp.setI (H:Hp g hnd dep c σ fs A s) {es:List (Int × AV)} {h':Heap} {tk:Nat} (ha:c.r[i]?=some a) (hs:Heap.SameBut a s.heap h') (D:DAt h' c (intKind g.prog g.w) a es) (hcl:∀ e∈es,Cl e.2) :
    Hp g hnd dep c (σ.set i (.nd es)) fs A {s with heap:=h',toks:=tk}:=by
  obtain ⟨ens,n,p,q⟩:=D
  exact H.upd (.refl c) (H.st.upd ha hs p ⟨ens,n,rfl,NRels.ofDr q,hcl⟩)
end
end
noncomputable def opIn (neg:Bool) (key v:AV):Rd→List Orc→List AObj→Option (AR AV):=fun _ orc σ=>mutO v fun i=>objC σ[i]?
  (keyO key (fun _ _=>ansN neg false true orc σ) (fun _=>ansN neg false true orc σ))
  (fun sy es=>keyO key (fun k sk=>ansN neg (lk es k).isSome (pk sy false (not sk)) orc σ) (fun _=>none))
  (fun ks _=>keyO key (fun k _=>ansN neg (ks.contains k) false orc σ) (fun _=>none))
  (fun es=>keyO key (fun _ _=>none) (fun k=>ansN neg (lkD es k).isSome false orc σ))
theorem lk_kdE (ks:List Str) (tab:List (Str × AV)) (k:Str):lk (kdE ks tab) k=cond (ks.contains k) (some ((lk tab k).getD .any)) none:=by
  induction ks with
  | nil=>rfl
  | cons x r ih =>
    show cond (seq k x) (some ((lk tab x).getD .any)) (lk (kdE r tab) k)=_
    rw [ih,List.contains_cons,← seq_beq]
    cases q:seq k x with
    | true=>rw [seq_iff.mp q];rfl
    | false=>rfl
theorem kd_has (ks:List Str) (tab:List (Str × AV)) (k:Str):(lk (kdE ks tab) k).isSome=ks.contains k:=by
  rw [lk_kdE]
  cases ks.contains k<;>rfl
noncomputable def putK (ks:List Str) (k:Str):List Str:=if ks.contains k then ks else ks++[k]
noncomputable def delK:List Str→Str→List Str
  | [],_=>[]
  | x::r,k=>cond (seq k x) r (x::delK r k)
theorem putS_kdE {ks:List Str} {tab:List (Str × AV)} {k:Str} {b:AV} (h:lk tab k=some b):putS (kdE ks tab) k b=kdE (putK ks k) tab:=by
  have hb:(lk tab k).getD .any=b:=congrArg (Option.getD · .any) h
  induction ks with
  | nil=>exact congrArg (fun z=>[(k,z)]) hb.symm
  | cons x r ih =>
    show cond (seq k x) ((x,b)::kdE r tab) ((x,(lk tab x).getD .any)::putS (kdE r tab) k b)=kdE (if (x::r).contains k then x::r else x::(r++[k])) tab
    rw [ih,putK,List.contains_cons,← seq_beq]
    cases q:seq k x with
    | true=>rw [← hb,seq_iff.mp q];rfl
    | false=>cases r.contains k<;>rfl
theorem delS_kdE {ks:List Str} {tab:List (Str × AV)} {k:Str}:delS (kdE ks tab) k=kdE (delK ks k) tab:=by
  induction ks with
  | nil=>rfl
  | cons x r ih =>
    show cond (seq k x) (kdE r tab) ((x,(lk tab x).getD .any)::delS (kdE r tab) k)=kdE (cond (seq k x) r (x::delK r k)) tab
    rw [ih]
    cases seq k x<;>rfl
theorem Hp.kd {g:Gd} {c:Cc} {hnd:Option Nat} {dep:Nat} {σ:List AObj} {fs:List Out} {A:Around} {s:Shared} {i:Nat} {a:Addr} (H:Hp g hnd dep c σ fs A s) {ks:List Str} {tab:List (Str × AV)} (ha:c.r[i]?=some a) (h:σ[i]?=some (.kd ks tab)) :
    DAt s.heap c (strKind g.prog g.w) a (kdE ks tab):=by
  obtain ⟨o,p,ens,n,rfl,q⟩:=H.st.at ha h
  exact ⟨ens,n,p,q.dr H.w⟩
theorem Hp.setK {g:Gd} {c:Cc} {hnd:Option Nat} {dep:Nat} {σ:List AObj} {fs:List Out} {A:Around} {s:Shared} {i:Nat} {a:Addr} (H:Hp g hnd dep c σ fs A s) {ks:List Str} {tab:List (Str × AV)} {h':Heap} {tk:Nat} (ha:c.r[i]?=some a) (hs:Heap.SameBut a s.heap h')
    (D:DAt h' c (strKind g.prog g.w) a (kdE ks tab)):Hp g hnd dep c (σ.set i (.kd ks tab)) fs A {s with heap:=h',toks:=tk}:=by
  obtain ⟨ens,n,p,q⟩:=D
  exact H.upd (.refl c) (H.st.upd ha hs p ⟨ens,n,rfl,SRels.ofDr H.w q⟩)
theorem kdE_length {ks:List Str} {tab:List (Str × AV)}:(kdE ks tab).length=ks.length:=by simp [kdE]
theorem xor_t (b:Bool):xor true b=!b:=by cases b<;>rfl
theorem xor_f (b:Bool):xor false b=b:=by cases b<;>rfl
theorem d_inN {prog:Program} {w:World} {K:Type} [DecidableEq K] {knd:KeyKind prog w K} {c:Cc} {A:Around} {E:Value→Shared→Prop} {s:Shared} {d:Addr} {es:List (K × AV)} {k:K} {key:Value} {Q:Value→Shared→Prop} {neg b:Bool}
    (hk:knd.is k key=true) (hm:(d == sysModules)=false) (D:DAt s.heap c knd d es) (e:(lkD es k).isSome=b) (h:Q (.bool (xor neg b)) {s with toks:=s.toks+1}):wpAny (model prog w) A (compareOp (if neg then .NotIn else .In) key (.ref d)) Q E s:=by
  cases neg with
  | true=>exact d_notIn hk hm D (by rw [e,← xor_t];exact h)
  | false=>exact d_in hk hm D (by rw [e,← xor_f b];exact h)
theorem leaf_in {g:Gd} {c₀:Cc} {neg:Bool} {key v:AV} {key' v':Value} (hk:VRel c₀ key key') (hv:VRel c₀ v v') :
    LeafN g c₀ (opIn neg key v) (compareOp (if neg then .NotIn else .In) key' v') VRel :=
  .q fun rd orc σ c fs A s Q E C x H k o P=>P.mutO (G:=fun v'=>wpAny (model g.prog g.w) A (compareOp (if neg then .NotIn else .In) key' v') Q E s) (hv.mono x) fun i d hr P =>
    have nm:=H.notMods hr
    have fin:=fun (b:Bool) ps r hC=>k (.bool b) σ ps r c _ _ hC (.refl c) (H.tick _) (.bool b)
    P.objC (fun e P=>P.keyO (g:=g) hk (fun _ _ q _ P=>ansN_ok o P fun ps r hC=>d_inN q nm (H.edS hr e) rfl (fin _ ps r hC)) (fun _ q P=>ansN_ok o P fun ps r hC=>d_inN q nm (H.edI hr e) rfl (fin _ ps r hC)))
      (fun _ _ e P=>P.keyO (g:=g) hk (fun _ _ q _ P=>ansN_ok o P fun ps r hC=>d_inN q nm (H.sd hr e) (by rw [lkD_lk]) (fin _ ps r hC)) (fun _ _ P=>P.no))
      (fun _ _ e P=>P.keyO (g:=g) hk (fun _ _ q _ P=>ansN_ok o P fun ps r hC=>d_inN q nm (H.kd hr e) (by rw [lkD_lk,kd_has]) (fin _ ps r hC)) (fun _ _ P=>P.no))
      (fun _ e P=>P.keyO (g:=g) hk (fun _ _ _ _ P=>P.no) (fun _ q P=>ansN_ok o P fun ps r hC=>d_inN q nm (H.nd hr e) rfl (fin _ ps r hC)))
noncomputable def opItemD (v key:AV):Rd→List Orc→List AObj→Option (AR AV):=fun _ orc σ=>mutO v fun i=>objC σ[i]? none
  (fun sy es=>keyO key (fun k sk=>pk (pk sy false (not sk)) (obn (lk es k) fun a=>some (a,σ,[],orc)) (askV orc fun a r=>some (a,σ,[lk es k=some a],r))) (fun _=>none))
  (fun ks tab=>keyO key (fun k sk=>pk sk (askV orc fun a r=>some (a,σ,[ks.contains k=true,lk tab k=some a],r)) (obn (lk tab k) fun a=>some (a,σ,[ks.contains k=true],orc))) (fun _=>none))
  (fun es=>keyO key (fun _ _=>none) (fun k=>askV orc fun a r=>some (a,σ,[lkD es k=some a],r)))
noncomputable def opSetD (v key b:AV):Rd→List Orc→List AObj→Option (AR Unit):=fun _ orc σ=>mutO v fun i=>objC σ[i]?
  (keyO key (fun k _=>some ((),σ.set i (.sd false [(k,b)]),[],orc)) (fun k=>gdO (clF 4 b) (some ((),σ.set i (.nd [(k,b)]),[],orc))))
  (fun sy es=>keyO key (fun k sk=>gdO (pk sy false (pk sk false (Nat.ble es.length 900))) (some ((),σ.set i (.sd false (putS es k b)),[],orc))) (fun _=>none))
  (fun ks tab=>keyO key (fun k _=>some ((),σ.set i (.kd (putK ks k) tab),[lk tab k=some b,ks.length≤100000],orc)) (fun _=>none))
  (fun es=>keyO key (fun _ _=>none) (fun k=>gdO (clF 4 b) (some ((),σ.set i (.nd (putD es k b)),[es.length≤100000],orc))))
theorem putD_all {K:Type} [DecidableEq K] {P:AV→Prop} {k:K} {a:AV} (ha:P a):∀ {es:List (K × AV)},(∀ e∈es,P e.2)→∀ e∈putD es k a,P e.2:=by
  intro es
  induction es with
  | nil=>exact fun _ e m=>List.mem_singleton.mp m▸ha
  | cons p r ih =>
    intro h e
    by_cases q:p.1=k
    · rw [show putD (p::r) k a=(p.1,a)::r from if_pos q]
      exact fun m=>(List.mem_cons.mp m).elim (fun z=>z▸ha) fun m=>h e (.tail _ m)
    · rw [show putD (p::r) k a=p::putD r k a from if_neg q]
      exact fun m=>(List.mem_cons.mp m).elim (fun z=>z▸h p (.head _)) (ih (fun e m=>h e (.tail _ m)) e)
theorem ble2 {sy sk b:Bool}:pk sy false (pk sk false b)=true→b=true:=by cases sy<;>cases sk<;>cases b<;>decide
theorem le900 {n:Nat} (h:Nat.ble n 900=true):n≤100000:=Nat.le_trans (Nat.le_of_ble_eq_true h) (by decide)
theorem leaf_setD {g:Gd} {c₀:Cc} {key v b:AV} {key' v' b':Value} (hk:VRel c₀ key key') (hv:VRel c₀ v v') (hb:VRel c₀ b b'):LeafN g c₀ (opSetD v key b) (setItem v' key' b') (fun _ _ _=>True) :=
  .q fun rd orc σ c fs A s Q E C x H k o P=>P.mutO (G:=fun v'=>wpAny (model g.prog g.w) A (setItem v' key' b') Q E s) (hv.mono x) fun i d hr P =>
    have hb:=hb.mono x
    have fin:=fun σ' ps r s' hC H'=>k () σ' ps r c s' () hC (.refl c) H' trivial
    P.objC (fun e P=>P.keyO (g:=g) hk (fun _ _ q _ P=>d_set q (H.edS hr e) hb (Nat.zero_le _) fun _ hs D=>fin _ _ _ _ P (H.setS hr hs D))
        (fun _ q P=>P.gdO fun e3 P=>d_set q (H.edI hr e) hb (Nat.zero_le _) fun _ hs D=>fin _ _ _ _ P (H.setI hr hs D (fun p m=>List.mem_singleton.mp m▸⟨4,e3⟩))))
      (fun _ _ e P=>P.keyO (g:=g) hk (fun _ _ q _ P=>P.gdO fun e3 P=>d_set q (H.sd hr e) hb (le900 (ble2 e3)) fun _ hs D=>fin _ _ _ _ P (H.setS hr hs (putD_putS _ _ _▸D))) (fun _ _ P=>P.no))
      (fun _ _ e P=>P.keyO (g:=g) hk (fun _ _ q _ P=>d_set q (H.kd hr e) hb (by rw [kdE_length];exact (o _ P).2.1) fun _ hs D=>fin _ _ _ _ P (H.setK hr hs (by rw [putD_putS,putS_kdE (o _ P).1] at D;exact D))) (fun _ _ P=>P.no))
      (fun _ e P=>P.keyO (g:=g) hk (fun _ _ _ _ P=>P.no) (fun _ q P=>P.gdO fun e3 P=>d_set q (H.nd hr e) hb (o _ P).1 fun _ hs D=>fin _ _ _ _ P (H.setI hr hs D (putD_all ⟨4,e3⟩ (H.ndCl hr e)))))
noncomputable def opPopD (v key dv:AV):Rd→List Orc→List AObj→Option (AR AV):=fun _ orc σ=>mutO v fun i=>objC σ[i]?
  (keyO key (fun _ _=>some (.any,σ.set i (.sd false []),[],orc)) (fun _=>none))
  (fun sy es=>keyO key (fun k sk=>gdO (pk sy false (pk sk false (Nat.ble es.length 900))) (some (.any,σ.set i (.sd false (delS es k)),[],orc))) (fun _=>none))
  (fun ks tab=>keyO key (fun k _=>some (.any,σ.set i (.kd (delK ks k) tab),[ks.length≤100000],orc)) (fun _=>none))
  (fun _=>none)
theorem delD_none {K β:Type} [DecidableEq K] {k:K}:∀ {l:List (K × β)},lkD l k=none→delD l k=l:=by
  intro l
  induction l with
  | nil=>exact fun _=>rfl
  | cons p r ih =>
    intro h
    have q:¬ p.1=k:=fun q=>by rw [show lkD (p::r) k=some p.2 from if_pos q] at h;cases h
    exact (if_neg q).trans (congrArg (p::·) (ih ((if_neg q:lkD (p::r) k=lkD r k)▸h)))
theorem d_popK {g:Gd} {c:Cc} {A:Around} {E:Value→Shared→Prop} {s:Shared} {d:Addr} {es:List (Str × AV)} {k:Str} {key dv:Value} {Q:Value→Shared→Prop} (hk:(strKind g.prog g.w).is k key=true) (hp:(keyPart key).isSome=true) (hm:(d == sysModules)=false)
    (D:DAt s.heap c (strKind g.prog g.w) d es) (hz:es.length≤100000) (h:∀ v h' tk,Heap.SameBut d s.heap h'→DAt h' c (strKind g.prog g.w) d (delS es k)→Q v {s with heap:=h',toks:=tk}):wpAny (model g.prog g.w) A (call (.builtin "dict.pop") [.ref d,key,dv] []) Q E s :=
  d_pop hk hp hm D hz (fun _ v h' _ hs D tk=>h v h' tk hs (delD_delS es k▸D)) fun hn tk=>h dv s.heap tk (.refl _ _) (by rw [← delD_delS,delD_none hn];exact D)
theorem leaf_popD {g:Gd} {c₀:Cc} {key v dv:AV} {key' v' dv':Value} (hk:VRel c₀ key key') (hv:VRel c₀ v v'):LeafN g c₀ (opPopD v key dv) (call (.builtin "dict.pop") [v',key',dv'] []) VRel :=
  .q fun rd orc σ c fs A s Q E C x H k o P=>P.mutO (G:=fun v'=>wpAny (model g.prog g.w) A (call (.builtin "dict.pop") [v',key',dv'] []) Q E s) (hv.mono x) fun i d hr P =>
    have nm:=H.notMods hr
    have fin:=fun σ' ps r s' v hC H'=>k .any σ' ps r c s' v hC (.refl c) H' (.any v)
    P.objC (fun e P=>P.keyO (g:=g) hk (fun _ _ q q2 P=>d_popK q q2 nm (H.edS hr e) (Nat.zero_le _) fun v _ _ hs D=>fin _ _ _ _ v P (H.setS hr hs D)) (fun _ _ P=>P.no))
      (fun _ _ e P=>P.keyO (g:=g) hk (fun _ _ q q2 P=>P.gdO fun e3 P=>d_popK q q2 nm (H.sd hr e) (le900 (ble2 e3)) fun v _ _ hs D=>fin _ _ _ _ v P (H.setS hr hs D)) (fun _ _ P=>P.no))
      (fun _ _ e P=>P.keyO (g:=g) hk (fun _ _ q q2 P=>d_popK q q2 nm (H.kd hr e) (by rw [kdE_length];exact (o _ P).1) fun v _ _ hs D=>fin _ _ _ _ v P (H.setK hr hs (delS_kdE▸D))) (fun _ _ P=>P.no))
      (fun _ _ P=>P.no)
end T
namespace T
noncomputable abbrev VB:Cc→Bool→Bool→Prop:=fun _ a b=>a=b
noncomputable abbrev VU:Cc→Unit→Unit→Prop:=fun _ _ _=>True
noncomputable def SE (g:Gd) (m:EM AV) (e:Expr):Prop:=∀ c,Snd g c m (eval e) VRel
noncomputable def SB (g:Gd) (m:EM Bool) (e:Expr):Prop:=∀ c (whole:Env→Sem Value),(∀ env,whole env=eval e env)→Snd g c m (fun env=>isTrue e env (whole env)) VB
noncomputable def SS (g:Gd) (m:EM AFlow) (l:List Stmt):Prop:=∀ c,Snd g c m (execs l) FlowR
noncomputable def SS1 (g:Gd) (m:EM AFlow) (l:Stmt):Prop:=∀ c,Snd g c m (exec l) FlowR
noncomputable def SA (g:Gd) (m:AV→EM Unit) (e:Expr):Prop:=∀ c a v,VRel c a v→Snd g c (m a) (fun env=>assign e env v) VU
noncomputable def TruthOk (g:Gd) (truth:AV→EM Bool):Prop:=∀ c a v,VRel c a v→Snd g c (truth a) (fun _=>truthy v) VB
section
variable {g:Gd} {c₀:Cc}
theorem Snd.oper {α:Type} {m:EM α} {vs:Env→List Value} {t:Env→Sem Value} {R:Cc→α→Value→Prop} (h:Snd g c₀ m t R):Snd g c₀ m (fun env=>operate (vs env) (t env)) R :=
  h.map fun _ _ _ _ _ q=>wpAny_operate' q
theorem Snd.pt {α β:Type} {m:EM α} {t:Env→Sem β} {R:Cc→α→β→Prop} (h:Snd g c₀ m t R):Snd g c₀ m (fun env=>point>>=fun _=>t env) R :=
  h.map fun _ _ _ _ _ q=>wpAny_bind (wpAny_point q)
theorem Snd.rls {α β:Type} {m:EM α} {a b:Env→List Value} {t:Env→Sem β} {R:Cc→α→β→Prop} (h:Snd g c₀ m t R):Snd g c₀ m (fun env=>release (a env) (b env)>>=fun _=>t env) R :=
  h.map fun _ _ _ _ _ q=>wpAny_bind (wpAny_release' q)
theorem Snd.ite {α β:Type} {m1 m2:EM α} {t1 t2:Env→Sem β} {R:Cc→α→β→Prop} {b:Bool} (h1:b=true→Snd g c₀ m1 t1 R) (h2:b=false→Snd g c₀ m2 t2 R) :
    Snd g c₀ (match b with | true=>m1 | false=>m2) (fun env=>if b=true then t1 env else t2 env) R:=by
  cases b with
  | true=>exact h1 rfl
  | false=>exact h2 rfl
theorem Snd.true {α β:Type} {a:α} {b:β}:Snd g c₀ (ret a) (fun _=>Pure.pure b) (fun _ _ _=>True):=.pure fun _ _=>trivial
noncomputable def constE:Const→EM AV
  | .none=>ret .none
  | .bool b=>ret (.bool b)
  | .int i=>sop fun _ σ=>some (.int i,σ)
  | .str s=>sop fun _ σ=>some (.str s,σ)
  | _=>flt
theorem S_const {k:Const} {n:Nat} {pos:Pos}:SE g (constE k) (.Constant k n pos):=by
  intro c
  show Snd g c (constE k) (fun env=>constValue env k) VRel
  cases k with
  | none=>exact .pure fun _ _=>.none
  | bool b=>exact .pure fun _ _=>.bool b
  | int i =>
    show Snd g c (sop fun _ σ=>some (AV.int i,σ)) (fun env=>mkInt i) VRel
    exact .leaf fun _=>.s fun _ _ c _ _ _ _ _ _ _ H k P=>wpAny_mkInt (k _ _ c _ _ P (.refl c) (H.tick _) (.int _ _))
  | str t =>
    show Snd g c (sop fun _ σ=>some (AV.str t,σ)) (fun env=>mkText t) VRel
    exact .leaf fun _=>.s fun _ _ c _ _ _ _ _ _ _ H k P=>wpAny_mkText (k _ _ c _ _ P (.refl c) (H.tick _) (.str _ _))
  | _=>exact .flt
noncomputable def nameX (gl:List (Str × AV)) (id:Str):EM AV:=match seq id "__debug__" with
  | true=>flt
  | false=>nameE gl id
theorem S_name {gl:List (Str × AV)} (hgl:∀ x a,lk gl x=some a→GlobOk g x a) {id:Str} {pos:Pos}:SE g (nameX gl id) (.Name id pos):=by
  intro c
  unfold nameX
  split
  · exact .flt
  · rename_i h
    rw [seq_beq] at h
    show Snd g c _ (fun env=>standAt pos>>=fun _=>if (id == ("__debug__" : Str))=true then debugConstant else loadName env id) VRel
    exact .stand ((Snd.name hgl).conv fun env=>by rw [h];rfl)
theorem S_bin {l r:Expr} {op:Operator} {pos:Pos} {m1 m2:EM AV} {k:AV→AV→EM AV} (h1:SE g m1 l) (h2:SE g m2 r)
    (hk:∀ c a b a' b',VRel c a a'→VRel c b b'→Snd g c (k a b) (fun _=>binaryOp op a' b') VRel):SE g (bnd m1 fun a=>bnd m2 fun b=>k a b) (.BinOp l op r pos):=by
  intro c
  show Snd g c _ (fun env=>eval l env>>=fun a=>holding [a] (eval r env)>>=fun b=>standAt pos>>=fun _=>operate [a,b] (binaryOp op a b)) VRel
  exact .bind (h1 c) fun a a' c1 x1 ha=>.bind (.hold (vs:=fun _=>[a']) (h2 c1)) fun b b' c2 x2 hb=>.stand (.oper (vs:=fun _=>[a',b']) (hk _ _ _ _ _ (ha.mono x2) hb))
theorem S_un {x:Expr} {op:UnaryOp} {pos:Pos} {m:EM AV} {k:AV→EM AV} (h1:SE g m x) (hk:∀ c a a',VRel c a a'→Snd g c (k a) (fun _=>unaryOp op a') VRel) :
    SE g (bnd m k) (.UnaryOp op x pos):=by
  intro c
  show Snd g c _ (fun env=>eval x env>>=fun a=>standAt pos>>=fun _=>holding [a] (unaryOp op a)) VRel
  exact .bind (h1 c) fun a a' c1 x1 ha=>.stand (.hold (vs:=fun _=>[a']) (hk _ _ _ ha))
theorem S_ifexp {t b o:Expr} {pos:Pos} {mt:EM Bool} {mb mo:EM AV} (ht:SB g mt t) (hb:SE g mb b) (ho:SE g mo o) :
    SE g (bnd mt fun q=>match q with | true=>mb | false=>mo) (.IfExp t b o pos):=by
  intro c
  show Snd g c _ (fun env=>isTrue t env (eval t env)>>=fun q=>if q=true then eval b env else eval o env) VRel
  refine .bind (ht c _ fun _=>rfl) fun q q' c1 x1 hq=>?_
  obtain rfl:q=q':=hq
  exact Snd.ite (fun _=>hb c1) fun _=>ho c1
noncomputable def notSet:Expr→Bool
  | .Set ..=>false
  | _=>true
theorem marked_plain {op:CmpOp} {e:Expr} (h:notSet e=true) (t:Sem Value):markedBehindIn op e t=t:=by
  have:behindInMarks op e=false:=by
    cases e with
    | Set=>exact no_tf h
    | _=>rfl
  delta markedBehindIn;rw [this]
theorem S_cmp {l r:Expr} {op:CmpOp} {pos:Pos} {m1 m2:EM AV} {k:AV→AV→EM AV} (hs:notSet r=true) (h1:SE g m1 l) (h2:SE g m2 r)
    (hk:∀ c a b a' b',VRel c a a'→VRel c b b'→Snd g c (k a b) (fun _=>compareOp op a' b') VRel):SE g (bnd m1 fun a=>bnd m2 fun b=>k a b) (.Compare l [op] [r] pos):=by
  intro c
  have:Snd g c (bnd m1 fun a=>bnd m2 fun b=>k a b) (fun env=>eval l env>>=fun a=>holding [a] (eval r env)>>=fun b=>standAt pos>>=fun _=>operate [a,b] (compareOp op a b)) VRel :=
    .bind (h1 c) fun a a' c1 x1 ha=>.bind (.hold (vs:=fun _=>[a']) (h2 c1)) fun b b' c2 x2 hb=>.stand (.oper (vs:=fun _=>[a',b']) (hk _ _ _ _ _ (ha.mono x2) hb))
  refine this.conv fun env=>?_
  rw [← marked_plain (op:=op) hs (eval r env)];rfl
theorem T_cmp {l r:Expr} {op:CmpOp} {pos:Pos} {m1 m2:EM AV} {k:AV→AV→EM AV} {truth:AV→EM Bool} (hT:TruthOk g truth) (hs:notSet r=true) (h1:SE g m1 l) (h2:SE g m2 r)
    (hk:∀ c a b a' b',VRel c a a'→VRel c b b'→Snd g c (k a b) (fun _=>compareOp op a' b') VRel):SB g (bnd m1 fun a=>bnd m2 fun b=>bnd (k a b) truth) (.Compare l [op] [r] pos):=by
  intro c whole _
  have:Snd g c (bnd m1 fun a=>bnd m2 fun b=>bnd (k a b) truth) (fun env=>eval l env>>=fun a=>holding [a] (eval r env)>>=fun b=>standAt pos>>=fun _=>operate [a,b] (compareOp op a b)>>=fun v=>holding [v] (truthy v)) VB :=
    .bind (h1 c) fun a a' c1 x1 ha=>.bind (.hold (vs:=fun _=>[a']) (h2 c1)) fun b b' c2 x2 hb=>.stand (.bind (.oper (vs:=fun _=>[a',b']) (hk _ _ _ _ _ (ha.mono x2) hb)) fun v v' c3 x3 hv=>.hold (vs:=fun _=>[v']) (hT _ _ _ hv))
  refine this.conv fun env=>?_
  rw [← marked_plain (op:=op) hs (eval r env)];rfl
theorem T_not {x:Expr} {pos:Pos} {m:EM Bool} (h:SB g m x):SB g (bnd m fun b=>ret (!b)) (.UnaryOp .Not x pos):=by
  intro c whole _
  show Snd g c _ (fun env=>isTrue x env (eval x env)>>=fun b=>Pure.pure (!b)) VB
  exact .bind (h c _ fun _=>rfl) fun q q' c1 x1 hq=>.pure fun _ _=>by rw [show q=q' from hq]
noncomputable def allE (op:BoolOp):List (EM Bool)→EM Bool
  | []=>ret (match op with | .And=>true | .Or=>false)
  | m::r=>bnd m fun b=>match op,b with
    | .And,false=>ret false
    | .Or,true=>ret true
    | _,_=>allE op r
theorem T_bool {op:BoolOp} {pos:Pos} {tr:Expr→EM Bool} {vs:List Expr} (h:∀ e,SB g (tr e) e):SB g (allE op (vs.map tr)) (.BoolOp op vs pos):=by
  intro c whole hw
  clear hw
  show Snd g c _ (fun env=>allTrue op vs env) VB
  clear whole
  induction vs generalizing c with
  | nil =>
    cases op
    · exact .pure fun _ _=>rfl
    · exact .pure fun _ _=>rfl
  | cons e r ih =>
    cases op with
    | And =>
      refine (Snd.bind (k:=fun env b=>match BoolOp.And,b with | .And,false=>Pure.pure false | .Or,true=>Pure.pure true | _,_=>allTrue .And r env) (h e c _ fun _=>rfl) fun q q' c1 x1 hq=>?_:Snd g c _ (fun env=>isTrue e env (eval e env)>>=fun b=>_) VB)
      obtain rfl:q=q':=hq
      cases q with
      | true=>exact ih c1
      | false=>exact .pure fun _ _=>rfl
    | Or =>
      refine (Snd.bind (k:=fun env b=>match BoolOp.Or,b with | .And,false=>Pure.pure false | .Or,true=>Pure.pure true | _,_=>allTrue .Or r env) (h e c _ fun _=>rfl) fun q q' c1 x1 hq=>?_:Snd g c _ (fun env=>isTrue e env (eval e env)>>=fun b=>_) VB)
      obtain rfl:q=q':=hq
      cases q with
      | true=>exact .pure fun _ _=>rfl
      | false=>exact ih c1
noncomputable def boolE (truth:AV→EM Bool) (op:BoolOp):List (EM AV)→EM AV
  | []=>flt
  | [m]=>m
  | m::r=>bnd m fun a=>bnd (truth a) fun b=>match op,b with
    | .And,false=>ret a
    | .Or,true=>ret a
    | _,_=>boolE truth op r
theorem S_bool {op:BoolOp} {pos:Pos} {ex:Expr→EM AV} {truth:AV→EM Bool} {vs:List Expr} (hT:TruthOk g truth) (h:∀ e,SE g (ex e) e):SE g (boolE truth op (vs.map ex)) (.BoolOp op vs pos):=by
  intro c
  show Snd g c _ (fun env=>boolOp pos op (evalEach vs env)) VRel
  induction vs generalizing c with
  | nil=>exact .flt
  | cons e r ih=>cases r with
    | nil=>exact h e c
    | cons e2 r =>
      have step:∀ c1 a a',VRel c1 a a'→Snd g c1 (bnd (truth a) fun b=>match op,b with | .And,false=>ret a | .Or,true=>ret a | _,_=>boolE truth op ((e2::r).map ex))
          (fun env=>standAt pos>>=fun _=>holding [a'] (truthy a')>>=fun t=>match op,t with | .And,false | .Or,true=>Pure.pure a' | _,_=>boolOp pos op (evalEach (e2::r) env)) VRel:=fun c1 a a' ha=>by
        refine .stand (.bind (.hold (vs:=fun _=>[a']) (hT _ _ _ ha)) fun q q' c2 x2 hq=>?_)
        obtain rfl:q=q':=hq
        cases op<;>cases q
        · exact .pure fun _ x=>ha.mono (x2.trans x)
        · exact ih c2
        · exact ih c2
        · exact .pure fun _ x=>ha.mono (x2.trans x)
      exact (Snd.bind (h e c) fun a a' c1 x1 ha=>step c1 a a' ha:Snd g c _ (fun env=>eval e env>>=fun v=>_) VRel)
noncomputable def plainT:Expr→Bool
  | .UnaryOp .Not _ _=>false
  | .BoolOp ..=>false
  | .IfExp ..=>false
  | .Compare ..=>false
  | _=>true
theorem isTrue_pl {e:Expr} (h:plainT e=true) (env:Env) (w:Sem Value):isTrue e env w=(w>>=fun v=>standAt e.pos>>=fun _=>holding [v] (truthy v)):=by
  cases e<;>first | rfl | (cases h;done) | skip
  rename_i op x pos
  cases op<;>first | rfl | (cases h;done)
theorem T_plain {e:Expr} {m:EM AV} {truth:AV→EM Bool} (hT:TruthOk g truth) (hp:plainT e=true) (h:SE g m e):SB g (bnd m truth) e:=by
  intro c whole hw
  refine (Snd.bind (h c) fun a a' c1 x1 ha=>.stand (p:=fun _=>e.pos) (.hold (vs:=fun _=>[a']) (hT _ _ _ ha)):Snd g c _ (fun env=>eval e env>>=fun v=>standAt e.pos>>=fun _=>holding [v] (truthy v)) VB).conv fun env=>?_
  rw [isTrue_pl hp,hw]
theorem spliced_eq (x:Sem Value) (rest:List (Bool × Sem Value)):spliced ((false,x)::rest)=(x>>=fun v=>holding [v] (spliced rest)>>=fun vs=>Pure.pure (v::vs)):=by
  rw [spliced];rfl
noncomputable def isStar:Expr→Bool
  | .Starred ..=>true
  | _=>false
noncomputable def evs (ex:Expr→EM AV):List Expr→EM (List AV)
  | []=>ret []
  | e::r=>match isStar e with
    | true=>flt
    | false=>bnd (ex e) fun a=>bnd (evs ex r) fun as=>ret (a::as)
theorem starEach_cons {e:Expr} {r:List Expr} {env:Env} (h:isStar e=false):starEach (e::r) env=(false,eval e env)::starEach r env:=by
  cases e<;>first | rfl | cases h
theorem S_evs {ex:Expr→EM AV} (h:∀ e,SE g (ex e) e) (pos:Pos):∀ (es:List Expr) (c:Cc),Snd g c (evs ex es) (fun env=>spliced (backTo pos (starEach es env))) VRels
  | [],c=>.pure fun _ _=>.nil
  | e::r,c=>by
    unfold evs
    cases hs:isStar e with
    | true=>exact .flt
    | false =>
      have ih:=S_evs h pos r
      have:Snd g c (bnd (ex e) fun a=>bnd (evs ex r) fun as=>ret (a::as)) (fun env=>eval e env>>=fun v=>holding [v] (spliced (backTo pos (starEach r env)))>>=fun vs=>Pure.pure (v::vs)) VRels :=
        .bind (h e c) fun a a' c1 x1 ha=>.bind (.hold (vs:=fun _=>[a']) (ih c1)) fun b b' c2 x2 hb=>.pure fun _ x=>.cons (ha.mono (x2.trans x)) (hb.mono x)
      refine this.conv fun env=>?_
      rw [starEach_cons hs]
      exact spliced_eq _ _
end
end T
namespace T
theorem Hp.more {g:Gd} {hnd:Option Nat} {dep:Nat} {c:Cc} {σ:List AObj} {fs:List Out} {A:Around} {s:Shared} (H:Hp g hnd dep c σ fs A s) {h':Heap} {tk:Nat} (k:∀ b o,s.heap.get? b=some o→h'.get? b=some o) :
    Hp g hnd dep c σ fs A {s with heap:=h',toks:=tk}:=H.upd (.refl c) (H.st.grow k)
theorem VRels.length {c:Cc} {a:List AV} {b:List Value} (h:VRels c a b):a.length=b.length:=h.ind (P:=fun a b=>a.length=b.length) rfl fun _ _ _ _ _ _ ih=>congrArg Nat.succ ih
section
variable {g:Gd} {c₀:Cc}
noncomputable def noComp:Expr→Bool
  | .ListComp ..=>false
  | .SetComp ..=>false
  | .DictComp ..=>false
  | _=>true
theorem swaps_no {v:Expr} (h:noComp v=true) (t:Option Expr) (n:Nat) (env:Env):swapsWith v t n env=pure false:=by
  cases v<;>first | rfl | cases h
theorem S_expr {e:Expr} {pos:Pos} {m:EM AV} (hn:noComp e=true) (h:SE g m e):SS1 g (bnd m fun _=>ret .next) (.Expr e pos) :=
  fun c=>.q fun rd as cc f outs lm A s Q E C x I o k P=>by
    have hi:interactive f.env=false:=by
      delta interactive;rw [show f.env.scope.kind=.function from (I.hp.fok ⟨f.env,lm⟩ (.head _)).2];rfl
    exact wpAny_Expr_any ((h c).step x I o P (fun _ _ c' lm' s' _ P x' I' _=>k _ _ c' lm' s' P x' I' .next .next) fun i as' c' lm' s' e P x' I' he hi=>k (.exc i) as' c' lm' s' P x' I' e he hi) hi (swaps_no hn _ _ _)
theorem S_ret {e:Expr} {pos:Pos} {m:EM AV} (h:SE g m e):SS1 g (bnd m fun a=>ret (.ret a)) (.Return (some e) pos):=by
  intro c
  show Snd g c _ (fun env=>standAt pos>>=fun _=>eval e env>>=fun v=>Pure.pure (Flow.ret v)) FlowR
  exact .stand (p:=fun _=>pos) (.bind (h c) fun a a' c1 x1 ha=>.pure fun _ x=>.ret (ha.mono x))
theorem S_ret0 {pos:Pos}:SS1 g (ret (.ret .none)) (.Return none pos):=by
  intro c
  show Snd g c _ (fun env=>standAt pos>>=fun _=>Pure.pure (Flow.ret Value.none)) FlowR
  exact .stand (p:=fun _=>pos) (.pure fun _ x=>.ret .none)
theorem S_pass {pos:Pos}:SS1 g (ret .next) (.Pass pos):=by
  intro c
  show Snd g c _ (fun env=>standAt pos>>=fun _=>Pure.pure Flow.next) FlowR
  exact .stand (p:=fun _=>pos) (.pure fun _ x=>.next)
theorem S_if {t:Expr} {b o:List Stmt} {pos:Pos} {mt:EM Bool} {mb mo:EM AFlow} (ht:SB g mt t) (hb:SS g mb b) (ho:SS g mo o) :
    SS1 g (bnd mt fun q=>match q with | true=>mb | false=>mo) (.If t b o pos):=by
  intro c
  show Snd g c _ (fun env=>standAt pos>>=fun _=>isTrue t env (eval t env)>>=fun q=>if q=true then execs b env else execs o env) FlowR
  refine .stand (p:=fun _=>pos) (.bind (ht c _ fun _=>rfl) fun q q' c1 x1 hq=>?_)
  obtain rfl:q=q':=hq
  exact Snd.ite (fun _=>hb c1) fun _=>ho c1
noncomputable def stsE (st:Stmt→EM AFlow):List Stmt→EM AFlow
  | []=>ret .next
  | s::r=>bnd (st s) fun f=>match f with
    | .next=>stsE st r
    | f=>ret f
theorem S_sts {st:Stmt→EM AFlow} (h:∀ s,SS1 g (st s) s):∀ l,SS g (stsE st l) l
  | []=>fun c=>.pure fun _ _=>.next
  | s::r=>fun c=>by
    refine (Snd.bind (k:=fun env f=>match f with | .next=>execs r env | f=>Pure.pure f) (h s c) fun f f' c1 x1 hf=>?_:Snd g c _ (fun env=>exec s env>>=fun f=>_) FlowR)
    cases hf with
    | next=>exact S_sts h r c1
    | ret hv=>exact .pure fun _ x=>.ret (hv.mono x)
noncomputable def isTuE:Expr→Bool
  | .Tuple ..=>true
  | _=>false
noncomputable def notPair (t v:Expr):Bool:=match t with
  | .List ..=>false
  | .Tuple ..=>not (isTuE v)
  | _=>true
theorem swapped_v {ts:List Expr} {n:Nat} {p:Pos} {v:Expr} (h:(not (isTuE v))=true) (env:Env):swappedStores [.Tuple ts n p] v env=pure none:=by
  cases v with
  | Tuple=>cases h
  | _=>rfl
theorem swapped_no {t v:Expr} (h:notPair t v=true) (env:Env):swappedStores [t] v env=pure none:=by
  cases t with
  | Tuple=>exact swapped_v h env
  | List=>cases h
  | _=>rfl
theorem each_cons {t:Expr} {ts:List Expr} (hs:isStar t=false) (env:Env):assignEach (t::ts) env=(false,assign t env)::assignEach ts env:=by
  cases t with
  | Starred=>cases hs
  | _=>rfl
theorem S_asg {t v:Expr} {pos:Pos} {m:EM AV} {k:AV→EM Unit} (hn:noComp v=true) (hp:notPair t v=true) (h1:SE g m v) (h2:SA g k t) (hs:isStar t=false) :
    SS1 g (bnd m fun a=>bnd (k a) fun _=>ret .next) (.Assign [t] v pos):=by
  intro c
  have:Snd g c (bnd m fun a=>bnd (k a) fun _=>ret AFlow.next) (fun env=>standAt pos>>=fun _=>eval v env>>=fun a=>assign t env a>>=fun _=>Pure.pure Flow.next) FlowR :=
    .stand (p:=fun _=>pos) (.bind (h1 c) fun a a' c1 x1 ha=>.bind (h2 c1 a a' ha) fun _ _ c2 x2 _=>.pure fun _ _=>.next)
  refine this.conv fun env=>?_
  rw [exec_Assign]
  rw [show swapsWithSole [t] v pos.line env=swapsWith v (some t) pos.line env from rfl,swaps_no hn]
  show (standAt pos>>=fun _=>eval v env>>=fun a=>swappedStores [t] v env>>=fun o=>assignStores env a o ((assignEach [t] env).map (·.2)))=_
  rw [swapped_no hp]
  rw [each_cons hs];rfl
theorem A_name {x:Str} {pos:Pos}:SA g (setL x) (.Name x pos):=by
  intro c a v h
  show Snd g c _ (fun env=>standAt pos>>=fun _=>bindName env x v) VU
  exact .stand (p:=fun _=>pos) (Snd.setL h)
theorem A_attr {o:Expr} {at_:Str} {pos:Pos} {m:EM AV} {k:AV→AV→EM Unit} (h:SE g m o) (hk:∀ c a b a' b',VRel c a a'→VRel c b b'→Snd g c (k a b) (fun _=>setAttr a' at_ b') VU) :
    SA g (fun a=>bnd m fun b=>k b a) (.Attribute o at_ pos):=by
  intro c a v hv
  show Snd g c _ (fun env=>holding [v] (eval o env)>>=fun ov=>standAt pos.atName>>=fun _=>holding [v,ov] (setAttr ov at_ v)>>=fun _=>release [v,ov] []) VU
  refine .bind (.hold (vs:=fun _=>[v]) (h c)) fun b b' c1 x1 hb=>.stand (p:=fun _=>pos.atName) ?_
  have:Snd g c1 (k b a) (fun _=>holding [v,b'] (setAttr b' at_ v)) VU:=.hold (vs:=fun _=>[v,b']) (hk _ _ _ _ _ hb (hv.mono x1))
  exact this.map fun A env Q E s q=>wpAny_bind (wpAny_mono q (fun _ _ q=>wpAny_release' q) fun _ _ e=>e)
theorem A_sub {o i:Expr} {pos:Pos} {m1 m2:EM AV} {k:AV→AV→AV→EM Unit} (h1:SE g m1 o) (h2:SE g m2 i) (hk:∀ c a b v a' b' v',VRel c a a'→VRel c b b'→VRel c v v'→Snd g c (k a b v) (fun _=>setItem a' b' v') VU) :
    SA g (fun v=>bnd m1 fun a=>bnd m2 fun b=>k a b v) (.Subscript o i pos):=by
  intro c a v hv
  show Snd g c _ (fun env=>holding [v] (eval o env)>>=fun ov=>holding [v,ov] (eval i env)>>=fun iv=>standAt pos>>=fun _=>holding [v,ov,iv] (setItem ov iv v)>>=fun _=>release _ []) VU
  exact .bind (.hold (vs:=fun _=>[v]) (h1 c)) fun b b' c1 x1 hb=>.bind (.hold (vs:=fun _=>[v,b']) (h2 c1)) fun d d' c2 x2 hd=>.stand (p:=fun _=>pos)
    ((Snd.hold (vs:=fun _=>[v,b',d']) (hk _ _ _ _ _ _ _ (hb.mono x2) hd (hv.mono (x1.trans x2)))).map fun A env Q E s q=>wpAny_bind (wpAny_mono q (fun _ _ q=>wpAny_release' q) fun _ _ e=>e))
noncomputable def unpackE (n:Nat) (v:AV):EM (List AV):=sop fun rd σ=>match v with
  | .tup vs=>gdO (Nat.beq vs.length n) (match rd.hnd with
      | none=>some (vs,σ)
      | some _=>none)
  | _=>none
theorem unpack_ok {n:Nat} {a:AV} {v:Value} (h:VRel c₀ a v):Snd g c₀ (unpackE n a) (fun _=>unpackItems v n none) VRels :=
  .leaf fun _=>.s fun rd σ c fs A s Q E C x H k P=>by
    cases a with
    | tup vs =>
      refine (h.mono x).elim (G:=fun v=>wpAny (model g.prog g.w) A (unpackItems v n none) Q E s) fun ad vals g1 g2=>Ok.gdO P fun hl P=>?_
      have hn:=H.hnd
      cases q:rd.hnd with
      | some i=>rw [q] at P;exact P.elim
      | none =>
        rw [q] at P hn
        have hz:n=vals.size:=(Nat.eq_of_beq_eq_true hl).symm.trans (g2.length.trans Array.length_toList)
        rw [hz]
        exact wpAny_unpackItems_tuple hn ⟨_,H.st.keep _ _ (.inl g1),rfl,0,rfl⟩ fun h' hx=>k vs σ c _ _ P (.refl c) (q▸H.more fun b o e=>hx b o (Nat.ne_of_lt (Heap.lt_size e)) e) g2
    | _=>exact P.elim
noncomputable def asgs (k:Expr→AV→EM Unit):List Expr→List AV→EM Unit
  | [],_=>ret ()
  | t::ts,as=>match as with
    | []=>ret ()
    | a::as=>pk (isStar t) flt (bnd (k t a) fun _=>asgs k ts as)
theorem aio_nil (l:List (Value→Sem Unit)):assignInOrder l []=Pure.pure ():=by cases l<;>rfl
theorem asgs_ok {k:Expr→AV→EM Unit} (h:∀ e,SA g (k e) e) (ts:List Expr):∀ (as:List AV) (vs:List Value) (c:Cc),VRels c as vs→Snd g c (asgs k ts as) (fun env=>assignInOrder ((assignEach ts env).map (·.2)) vs) VU:=by
  induction ts with
  | nil=>exact fun _ _ _ _=>Snd.true
  | cons t ts ih =>
    intro as vs c hv
    cases hv with
    | nil=>exact (Snd.true (a:=()) (b:=())).conv fun env=>aio_nil _
    | @cons a v as vs h1 h2 =>
      show Snd g c (pk (isStar t) flt (bnd (k t a) fun _=>asgs k ts as)) _ VU
      cases hs:isStar t with
      | true=>exact .flt
      | false=>exact ((Snd.hold (vs:=fun _=>vs) (h t c a v h1)).bind (k:=fun env _=>assignInOrder ((assignEach ts env).map (·.2)) vs) fun _ _ c1 x1 _=>ih as vs c1 (h2.mono x1)).conv fun env=>by rw [each_cons hs];rfl
noncomputable def anyStar:List Expr→Bool
  | []=>false
  | e::r=>isStar e || anyStar r
theorem star_none:∀ (ts:List Expr) (env:Env),anyStar ts=false→(assignEach ts env).findIdx? (·.1)=none
  | [],_,_=>rfl
  | t::r,env,h=>by
    have h:=Bool.or_eq_false_iff.mp h
    rw [each_cons h.1,List.findIdx?_cons,star_none r env h.2];rfl
theorem each_len:∀ (ts:List Expr) (env:Env),(assignEach ts env).length=ts.length
  | [],_=>rfl
  | t::r,env=>by
    have e:∃ q,assignEach (t::r) env=q::assignEach r env:=by cases t<;>exact ⟨_,rfl⟩
    obtain ⟨q,e⟩:=e
    rw [e,List.length_cons,each_len r,List.length_cons]
theorem A_tup {ts:List Expr} {n:Nat} {pos:Pos} {k:Expr→AV→EM Unit} (h:∀ e,SA g (k e) e) (hs:anyStar ts=false) :
    SA g (fun a=>bnd (unpackE ts.length a) fun as=>asgs k ts as) (.Tuple ts n pos):=by
  intro c a v hv
  have:Snd g c (bnd (unpackE ts.length a) fun as=>asgs k ts as) (fun env=>standAt pos>>=fun _=>holding [v] (unpackItems v ts.length none)>>=fun vs=>assignInOrder ((assignEach ts env).map (·.2)) vs) VU :=
    .stand (p:=fun _=>pos) (.bind (.hold (vs:=fun _=>[v]) (unpack_ok hv)) fun as vs c1 x1 h1=>asgs_ok h ts as vs c1 h1)
  refine this.conv fun env=>?_
  show (standAt pos>>=fun _=>unpack v (assignEach ts env))=_
  unfold unpack
  rw [star_none ts env hs,each_len]
end
end T
namespace T
section
variable {g:Gd} {c₀:Cc}
noncomputable def two2 {α γ:Type} (l:List α) (f:α→α→Option γ):Option γ:=match l with
  | []=>none
  | a::r=>match r with
    | []=>none
    | b::t=>match t with
      | []=>f a b
      | _::_=>none
noncomputable def nameO {γ:Type} (e:Expr) (f:Str→Pos→Option γ):Option γ:=match e with
  | .Name x p=>f x p
  | _=>none
noncomputable def isLoc (sc:Scope) (x:Str):Bool:=match lk sc.names x with
  | none=>false
  | some k=>match k with
    | .local=>true
    | _=>false
noncomputable def pairE (sc:Scope) (ts vs:List Expr):Option (Str × Str):=two2 ts fun a b=>nameO a fun x p=>nameO b fun y q=>two2 vs fun v1 v2 =>
  gdO (cond (isLoc sc x) (isLoc sc y) false) (gdO (cond (isStar v1 || isStar v2) false (Nat.beq p.line q.line)) (gdO (cond (seq y x || (foldedForSure 8 v2 || constantsAlone 8 v2)) false true) (some (x,y))))
theorem two2_ok {α γ:Type} {G:List α→Prop} {f:α→α→Option γ} {y:γ} {l:List α} (e:two2 l f=some y) (h:∀ a b,f a b=some y→G [a,b]):G l:=by
  cases l with
  | nil=>exact no_some e
  | cons a r=>cases r with
    | nil=>exact no_some e
    | cons b t=>cases t with
      | nil=>exact h a b e
      | cons=>exact no_some e
theorem nameO_ok {γ:Type} {G:Expr→Prop} {f:Str→Pos→Option γ} {y:γ} {e:Expr} (h:nameO e f=some y) (k:∀ x p,f x p=some y→G (.Name x p)):G e:=by
  cases e with
  | Name x p=>exact k x p h
  | _=>exact no_some h
theorem isLoc_ok {sc:Scope} {x:Str} (h:isLoc sc x=true):sc.names.lookup x=some .local:=by
  rw [← lk_eq]
  delta isLoc at h
  cases e:lk sc.names x with
  | none=>rw [e] at h;cases h
  | some k=>rw [e] at h;cases k with
    | «local»=>rfl
    | _=>cases h
theorem cond_ft {a b:Bool} (h:cond a false b=true):a=false∧b=true:=by
  cases a with
  | true=>cases h
  | false=>exact ⟨rfl,h⟩
theorem swapped_eq (ts vs:List Expr) (k1 k2:Nat) (p1 p2:Pos) (env:Env):swappedStores [.Tuple ts k1 p1] (.Tuple vs k2 p2) env=(do
    if !(ts.length == 2 || ts.length == 3) || vs.length != ts.length || env.blockKind != .function then return none
    if vs.any isStar then return none
    let line:=(ts.head?.map (·.pos.line)).getD 0
    let names:=ts.filterMap fun
      | .Name id pos=>if env.kindOf id == some .local && pos.line == line then some id else none
      | _=>none
    if names.length != ts.length || names.eraseDups.length != names.length then return none
    if vs.all (foldedForSure 8) then return none
    if vs.all (constantsAlone 8) then unsupported "assign.tuple-of-constant-expressions:order-of-the-stores"
    return some names):=rfl
theorem name_pos (x:Str) (p:Pos):(Expr.Name x p).pos=p:=rfl
theorem swapped_yes {r:Str × Str} {ts vs:List Expr} {k1 k2:Nat} {p1 p2:Pos} {env:Env} (hk:env.scope.kind=.function) (h:pairE env.scope ts vs=some r) :
    swappedStores [.Tuple ts k1 p1] (.Tuple vs k2 p2) env=pure (some [r.1,r.2]):=by
  refine two2_ok (G:=fun ts=>swappedStores [.Tuple ts k1 p1] (.Tuple vs k2 p2) env=pure (some [r.1,r.2])) h fun a b h=>nameO_ok (G:=fun a=>swappedStores [.Tuple [a,b] k1 p1] (.Tuple vs k2 p2) env=pure (some [r.1,r.2])) h fun x p h=>nameO_ok (G:=fun b=>swappedStores [.Tuple [.Name x p,b] k1 p1] (.Tuple vs k2 p2) env=pure (some [r.1,r.2])) h fun y q h =>
    two2_ok (G:=fun vs=>swappedStores [.Tuple [.Name x p,.Name y q] k1 p1] (.Tuple vs k2 p2) env=pure (some [r.1,r.2])) h fun v1 v2 h=>?_
  obtain ⟨h1,h⟩:=gdO_ok h
  obtain ⟨h2,h⟩:=gdO_ok h
  obtain ⟨h3,h⟩:=gdO_ok h
  obtain ⟨l1,l2⟩:=cond_ff h1
  obtain ⟨a1,a2⟩:=cond_ft h2
  have b:=Bool.or_eq_false_iff.mp a1
  have a3:=Bool.or_eq_false_iff.mp (cond_ft h3).1
  have a4:=Bool.or_eq_false_iff.mp a3.2
  have e1:env.kindOf x=some .local:=isLoc_ok l1
  have e2:env.kindOf y=some .local:=isLoc_ok l2
  have e3:p.line=q.line:=Nat.eq_of_beq_eq_true a2
  have e4:(y == x)=false:=(seq_beq y x).symm.trans a3.1
  have e5:env.blockKind=.function:=by delta Env.blockKind;rw [hk];rfl
  rw [swapped_eq,← Option.some.inj h]
  simp [e1,e2,e3,e5,b.1,b.2,a4.1,a4.2,List.eraseDups,List.eraseDupsBy,List.eraseDupsBy.loop,name_pos,e4]
noncomputable def pairK (p:Str × Str) (as:List AV):EM AFlow:=match as with
  | []=>flt
  | a::r=>match r with
    | []=>flt
    | b::t=>match t with
      | []=>bnd (bnd (setL p.2 b) fun _=>bnd (setL p.1 a) fun _=>ret ()) fun _=>ret .next
      | _::_=>flt
theorem pairK_ok {c:Cc} {p:Str × Str} {as:List AV} {vs:List Value} (hv:VRels c as vs):Snd g c (pairK p as) (fun env=>assignInOrder ([p.2,p.1].map fun n=>bindName env n) vs.reverse>>=fun _=>Pure.pure Flow.next) FlowR:=by
  cases hv with
  | nil=>exact .flt
  | @cons a v _ _ h1 t=>cases t with
    | nil=>exact .flt
    | @cons b w _ _ h2 t=>cases t with
      | nil =>
        have m2:∀ c1,Ext c c1→Snd g c1 (bnd (setL p.1 a) fun _=>ret ()) (fun env=>assignInOrder [fun v=>bindName env p.1 v] [v]) VU:=fun c1 x1=>.bind (k:=fun _ _=>Pure.pure ()) (.hold (vs:=fun _=>[]) (.setL (h1.mono x1))) fun _ _ _ _ _=>Snd.true
        exact .bind (k:=fun _ _=>Pure.pure Flow.next) (.bind (k:=fun env _=>assignInOrder [fun v=>bindName env p.1 v] [v]) (.hold (vs:=fun _=>[v]) (.setL h2)) fun _ _ c1 x1 _=>m2 c1 x1) fun _ _ _ _ _=>.pure fun _ _=>.next
      | cons=>exact .flt
theorem S_pair {ts vs:List Expr} {k1 k2:Nat} {p1 p2 pos:Pos} {m:EM AV} (h:SE g m (.Tuple vs k2 p2)) :
    SS1 g (bnd (sop fun rd σ=>obn (pairE rd.sc ts vs) fun p=>some (p,σ)) fun p=>bnd m fun a=>bnd (unpackE 2 a) (pairK p)) (.Assign [.Tuple ts k1 p1] (.Tuple vs k2 p2) pos) :=
  fun c=>.q fun rd as cc f outs lm A s Q E C x I o kk P=>by
    have P:=P.sop
    cases hp:pairE rd.sc ts vs with
    | none=>rw [hp] at P;exact P.elim
    | some p =>
      rw [hp] at P
      have hk:=(I.hp.fok ⟨f.env,lm⟩ (.head _)).2
      have hsw:=swapped_yes (k1:=k1) (k2:=k2) (p1:=p1) (p2:=p2) (env:=f.env) hk (by rw [show f.env.scope=rd.sc from I.sc];exact hp)
      have G:Snd g c (bnd m fun a=>bnd (unpackE 2 a) (pairK p)) (fun env=>standAt pos>>=fun _=>eval (.Tuple vs k2 p2) env>>=fun v=>rule "assign.swapped-stores" >>= fun _=>unpackItems v 2 none>>=fun items=>assignInOrder ([p.2,p.1].map fun n=>bindName env n) items.reverse>>=fun _=>Pure.pure Flow.next) FlowR :=
        .stand (p:=fun _=>pos) (.bind (h c) fun a a' c1 x1 ha=>(Snd.bind (unpack_ok ha) fun as vs c2 x2 hv=>pairK_ok hv).map fun _ _ _ _ _ q=>wpAny_bind (wpAny_rule q))
      rw [exec_Assign,show swapsWithSole [.Tuple ts k1 p1] (.Tuple vs k2 p2) pos.line f.env=Pure.pure false from rfl]
      show wpAny _ _ (standAt pos>>=fun _=>eval (.Tuple vs k2 p2) f.env>>=fun v=>swappedStores [.Tuple ts k1 p1] (.Tuple vs k2 p2) f.env>>=fun o=>assignStores f.env v o _) _ _ _
      rw [hsw]
      exact G.run x I o kk P
end
end T
namespace T
section
variable {g:Gd} {c₀:Cc}
theorem Snd.after {α β:Type} {m:EM α} {t:Env→Sem β} {post:Env→β→Sem β} {R:Cc→α→β→Prop} (h:Snd g c₀ m t R)
    (hp:∀ A env b (Q:β→Shared→Prop) E s,Q b s→wpAny (model g.prog g.w) A (post env b) Q E s):Snd g c₀ m (fun env=>t env>>=post env) R :=
  h.map fun A env Q E s q=>wpAny_bind (wpAny_mono q (fun b s hb=>hp A env b Q E s hb) fun _ _ e=>e)
theorem S_aug {o e:Expr} {at_:Str} {tpos pos:Pos} {op:Operator} {mo me:EM AV} {ga:AV→EM AV} {iop:AV→AV→EM AV} {sa:AV→AV→EM Unit} (ho:SE g mo o) (he:SE g me e)
    (hg:∀ c a a',VRel c a a'→Snd g c (ga a) (fun _=>getAttr a' at_ true) VRel) (hop:∀ c a b a' b',VRel c a a'→VRel c b b'→Snd g c (iop a b) (fun _=>inplaceOp op a' b') VRel)
    (hs:∀ c a b a' b',VRel c a a'→VRel c b b'→Snd g c (sa a b) (fun _=>setAttr a' at_ b') VU) :
    SS1 g (bnd mo fun ov=>bnd (bnd (ga ov) fun old=>bnd me fun v=>iop old v) fun new=>bnd (sa ov new) fun _=>ret .next) (.AugAssign (.Attribute o at_ tpos) op e pos):=by
  intro c
  have tail:∀ c1 ov ov' ,VRel c1 ov ov'→Snd g c1 (bnd (ga ov) fun old=>bnd me fun v=>iop old v)
      (fun env=>holding [ov'] (standAt tpos.atName>>=fun _=>getAttr ov' at_ true>>=fun old=>holding [old] (eval e env)>>=fun v=>standAt pos>>=fun _=>operate [old,v] (inplaceOp op old v))) VRel:=fun c1 ov ov' h1 =>
    .hold (vs:=fun _=>[ov']) (.stand (p:=fun _=>tpos.atName) (.bind (hg c1 _ _ h1) fun old old' c2 x2 h2=>.bind (.hold (vs:=fun _=>[old']) (he c2)) fun v v' c3 x3 h3 =>
      .stand (p:=fun _=>pos) (.oper (vs:=fun _=>[old',v']) (hop c3 _ _ _ _ (h2.mono x3) h3))))
  exact (Snd.stand (p:=fun _=>pos) (.bind (ho c) fun ov ov' c1 x1 h1=>.bind (tail c1 ov ov' h1) fun nw nw' c2 x2 h2=>.stand (p:=fun _=>tpos.atName)
    (.bind (.hold (vs:=fun _=>[nw',ov']) (hs c2 _ _ _ _ (h1.mono x2) h2)) fun _ _ c3 x3 _=>.rls (a:=fun _=>[nw',ov']) (b:=fun _=>[]) (.pure fun _ _=>.next))) :
    Snd g c _ (fun env=>standAt pos>>=fun _=>eval o env>>=fun ov=>_) FlowR)
noncomputable def plainBase:Expr→Bool
  | .Call (.Name ..) [] [] _=>false
  | _=>true
theorem base_plain {o:Expr} (h:plainBase o=true) (at_:Str) (env:Env) (w:Sem Value):attributeBase o at_ env w=w:=by
  cases o with
  | Call f a k p=>cases f with
    | Name=>cases a with
      | nil=>cases k with
        | nil=>exact no_tf h
        | cons=>rfl
      | cons=>rfl
    | _=>rfl
  | _=>rfl
theorem S_attr {o:Expr} {at_:Str} {pos:Pos} {mo:EM AV} {ga:AV→EM AV} (hp:plainBase o=true) (ho:SE g mo o) (hg:∀ c a a',VRel c a a'→Snd g c (ga a) (fun _=>getAttr a' at_ true) VRel) :
    SE g (bnd mo ga) (.Attribute o at_ pos):=by
  intro c
  have:Snd g c (bnd mo ga) (fun env=>eval o env>>=fun ov=>standAt pos.atName>>=fun _=>holding [ov] (getAttr ov at_ true)>>=fun r=>letTemporaryGo o ov r>>=fun _=>Pure.pure r) VRel :=
    .bind (ho c) fun ov ov' c1 x1 h1=>.stand (p:=fun _=>pos.atName) (.after (post:=fun _ r=>letTemporaryGo o ov' r>>=fun _=>Pure.pure r) (.hold (vs:=fun _=>[ov']) (hg c1 _ _ h1)) fun _ _ _ _ _ _ q=>wpAny_bind (wpAny_letTemporaryGo (wpAny_pure q)))
  refine this.conv fun env=>?_
  show (attributeBase o at_ env (eval o env)>>=fun ov=>_)=_
  rw [base_plain hp]
noncomputable def subT (a b:Value):Sem Value:=getitemInPython a>>=fun q=>match q with
  | true=>runValue (.builtin "lifetime.subscript" ⟨[a,b],[]⟩)
  | false=>operate [a,b] (getItem a b)
noncomputable def notSlice:Expr→Bool
  | .Slice ..=>false
  | _=>true
theorem sub_plain {i:Expr} (h:notSlice i=true) (q:Bool) (a b:Value):subscripted i q a b=(match q with
  | true=>runValue (.builtin "lifetime.subscript" ⟨[a,b],[]⟩)
  | false=>operate [a,b] (getItem a b)):=by
  cases i with
  | Slice=>exact no_tf h
  | _=>cases q<;>rfl
theorem S_sub {o i:Expr} {pos:Pos} {mo mi:EM AV} {k:AV→AV→EM AV} (hp:notSlice i=true) (ho:SE g mo o) (hi:SE g mi i) (hk:∀ c a b a' b',VRel c a a'→VRel c b b'→Snd g c (k a b) (fun _=>subT a' b') VRel) :
    SE g (bnd mo fun a=>bnd mi fun b=>k a b) (.Subscript o i pos):=by
  intro c
  have:Snd g c (bnd mo fun a=>bnd mi fun b=>k a b) (fun env=>eval o env>>=fun ov=>holding [ov] (eval i env)>>=fun iv=>standAt pos>>=fun _=>subT ov iv>>=fun r=>letTemporaryGo o ov r>>=fun _=>Pure.pure r) VRel :=
    .bind (ho c) fun ov ov' c1 x1 h1=>.bind (.hold (vs:=fun _=>[ov']) (hi c1)) fun iv iv' c2 x2 h2=>.stand (p:=fun _=>pos)
      (.after (post:=fun _ r=>letTemporaryGo o ov' r>>=fun _=>Pure.pure r) (hk c2 _ _ _ _ (h1.mono x2) h2) fun _ _ _ _ _ _ q=>wpAny_bind (wpAny_letTemporaryGo (wpAny_pure q)))
  refine this.map fun A env Q E s q=>?_
  rw [eval_Subscript]
  intro Γ p hΓ
  have q:=q Γ p hΓ
  simp only [Sem.wp_bind',subT,sub_plain hp] at q ⊢
  exact q
noncomputable def slcT (pos:Pos) (a l u:Value):Sem Value:=newFields "slice" [l,u,.none]>>=fun i=>standAt pos>>=fun _=>getitemInPython a>>=fun _=>operate [i,a] (getItem a i)
noncomputable def optE (ex:Expr→EM AV):Option Expr→EM AV
  | none=>ret .none
  | some e=>ex e
theorem S_opt {ex:Expr→EM AV} (h:∀ e,SE g (ex e) e):∀ (o:Option Expr) (c:Cc),Snd g c (optE ex o) (fun env=>valueOrNone (evalOpt o env)) VRel
  | none,c=>.pure fun _ _=>.none
  | some e,c=>h e c
theorem S_slc {o:Expr} {lo up:Option Expr} {spos pos:Pos} {mo:EM AV} {ex:Expr→EM AV} {k:AV→AV→AV→EM AV} (ho:SE g mo o) (hx:∀ e,SE g (ex e) e)
    (hk:∀ c a l u a' l' u',VRel c a a'→VRel c l l'→VRel c u u'→Snd g c (k a l u) (fun _=>slcT pos a' l' u') VRel) :
    SE g (bnd mo fun a=>bnd (optE ex lo) fun l=>bnd (optE ex up) fun u=>k a l u) (.Subscript o (.Slice lo up none spos) pos):=by
  intro c
  have:Snd g c (bnd mo fun a=>bnd (optE ex lo) fun l=>bnd (optE ex up) fun u=>k a l u)
      (fun env=>eval o env>>=fun ov=>valueOrNone (evalOpt lo env)>>=fun l=>holding [l] (valueOrNone (evalOpt up env))>>=fun u=>slcT pos ov l u>>=fun r=>letTemporaryGo o ov r>>=fun _=>Pure.pure r) VRel :=
    .bind (ho c) fun ov ov' c1 x1 h1=>.bind (S_opt hx lo c1) fun l l' c2 x2 h2=>.bind (.hold (vs:=fun _=>[l']) (S_opt hx up c2)) fun u u' c3 x3 h3 =>
      (.after (post:=fun _ r=>letTemporaryGo o ov' r>>=fun _=>Pure.pure r) (hk c3 _ _ _ _ _ _ (h1.mono (x2.trans x3)) (h2.mono x3) h3) fun _ _ _ _ _ _ q=>wpAny_bind (wpAny_letTemporaryGo (wpAny_pure q)))
  refine this.map fun A env Q E s q=>?_
  rw [eval_Subscript]
  have e1:eval (.Slice lo up none spos) env=(valueOrNone (evalOpt lo env)>>=fun l=>holding [l] (valueOrNone (evalOpt up env))>>=fun u=>holding [l,u] (Pure.pure Value.none)>>=fun s=>newFields "slice" [l,u,s]):=rfl
  have e2:∀ q a b,subscripted (.Slice lo up none spos) q a b=operate [b,a] (getItem a b):=fun q a b=>by cases q<;>rfl
  rw [e1]
  intro Γ p hΓ
  have q:=q Γ p hΓ
  simp only [Sem.wp_bind',slcT,e2,Sem.wp_holding,Sem.wp_pure',Sem.wp_cmd_standAt] at q ⊢
  exact q
noncomputable def Keeps (g:Gd) (f:Value):Prop:=∀ h,g.K.In h→∃ k,(k=Keeper.frame∨k=Keeper.machine∨k=Keeper.boundFrame)∧Looks (model g.prog g.w) h (keeperOf f) k
theorem keeps_bi {s:String}:Keeps g (.builtin s):=fun _ _=>⟨.machine,.inr (.inl rfl),.now⟩
theorem keeps_ty {s:String}:Keeps g (.type s):=fun _ _=>⟨.machine,.inr (.inl rfl),.now⟩
theorem keeps_ref {f:Addr} (h:keepIn g.K (.ref f)=true):Keeps g (.ref f):=fun hp X=>keeps_K h hp X
noncomputable def memN (l:List Nat) (a:Nat):Bool:=memP (Nat.beq a) l
theorem memN_iff {l:List Nat} {a:Nat} (h:memN l a=true):a∈l:=by
  obtain ⟨x,m,e⟩:=memP_iff.mp h
  rw [Nat.eq_of_beq_eq_true e];exact m
noncomputable def keepAV (kt:List Addr):AV→Bool
  | .ref a=>memN kt a
  | .bi _=>true
  | .typ _=>true
  | _=>false
theorem keepAV_ok {kt:List Addr} (hk:∀ a∈kt,keepIn g.K (.ref a)=true) {c:Cc} {a:AV} {v:Value} (h:VRel c a v) (e:keepAV kt a=true):Keeps g v:=by
  cases a with
  | ref a=>exact h.elim (G:=Keeps g) (keeps_ref (hk _ (memN_iff e)))
  | typ n=>exact h.elim (G:=Keeps g) keeps_ty
  | bi n=>exact h.elim (G:=Keeps g) keeps_bi
  | _=>exact no_tf e
theorem back_any (pos:Pos):∀ (es:List Expr) (env:Env),anyStar es=false→(backTo pos (starEach es env)).any (·.1)=false
  | [],_,_=>rfl
  | e::r,env,h=>by
    have h:=Bool.or_eq_false_iff.mp h
    rw [starEach_cons h.1]
    exact back_any pos r env h.2
theorem callW_ok {ex:Expr→EM AV} (hex:∀ e,SE g (ex e) e) {args:List Expr} (hs:anyStar args=false) {pos:Env→Pos} {tp:Pos} {f:Value} {first:List Value} (hk:Keeps g f) {cl:List AV→EM AV}
    (hc:∀ c as vs,Ext c₀ c→VRels c as vs→Snd g c (cl as) (fun _=>call f (first++vs) []) VRel) :
    Snd g c₀ (bnd (evs ex args) cl) (fun env=>callWith (pos env) f first (backTo tp (starEach args env)) []) VRel:=by
  intro rd as r as' e c fr outs lm A s Q E x I o kk
  refine callWith_of (P:=g.K.In) (by rw [back_any tp args fr.env hs];rfl) hk ?_
  have step:wpAny (model g.prog g.w) A (spliced (backTo tp (starEach args fr.env))) (fun vs s₁=>g.K.In s₁.heap∧wpAny (model g.prog g.w) A (call f (first++vs) []) Q E s₁) E s:=by
    simp only [bnd] at e
    split at e
    · cases e
    · rename_i a s₁ e1
      refine S_evs hex tp args c₀ rd as _ _ e1 c fr outs lm A s _ E x I ((cl a).mono _ _ _ _ e o) fun c' lm' s' x' I'=>fun vs hv=>⟨I'.hp.K,?_⟩
      exact hc c' a vs (x.trans x') hv rd s₁ r as' e c' fr outs lm' A s' Q E (.refl c') I' o fun c'' lm'' s'' x'' I''=>kk c'' lm'' s'' (x'.trans x'') I''
    · rename_i i s₁ e1
      cases e
      exact S_evs hex tp args c₀ rd as _ _ e1 c fr outs lm A s _ E x I o fun c' lm' s' x' I'=>kk c' lm' s' x' I'
  cases args with
  | nil=>exact evalArgs_nil3 ⟨I.hp.K,hc c₀ [] [] (.refl c₀) .nil rd as r as' e c fr outs lm A s Q E x I o kk⟩
  | cons a r =>
    rw [starEach_cons (Bool.or_eq_false_iff.mp hs).1] at step ⊢
    exact evalArgs_plain step
noncomputable def notAttr:Expr→Bool
  | .Name ..=>true
  | .Subscript ..=>true
  | _=>false
theorem S_callN {ex:Expr→EM AV} (hex:∀ e,SE g (ex e) e) {kt:List Addr} (hk:∀ a∈kt,keepIn g.K (.ref a)=true) {fn:Expr} {args:List Expr} {pos:Pos} (hn:notAttr fn=true) (hs:anyStar args=false) {cl:AV→List AV→EM AV}
    (hc:∀ c f as f' vs,VRel c f f'→VRels c as vs→Snd g c (cl f as) (fun _=>call f' vs []) VRel) :
    SE g (bnd (ex fn) fun f=>match keepAV kt f with | true=>bnd (evs ex args) fun as=>cl f as | false=>flt) (.Call fn args [] pos):=by
  intro c
  have e:∀ env,eval (.Call fn args [] pos) env=(eval fn env>>=fun f=>callWith pos f [] (backTo pos (starEach args env)) []):=fun env=>by
    cases fn<;>first | rfl | cases hn
  refine Snd.conv ?_ e
  refine .bind (hex fn c) fun f f' c1 x1 hf=>?_
  split
  · rename_i h
    exact callW_ok (pos:=fun _=>pos) hex hs (keepAV_ok hk hf h) fun c2 as vs x2 hv=>hc c2 f as f' vs (hf.mono x2) hv
  · exact .flt
noncomputable def PR:Cc→AV × List AV→Value × List Value→Prop:=fun c p q=>VRel c p.1 q.1∧VRels c p.2 q.2
theorem back_all (pos:Pos):∀ (es:List Expr) (env:Env),anyStar es=false→(backTo pos (starEach es env)).all (!·.1)=true
  | [],_,_=>rfl
  | e::r,env,h=>by
    have h:=Bool.or_eq_false_iff.mp h
    rw [starEach_cons h.1]
    exact back_all pos r env h.2
theorem VRels.app {c:Cc}:∀ {a b:List AV} {x y:List Value},VRels c a x→VRels c b y→VRels c (a++b) (x++y)
  | _,_,_,_,.nil,h=>h
  | _,_,_,_,.cons h1 h2,h=>.cons h1 (h2.app h)
theorem S_callM {ex:Expr→EM AV} (hex:∀ e,SE g (ex e) e) {kt:List Addr} (hk:∀ a∈kt,keepIn g.K (.ref a)=true) {o:Expr} {nm:Str} {args:List Expr} {apos pos:Pos} (hb:plainBase o=true) (hs:anyStar args=false)
    (hl:Nat.blt args.length 30=true) (hline:Nat.beq apos.endLine pos.line=true) {gm:AV→Str→EM (AV × List AV)} {cl:AV→List AV→EM AV}
    (hgm:∀ c a a' (pl:Env→Sem Bool),VRel c a a'→Snd g c (gm a nm) (fun env=>getMethod a' nm (pl env)) PR)
    (hc:∀ c f as f' vs,VRel c f f'→VRels c as vs→Snd g c (cl f as) (fun _=>call f' vs []) VRel) :
    SE g (bnd (ex o) fun ov=>bnd (gm ov nm) fun p=>match keepAV kt p.1 with | true=>bnd (evs ex args) fun as=>cl p.1 (p.2++as) | false=>flt) (.Call (.Attribute o nm apos) args [] pos):=by
  intro c
  have hl':args.length+0+0 < 30:=Nat.le_of_ble_eq_true hl
  have few:∀ env,methodCallForm (args.length+([]:List Keyword).length) (backTo pos (starEach args env)) (backToKw pos (keywordEach [] env))=true:=fun env=>by
    unfold methodCallForm
    rw [back_all pos args env hs]
    exact decide_eq_true hl'
  have e:∀ env,eval (.Call (.Attribute o nm apos) args [] pos) env=(eval o env>>=fun ov=>standAt apos.atName>>=fun _=>holding [ov] (getMethod ov nm (do return (← importBound o env).getD true))>>=fun p =>
      callWith pos p.1 p.2 (backTo pos (starEach args env)) []):=fun env=>by
    show (attributeBase o nm env (eval o env)>>=fun ov=>standAt apos.atName>>=fun _=>methodCall o nm apos pos env ov (args.length+([]:List Keyword).length) (backTo pos (starEach args env)) (backToKw pos (keywordEach [] env)))=_
    rw [base_plain hb]
    unfold methodCall
    rw [few env]
    have mp:methodCallPos true o env apos pos=Pure.pure pos:=by
      unfold methodCallPos
      rw [if_pos (by simp [Nat.eq_of_beq_eq_true hline])]
    rw [mp]
    rfl
  refine Snd.conv ?_ e
  refine .bind (hex o c) fun ov ov' c1 x1 h1=>.stand (p:=fun _=>apos.atName) (.bind (.hold (vs:=fun _=>[ov']) (hgm c1 ov ov' (fun env=>do return (← importBound o env).getD true) h1)) fun p p' c2 x2 h2=>?_)
  split
  · rename_i h
    exact callW_ok (pos:=fun _=>pos) hex hs (keepAV_ok hk h2.1 h) fun c3 as vs x3 hv=>hc c3 _ _ _ _ (h2.1.mono x3) ((h2.2.mono x3).app hv)
  · exact .flt
end
end T
namespace T
noncomputable def allHave {β:Type} (l:List (Str × β)):List Str→Bool
  | []=>true
  | n::r=>cond (lk l n).isSome (allHave l r) false
noncomputable def fill {β:Type} (l:List (Str × β)):List (Str × β)→List (Str × β)
  | []=>l
  | p::r=>fill (cond (lk l p.1).isSome l (l++[p])) r
noncomputable def pickC {β:Type} (o:Option β) (n:Str) (t:List (Str × β)):List (Str × β):=match o with
  | some v=>(n,v)::t
  | none=>t
noncomputable def pick {β:Type} (l:List (Str × β)):List Str→List (Str × β)
  | []=>[]
  | n::r=>pickC (lk l n) n (pick l r)
noncomputable def lastD {β:Type} (names:List Str) (ds:List β):List β:=ds.drop (ds.length - names.length)
noncomputable def bindD {β:Type} (names:List Str) (vs ds:List β):Option (List (Str × β)):=gdO (cond (Nat.ble vs.length names.length) (allHave (names.zip vs) (names.take (names.length - ds.length))) false)
  (some (pick (fill (names.zip vs) ((names.drop (names.length - ds.length)).zip ds)) names))
noncomputable def bindF {β:Type} (names:List Str) (vs ds:List β):Option (List (Str × β)):=bindD names vs (lastD names ds)
theorem allHave_filter {β:Type} {l:List (Str × β)} {ns:List Str}:allHave l ns=true→(ns.filter fun n=>(l.lookup n).isNone)=[]:=by
  induction ns with
  | nil=>exact fun _=>rfl
  | cons n r ih =>
    intro h
    obtain ⟨h1,h2⟩:=cond_ff h
    rw [lk_eq] at h1
    exact (List.filter_cons_of_neg (by rw [← Option.not_isSome,h1];decide)).trans (ih h2)
theorem fill_fold {β:Type} (r:List (Str × β)):∀ l:List (Str × β),r.foldl (fun (b:List (Str × β)) a=>if (b.lookup a.1).isNone then b++[(a.1,a.2)] else b) l=fill l r:=by
  induction r with
  | nil=>exact fun _=>rfl
  | cons p r ih =>
    intro l
    refine (ih _).trans (congrArg (fill · r) ?_)
    show (if (l.lookup p.1).isNone=true then l++[(p.1,p.2)] else l)=_
    rw [← lk_eq]
    cases lk l p.1<;>rfl
theorem pick_map {β:Type} (l:List (Str × β)) (ns:List Str):ns.filterMap (fun n=>(l.lookup n).map (n,·))=pick l ns:=by
  induction ns with
  | nil=>rfl
  | cons n r ih =>
    rw [List.filterMap_cons,ih,← lk_eq]
    show _=pickC (lk l n) n (pick l r)
    cases lk l n<;>rfl
theorem fill_loop {V:Type} (r l:List (Str × V)):(forIn r l fun x l=>(if (l.lookup x.1).isNone=true then do let l:=l++[(x.1,x.2)];pure (ForInStep.yield l) else pure (ForInStep.yield l):Sem _))=pure (fill l r):=by
  rw [← fill_fold,← List.forIn_pure_yield_eq_foldl (m:=Sem)]
  congr 1
  funext x l
  split<;>rfl
theorem not_full {α:Type} {l:List α} (h:l=[]):¬ (!l.isEmpty)=true:=fun z=>by rw [h] at z;cases z
theorem fin_q {α β:Type} {Q:List β→Shared→Prop} {s:Shared} {l:List α} {f:α→Option β} (q:Q (l.filterMap f) s):Q ((l++[]).filterMap f) s:=by rw [List.append_nil];exact q
theorem bind_core {s:Shared} {as:List Arg} {kd:List (Option Expr)} {de:List Expr} {fd:FuncData} {vals:List Value} {binds:List (Str × Value)} (hp:fd.params=⟨[],as,none,[],kd,none,de⟩) {M:Model} {A:Around} {E:Value→Shared→Prop} {Q:List (Str × Value)→Shared→Prop} {o:Option (Array Value)}
    (hs:∀ Q':Option (Array Value)→Shared→Prop,Q' o s→wpAny M A (seqItems? fd.defaults) Q' E s) (h:bindF (as.map (·.arg)) vals (o.getD #[]).toList=some binds) (q:Q binds s):wpAny M A (bindArgs fd ⟨vals,[]⟩) Q E s:=by
  obtain ⟨h1,h2⟩:=gdO_ok h
  obtain ⟨h1,h3⟩:=cond_ff h1
  rw [← Option.some.inj h2,← pick_map] at q
  clear h2 h
  obtain ⟨name,qual,params,body,sc,gl,cl,dV,kV,doc,pm,an,cd,ct,bi⟩:=fd
  cases hp
  delta bindArgs
  refine wpAny_bind (wpAny_of_eq rfl (wpAny_bind (hs _ (wpAny_ite_false ?_ (wpAny_ite_false ?_ (wpAny_bind (wpAny_of_eq (fill_loop _ _) (wpAny_bind (wpAny_of_eq rfl (wpAny_ite_false rfl (wpAny_pure ?_)))))))))))
  · exact decide_eq_false (by simpa using Nat.le_of_ble_eq_true h1)
  · exact decide_eq_false (not_full (allHave_filter h3))
  · exact fin_q q
theorem bind_plain {s:Shared} {fd:FuncData} {as:List Arg} {kd:List (Option Expr)} {de:List Expr} (hp:fd.params=⟨[],as,none,[],kd,none,de⟩) {vals ds:List Value} {binds:List (Str × Value)}
    (hd:(fd.defaults=.none∧ds=[])∨∃ T o n,fd.defaults=.ref T∧s.heap.get? T=some o∧o.data=.seq ds.toArray n) (h:bindF (as.map (·.arg)) vals ds=some binds):BindsTo s fd ⟨vals,[]⟩ binds:=fun M A E Q q=>by
  rcases hd with ⟨e1,e2⟩ | ⟨T,o,n,e1,e2,e3⟩
  · exact bind_core hp (o:=none) (fun Q' k=>by rw [e1];exact wpAny_bind (wpAny_pure (wpAny_pure k))) (by rw [← h,e2];rfl) q
  · exact bind_core hp (o:=some ds.toArray) (fun Q' k=>by rw [e1];exact wpAny_seqItems e2 e3 k) h q
structure FnE where
  addr:Addr
  names:List Str
  qual:Str
  sc:Scope
  body:List Stmt
  ads:List AV
noncomputable def FnOk (g:Gd) (e:FnE):Prop:=∃ oc od osl name as kd de dV kV doc pm an cdv ct,g.K.lookup e.addr=some ⟨oc,od,.func (fnOf name e.qual ⟨[],as,none,[],kd,none,de⟩ e.body e.sc dV kV doc pm an cdv ct),osl⟩ ∧
  codeIn g.K cdv e.qual=true∧e.sc.isCoroutine=false∧e.sc.isGenerator=false∧e.sc.kind=.function∧(∀ x∈e.sc.names,x.2 ≠ .cell)∧(∀ n∈e.names,e.sc.names.lookup n=some .local) ∧
  as.map (·.arg)=e.names∧∃ ds:List Value,(∀ c,VRels c e.ads ds)∧((dV=.none∧ds=[])∨∃ T oT n,dV=.ref T∧g.K.lookup T=some oT∧oT.data=.seq ds.toArray n)
inductive PRels (c:Cc):List (Str × AV)→List (Str × Value)→Prop
  | nil:PRels c [] []
  | cons {k a v as vs}:VRel c a v→PRels c as vs→PRels c ((k,a)::as) ((k,v)::vs)
theorem PRels.app {c:Cc} {a b:List (Str × AV)} {x y:List (Str × Value)} (h:PRels c a x) (h2:PRels c b y):PRels c (a++b) (x++y):=by
  induction h with
  | nil=>exact h2
  | cons h _ ih=>exact .cons h ih
theorem PRels.zip {c:Cc} (ns:List Str):∀ {a:List AV} {x:List Value},VRels c a x→PRels c (ns.zip a) (ns.zip x):=by
  induction ns with
  | nil=>exact fun _=>.nil
  | cons n r ih=>exact fun h=>VRels.casesOn (motive_2:=fun a x _=>PRels c ((n::r).zip a) ((n::r).zip x)) h .nil fun h t=>.cons h (ih t)
theorem PRels.lk {c:Cc} {a:List (Str × AV)} {x:List (Str × Value)} (h:PRels c a x) (n:Str):Found c (T.lk x n) (T.lk a n):=by
  induction h with
  | nil=>rfl
  | @cons k a v as vs h _ ih =>
    show Found c (cond (seq n k) (some v) (T.lk vs n)) (cond (seq n k) (some a) (T.lk as n))
    cases seq n k with
    | true=>exact ⟨v,rfl,h⟩
    | false=>exact ih
theorem PRels.have {c:Cc} {a:List (Str × AV)} {x:List (Str × Value)} (h:PRels c a x) (ns:List Str):allHave a ns=allHave x ns:=by
  induction ns with
  | nil=>rfl
  | cons n r ih=>show cond (T.lk a n).isSome (allHave a r) false=cond (T.lk x n).isSome (allHave x r) false;rw [ih,(h.lk n).has]
theorem PRels.fill {c:Cc} {b:List (Str × AV)} {y:List (Str × Value)} (h:PRels c b y):∀ {a:List (Str × AV)} {x:List (Str × Value)},PRels c a x→PRels c (T.fill a b) (T.fill x y):=by
  induction h with
  | nil=>exact id
  | @cons k v w b y h1 _ ih =>
    intro a x h
    show PRels c (T.fill (cond (T.lk a k).isSome a (a++[(k,v)])) b) (T.fill (cond (T.lk x k).isSome x (x++[(k,w)])) y)
    rw [(h.lk k).has]
    cases (T.lk a k).isSome with
    | true=>exact ih h
    | false=>exact ih (h.app (.cons h1 .nil))
theorem PRels.pick {c:Cc} {a:List (Str × AV)} {x:List (Str × Value)} (h:PRels c a x) (ns:List Str):PRels c (T.pick a ns) (T.pick x ns):=by
  induction ns with
  | nil=>exact .nil
  | cons n r ih =>
    show PRels c (pickC (T.lk a n) n (T.pick a r)) (pickC (T.lk x n) n (T.pick x r))
    have q:=h.lk n
    cases e:T.lk a n with
    | none=>rw [e] at q;rw [show T.lk x n=none from q];exact ih
    | some v=>rw [e] at q;obtain ⟨v',q,z⟩:=q;rw [q];exact .cons z ih
theorem VRels.drop {c:Cc} (n:Nat):∀ {a:List AV} {x:List Value},VRels c a x→VRels c (a.drop n) (x.drop n):=by
  induction n with
  | zero=>exact id
  | succ n ih=>exact fun h=>VRels.casesOn (motive_2:=fun a x _=>VRels c (a.drop (n+1)) (x.drop (n+1))) h .nil fun _ t=>ih t
theorem PRels.bind {c:Cc} {ns:List Str} {a d:List AV} {x y:List Value} {bs:List (Str × AV)} (h1:VRels c a x) (h2:VRels c d y) (e:bindF ns a d=some bs):∃ bs',bindF ns x y=some bs'∧PRels c bs bs':=by
  have h2:VRels c (lastD ns d) (lastD ns y):=by delta lastD;rw [← h2.length];exact h2.drop _
  obtain ⟨e1,e⟩:=gdO_ok e
  refine ⟨T.pick (T.fill (ns.zip x) ((ns.drop (ns.length - (lastD ns y).length)).zip (lastD ns y))) ns,?_,?_⟩
  · delta bindF bindD
    rw [← h1.length,← h2.length,← (PRels.zip ns h1).have,e1];rfl
  · rw [← Option.some.inj e,← h2.length]
    exact ((PRels.zip (ns.drop _) h2).fill (PRels.zip ns h1)).pick ns
theorem PRels.rev {c:Cc} {a:List (Str × AV)} {x:List (Str × Value)} (h:PRels c a x):PRels c a.reverse x.reverse:=by
  induction h with
  | nil=>exact .nil
  | cons h1 _ ih=>rw [List.reverse_cons,List.reverse_cons];exact ih.app (.cons h1 .nil)
theorem pick_keys {β:Type} (l:List (Str × β)) (ns:List Str):∀ (x:Str × β),x∈pick l ns→x.1∈ns:=by
  induction ns with
  | nil=>exact fun x m=>nomatch m
  | cons n r ih =>
    intro x
    show x∈pickC (lk l n) n (pick l r)→_
    cases lk l n with
    | none=>exact fun m=>.tail _ (ih x m)
    | some v=>exact fun m=>(List.mem_cons.mp m).elim (fun e=>by rw [e];exact .head _) fun m=>.tail _ (ih x m)
theorem bind_keys {β:Type} {ns:List Str} {a d:List β} {b:List (Str × β)} (e:bindF ns a d=some b):∀ x∈b,x.1∈ns:=Option.some.inj (gdO_ok e).2▸pick_keys _ _
noncomputable def flowV:AFlow→AV
  | .next=>.none
  | .ret v=>v
noncomputable def callR (ls:List (Str × AV)) (r:Res AFlow) (s:AS):Option (Res AV × AS):=match r with
  | .ok f=>some (.ok (flowV f),{s with ls:=ls})
  | .exc i=>exnO s.σ[i]? fun C d _=>some (.exc i,{s with ls:=ls,σ:=s.σ.set i (.exc C d true)})
theorem callR_mono {ls:List (Str × AV)} {r:Res AFlow} {s:AS}:∀ p,callR ls r s=some p→p.2.obl=s.obl:=by
  cases r with
  | ok a=>exact fun p e=>congrArg (fun z=>AS.obl z.2) (Option.some.inj e).symm
  | exc i=>exact exnO_ok (C:=fun o=>∀ p:Res AV × AS,o=some p→p.2.obl=s.obl) (fun _ e=>no_some e) fun _ _ _ _ p e=>congrArg (fun z:Res AV × AS=>AS.obl z.2) (Option.some.inj e).symm
noncomputable def callFn (fe:FnE) (run:EM AFlow) (vs:List AV):EM AV:=⟨fun rd s=>gdO (Nat.blt rd.off 90) (obn (bindF fe.names vs fe.ads) fun bs=>obn (run.run ⟨fe.sc,rd.hnd,rd.dep+1,rd.off+1⟩ {s with ls:=bs.reverse}) fun p=>callR s.ls p.1 p.2),fun rd as r as' e=>by
    obtain ⟨_,e⟩:=gdO_ok e
    cases h1:bindF fe.names vs fe.ads with
    | none=>rw [h1] at e;exact no_some e
    | some bs =>
      rw [h1] at e
      have e:obn (run.run ⟨fe.sc,rd.hnd,rd.dep+1,rd.off+1⟩ {as with ls:=bs.reverse}) (fun p=>callR as.ls p.1 p.2)=some (r,as'):=e
      cases h:run.run ⟨fe.sc,rd.hnd,rd.dep+1,rd.off+1⟩ {as with ls:=bs.reverse} with
      | none=>rw [h] at e;exact no_some e
      | some p=>rw [h] at e;exact fun o=>run.mono _ {as with ls:=bs.reverse} p.1 p.2 h (callR_mono (r,as') e▸o)⟩
noncomputable def callC (ls:List (Str × AV)) (C:Res AV→AS→Prop) (r:Res AFlow) (as:AS):Prop:=match r with
  | .ok f=>C (.ok (flowV f)) {as with ls:=ls}
  | .exc i=>Noted (fun as=>C (.exc i) {as with ls:=ls}) i as
theorem callR_C {ls:List (Str × AV)} {C:Res AV→AS→Prop} {r:Res AFlow} {s:AS}:EOk C (callR ls r s)→callC ls C r s:=match r with
  | .ok _=>id
  | .exc i=>exnO_ok (C:=fun o=>EOk C o→Noted (fun s=>C (.exc i) {s with ls:=ls}) i s) False.elim fun D d t h P=>⟨D,d,t,h,P⟩
theorem EOk.callFn {fe:FnE} {run:EM AFlow} {vs:List AV} {rd:Rd} {as:AS} {C:Res AV→AS→Prop} (P:EOk C ((callFn fe run vs).run rd as)) :
    Nat.blt rd.off 90=true∧∃ bs,bindF fe.names vs fe.ads=some bs∧EOk (callC as.ls C) (run.run ⟨fe.sc,rd.hnd,rd.dep+1,rd.off+1⟩ {as with ls:=bs.reverse}) :=
  Ok.gdO P fun e P=>P.obn fun bs e1 P=>⟨e,bs,e1,EOk.mono (fun _ _=>callR_C) (EOk.run P)⟩
noncomputable def retK (Q:Value→Shared→Prop) (E:Value→Shared→Prop) (r:Result) (s:Shared):Prop:=match r with
  | .ok (.ret v)=>Q v s
  | .ok _=>False
  | .error e=>E e s
noncomputable def SndC (g:Gd) (c₀:Cc) {α:Type} (m:EM α) (code:Code) (R:Cc→α→Value→Prop):Prop :=
  ∀ rd as c f outs lm A s (Q:Value→Shared→Prop) (E:Value→Shared→Prop) (C:Res α→AS→Prop),Ext c₀ c→Inv g rd c f outs lm as A s→(∀ r as,C r as→AllP as.obl) →
    (∀ r as' c' lm' s',C r as'→Ext c c'→Inv g rd c' f outs lm' as' A s'→After R c' as'.σ r Q E s')→EOk C (m.run rd as)→codeAny (model g.prog g.w) A code (retK Q E) s
theorem SndC.call {g:Gd} {c₀:Cc} {α:Type} {m:EM α} {f:Value} {vs:List Value} {R:Cc→α→Value→Prop} (h:SndC g c₀ m (.call f ⟨vs,[]⟩) R):Snd g c₀ m (fun _=>call f vs []) R :=
  .q fun rd as c fr outs lm A s Q E C x I o kk P=>wpAny_call (h rd as c fr outs lm A s Q E C x I o kk P)
end T
namespace T
section
variable {g:Gd} {hnd:Option Nat} {dep:Nat} {c:Cc} {σ:List AObj} {fs:List Out} {A:Around} {E:Value→Shared→Prop} {s:Shared}
theorem set_self' {σ:List AObj} {i:Nat} {b b':AObj} (h:σ[i]?=some b):(σ.set i b')[i]?=some b':=by
  rw [List.getElem?_set_self',h];rfl
theorem cameBack_ok {A':Around} {o:Out} {i:Nat} {e C:Addr} {d:Option Nat} (H:Hp g hnd dep c σ fs A s) (he:c.r[i]?=some e) (hi:σ[i]?=some (.exc C d true))
    (k:∀ s',Hp g hnd dep c σ fs A s'→E (.ref e) s'):cameBackBy (model g.prog g.w) A o.env E (.ref e) s:=by
  obtain ⟨oe,ho,hcl,hdc,vs,hd,hsz,htb,hcx⟩:=H.st.at he hi
  rcases htb with ⟨h0,_⟩ | ⟨t,h1,ht⟩
  · cases h0
  · unfold cameBackBy
    refine wpAny_bind (wpAny_field ho hd h1 ?_)
    rw [if_neg (by simp)]
    exact setFlight_ok H he ⟨true,hi⟩ fun s' H'=>k s' H'
theorem noted_E {A':Around} {hnd':Option Nat} {o:Out} {os:List Out} {i:Nat} {e C:Addr} {d:Option Nat} {tr:Bool} (H:Hp g hnd' dep c σ (o::os) A' s)
    (hu:∀ c' σ' s',Ext c c'→Hp g hnd' dep c' σ' (o::os) A' s'→Hp g hnd dep c' σ' (o::os) A s') (he:c.r[i]?=some e) (hi:σ[i]?=some (.exc C d tr))
    (k:∀ c' s',Ext c c'→Hp g hnd dep c' (σ.set i (.exc C d true)) (o::os) A s'→E (.ref e) s'):notedBy (model g.prog g.w) A' o.env (cameBackBy (model g.prog g.w) A o.env E) (.ref e) s:=by
  unfold notedBy
  refine noteFrame_ok H he hi fun c' s' x H'=>?_
  exact cameBack_ok (A':=A') (o:=o) (C:=C) (d:=d) (hu _ _ _ x H') (x.r _ _ he) (set_self' hi) fun s'' H''=>k c' s'' x H''
end
noncomputable def noteR {α:Type} (r:Res α) (s:AS):Option (Res α × AS):=match r with
  | .ok a=>some (.ok a,s)
  | .exc i=>exnO s.σ[i]? fun C d _=>some (.exc i,{s with σ:=s.σ.set i (.exc C d true)})
theorem noteR_mono {α:Type} {r:Res α} {s:AS}:∀ p,noteR r s=some p→p.2.obl=s.obl:=by
  cases r with
  | ok a=>exact fun p e=>congrArg (fun z=>AS.obl z.2) (Option.some.inj e).symm
  | exc i=>exact exnO_ok (C:=fun o=>∀ p:Res α × AS,o=some p→p.2.obl=s.obl) (fun _ e=>no_some e) fun _ _ _ _ p e=>congrArg (fun z:Res α × AS=>AS.obl z.2) (Option.some.inj e).symm
noncomputable def noteE {α:Type} (m:EM α):EM α:=⟨fun rd s=>obn (m.run rd s) fun p=>noteR p.1 p.2,fun rd as r as' e=>by
    cases h:m.run rd as with
    | none=>rw [h] at e;cases e
    | some p=>rw [h] at e;exact fun o=>m.mono _ _ _ _ h (noteR_mono _ e▸o)⟩
noncomputable def noteC {α:Type} (C:Res α→AS→Prop) (r:Res α) (as:AS):Prop:=match r with
  | .ok a=>C (.ok a) as
  | .exc i=>Noted (C (.exc i)) i as
theorem EOk.note {α:Type} {m:EM α} {rd:Rd} {as:AS} {C:Res α→AS→Prop} (P:EOk C ((noteE m).run rd as)):EOk (noteC C) (m.run rd as):=by
  revert P
  show EOk C (obn (m.run rd as) fun p=>noteR p.1 p.2)→_
  cases m.run rd as with
  | none=>exact id
  | some p =>
    obtain ⟨r,s'⟩:=p
    cases r with
    | ok a=>exact id
    | exc i=>exact exnO_ok (C:=fun o=>EOk C o→Noted (C (.exc i)) i s') False.elim fun D d t h P=>⟨D,d,t,h,P⟩
theorem noteC_obl {α:Type} {C:Res α→AS→Prop} (o:∀ r as,C r as→AllP as.obl):∀ r as,noteC C r as→AllP as.obl:=fun r as=>match r with
  | .ok _=>o _ _
  | .exc i=>fun P=>by cases P with | mk D d _ _ P=>exact o (.exc i) {as with σ:=as.σ.set i (.exc D d true)} P
noncomputable def Cont {α β:Type} (g:Gd) (rd:Rd) (c:Cc) (f:Frm) (outs:List Out) (A:Around) (R:Cc→α→β→Prop) (Q:β→Shared→Prop) (E:Value→Shared→Prop) (C:Res α→AS→Prop):Prop:=∀ r as' c' lm' s',C r as'→Ext c c'→Inv g rd c' f outs lm' as' A s'→After R c' as'.σ r Q E s'
noncomputable def notedE (g:Gd) (f:Frm) (A:Around) (E:Value→Shared→Prop):Value→Shared→Prop:=notedBy (model g.prog g.w) A f.env (cameBackBy (model g.prog g.w) A f.env E)
section
variable {g:Gd} {rd:Rd} {c:Cc} {f:Frm} {outs:List Out} {A:Around} {E:Value→Shared→Prop}
theorem Inv.put {lm:Str→Option Value} {as:AS} {s s':Shared} {c':Cc} {σ':List AObj} (I:Inv g rd c f outs lm as A s) (x:Ext c c') (H:Hp g rd.hnd rd.dep c' σ' (⟨f.env,lm⟩::outs) A s'):Inv g rd c' f outs lm {as with σ:=σ'} A s' :=
  ⟨H,fun y v hy=>let ⟨v',p,z⟩:=I.ls y v hy;⟨v',p,z.mono x⟩,I.sc,I.room⟩
theorem noted_exc {α β:Type} {R:Cc→α→β→Prop} {Q:β→Shared→Prop} {C:Res α→AS→Prop} (kk:Cont g rd c f outs A R Q E C) {i:Nat} {as':AS} {c':Cc} {lm':Str→Option Value} {s':Shared} {e:Addr} (P:Noted (C (.exc i)) i as') (x:Ext c c') (I:Inv g rd c' f outs lm' as' A s') (he:c'.r[i]?=some e):notedE g f A E (.ref e) s':=by
  cases P with
  | mk D d t h P=>exact noted_E (o:=⟨f.env,lm'⟩) (hnd:=rd.hnd) I.hp (fun _ _ _ _ h=>h) he h fun c2 s2 x2 H2=>kk (.exc i) _ c2 lm' s2 P (x.trans x2) (I.put x2 H2) e (x2.r _ _ he) ⟨D,d,true,set_self' h⟩
theorem Snd.stepN {c₀:Cc} {α β γ δ:Type} {m:EM α} {t:Env→Sem β} {R:Cc→α→β→Prop} {k:α→EM γ} (h:Snd g c₀ m t R) {as:AS} {lm:Str→Option Value} {s:Shared} {Q:β→Shared→Prop} {R':Cc→γ→δ→Prop} {Q':δ→Shared→Prop} {C:Res γ→AS→Prop} {c1:Cc}
    (kk:Cont g rd c f outs A R' Q' E C) (o:∀ r as,C r as→AllP as.obl) (x:Ext c₀ c1) (x1:Ext c c1) (I:Inv g rd c1 f outs lm as A s) (P:EOk (noteC C) ((bnd m k).run rd as))
    (hok:∀ a as' c' lm' s' b,EOk (noteC C) ((k a).run rd as')→Ext c1 c'→Inv g rd c' f outs lm' as' A s'→R c' a b→Q b s'):wpAny (model g.prog g.w) A (t f.env) Q (notedE g f A E) s :=
  h.step x I (noteC_obl o) P hok fun _ _ _ _ _ _ P x' I' he _=>noted_exc kk P (x1.trans x') I' he
theorem Snd.runN {c₀:Cc} {α β:Type} {m:EM α} {t:Env→Sem β} {R:Cc→α→β→Prop} (h:Snd g c₀ m t R) {as:AS} {lm:Str→Option Value} {s:Shared} {Q:β→Shared→Prop} {C:Res α→AS→Prop} {c1:Cc} (kk:Cont g rd c f outs A R Q E C) (o:∀ r as,C r as→AllP as.obl) (x:Ext c₀ c1) (x1:Ext c c1) (I:Inv g rd c1 f outs lm as A s)
    (P:EOk (noteC C) (m.run rd as)):wpAny (model g.prog g.w) A (t f.env) Q (notedE g f A E) s :=
  h.run x I (noteC_obl o) (fun r _ _ _ _=>match r with
    | .ok _=>fun P x' I' b hb=>kk _ _ _ _ _ P (x1.trans x') I' b hb
    | .exc _=>fun P x' I' _ he _=>noted_exc kk P (x1.trans x') I' he) P
end
inductive LoopI (g:Gd) (rd:Rd) (c:Cc) (f:Frm) (outs:List Out) (A:Around) (K:Nat→AS→Prop) (n:Nat) (s:Shared):Prop
  | mk (c' lm as):K n as→Ext c c'→Inv g rd c' f outs lm as A s→LoopI g rd c f outs A K n s
noncomputable def loopK (again:EM AFlow) (x:AFlow):EM AFlow:=match x with
  | .next=>again
  | .ret v=>ret (.ret v)
noncomputable def whileE (mt:EM Bool) (mb mo:EM AFlow):Nat→EM AFlow
  | 0=>flt
  | n+1=>bnd mt fun b=>pk b (bnd mb (loopK (whileE mt mb mo n))) mo
section
variable {g:Gd}
theorem S_while {t:Expr} {b o:List Stmt} {pos:Pos} {mt:EM Bool} {mb mo:EM AFlow} (ht:SB g mt t) (hb:SS g mb b) (ho:SS g mo o) (n:Nat):SS1 g (noteE (whileE mt mb mo n)) (.While t b o pos):=by
  refine fun c₀=>.q fun rd as c f outs lm A s Q E C x I ob kk P=>?_
  have kk:Cont g rd c f outs A FlowR Q E C:=kk
  refine wpAny_While (codeAny_whileLoop (LoopI g rd c f outs A fun k as=>EOk (noteC C) ((whileE mt mb mo k).run rd as)) (fun k s hI=>?_) n ⟨c,lm,as,P.note,.refl c,I⟩)
  cases hI with | mk c1 lm1 as1 P x1 I1 =>
  cases k with
  | zero=>exact P.elim
  | succ k =>
    refine (ht c1 _ (fun _=>rfl)).stepN kk ob (.refl c1) x1 I1 P fun q as2 c2 lm2 s2 q' P x2 I2 hq=>?_
    have hq:q=q':=hq
    rw [← hq]
    cases q with
    | false=>exact (ho c2).runN kk ob (.refl c2) (x1.trans x2) I2 P
    | true =>
      refine (hb c2).stepN kk ob (.refl c2) (x1.trans x2) I2 P fun fl as3 c3 lm3 s3 fl' P x3 I3 hfl=>?_
      cases hfl with
      | next=>exact ⟨k,Nat.lt_succ_self k,c3,lm3,as3,P,(x1.trans x2).trans x3,I3⟩
      | ret hv=>exact kk _ _ c3 lm3 s3 P ((x1.trans x2).trans x3) I3 _ (.ret hv)
end
end T
namespace T
noncomputable def Cc.setF (c:Cc) (a:Addr) (o:Option Obj):Cc:={c with F:=fun b=>if b=a then o else c.F b}
theorem Sub.setF (c:Cc) (a:Addr) (o:Option Obj):Sub c (c.setF a o):=⟨fun _ _ e=>e,fun _ _ e=>e,fun _ e=>e,rfl⟩
theorem Sub.trans' {a b c:Cc} (x:Sub a b) (y:Sub b c):Sub a c:=⟨fun u o e=>y.G u o (x.G u o e),fun u o e=>y.r u o (x.r u o e),fun u e=>y.tb u (x.tb u e),y.w.trans x.w⟩
theorem Sub.unF (c:Cc) (a:Addr) (o:Option Obj):Sub (c.setF a o) c:=⟨fun _ _ e=>e,fun _ _ e=>e,fun _ e=>e,rfl⟩
section
variable {hb:World→BK→Int} {c:Cc} {σ:List AObj} {fs:List Fm} {h h':Heap}
theorem St.reF (S:St hb c σ fs h) {it:Addr} {o:Option Obj} (hx:Heap.ExtBut it h h') (h1:it ∉ fs.map (·.1)++c.r) (h2:c.G it=none) (h3:it ∉ c.tb) (ho:∀ o',o=some o'→h'.get? it=some o') :
    St hb (c.setF it o) σ fs h':=by
  have G:∀ a o',c.G a=some o'→a ≠ it:=fun a o' e q=>by rw [q,h2] at e;cases e
  refine ⟨fun a o' e=>?_,S.len,fun i a e=>?_,fun f m=>?_,S.nd,fun a m=>?_,fun t m=>?_,fun a o' e=>?_⟩
  · rcases e with e | e
    · exact hx a o' (G a o' e) (S.keep a o' (.inl e))
    · have e':(if a=it then o else c.F a)=some o':=e
      split at e'
      · rename_i q;rw [q];exact ho o' e'
      · rename_i q;exact hx a o' q (S.keep a o' (.inr e'))
  · obtain ⟨o',p,q⟩:=S.mem i a e
    exact ⟨o',hx a o' (fun z=>by subst z;exact h1 (List.mem_append_right _ (List.mem_of_getElem? e))) p,fun b hb=>(q b hb).sub (Sub.setF c it o)⟩
  · obtain ⟨o',es,ep,p,r⟩:=S.fr f m
    exact ⟨o',es,ep,hx _ _ (fun z=>by subst z;exact h1 (List.mem_append_left _ (List.mem_map_of_mem m))) p,r⟩
  · refine ⟨(S.sep a m).1,?_⟩
    show (if a=it then o else c.F a)=none
    rw [if_neg (fun z=>by subst z;exact h1 m)];exact (S.sep a m).2
  · obtain ⟨p,q,o',ts,u,v⟩:=S.tbs t m
    have ne:t ≠ it:=fun z=>by subst z;exact h3 m
    refine ⟨p,⟨q.1,?_⟩,o',ts,hx _ _ ne u,v⟩
    show (if t=it then o else c.F t)=none
    rw [if_neg ne];exact q.2
  · show (if a=it then o else c.F a)=none
    rw [if_neg (G a o' e)];exact S.disj a o' e
end
section
variable {g:Gd} {hnd:Option Nat} {dep:Nat} {c:Cc} {σ:List AObj} {fs:List Out} {A:Around} {E:Value→Shared→Prop} {s:Shared}
theorem Hp.reF (H:Hp g hnd dep c σ fs A s) {it:Addr} {o:Option Obj} {h':Heap} {tk:Nat} (hx:Heap.ExtBut it s.heap h') (h1:it ∉ (fs.map fun o=>(o.env.locals,o.m)).map (·.1)++c.r) (h2:c.G it=none) (h3:it ∉ c.tb) (ho:∀ o',o=some o'→h'.get? it=some o') :
    Hp g hnd dep (c.setF it o) σ fs A {s with heap:=h',toks:=tk} :=
  ⟨H.st.reF hx h1 h2 h3 ho,H.base,H.w,H.frames,H.guards,H.fok,H.depth,H.units,H.hnd,H.gens,H.os,H.low⟩
structure ItIn (c:Cc) (fs:List Out) (it:Addr) (o:Obj):Prop where
  F:c.F it=some o
theorem Hp.fresh (H:Hp g hnd dep c σ fs A s) (o:Obj) (hf:o.isFreed=false) {tk:Nat}:Hp g hnd dep (c.setF s.heap.objs.size (some o)) σ fs A {s with heap:=s.heap.push o,toks:=tk}:=by
  refine H.reF (fun b o' _ e=>Heap.get?_push_of_some _ e) (fun m=>absurd (H.st.frLt m) (Nat.lt_irrefl _)) H.st.gNone.1 (fun m=>absurd (H.st.tbLt m) (Nat.lt_irrefl _)) fun o' e=>?_
  cases e;exact Heap.get?_push_size _ hf
theorem Hp.turnF (H:Hp g hnd dep c σ fs A s) {it:Addr} {o:Obj} (hF:c.F it=some o) {o':Option Obj} {h':Heap} {tk:Nat} (hx:Heap.ExtBut it s.heap h') (ho:∀ o1,o'=some o1→h'.get? it=some o1) :
    Hp g hnd dep (c.setF it o') σ fs A {s with heap:=h',toks:=tk}:=by
  refine H.reF hx (fun m=>?_) ?_ (fun m=>?_) ho
  · have:=(H.st.sep it m).2;rw [hF] at this;cases this
  · cases q:c.G it with
    | none=>rfl
    | some x=>have:=H.st.disj it x q;rw [hF] at this;cases this
  · have:=(H.st.tbs it m).2.1.2;rw [hF] at this;cases this
end
inductive ItK where
  | seq (v:AV) (k:Nat)
  | rng (x:Int) (n:Nat)
  | dct (es:List (Str × AV)) (k:Nat)
noncomputable def isTup:AV→Bool
  | .tup _=>true
  | _=>false
noncomputable def memS (l:List Str) (x:Str):Bool:=memP (seq x) l
noncomputable def nodupS:List Str→Bool
  | []=>true
  | x::r=>cond (memS r x) false (nodupS r)
theorem nodupS_ok {l:List Str}:nodupS l=true→l.Nodup:=by
  induction l with
  | nil=>exact fun _=>.nil
  | cons x r ih =>
    show cond (memS r x) false (nodupS r)=true→_
    cases q:memS r x with
    | true=>exact fun h=>no_tf h
    | false=>exact fun h=>List.nodup_cons.mpr ⟨fun m=>by rw [show memS r x=true from memP_iff.mpr ⟨x,m,seq_iff.mpr rfl⟩] at q;exact Bool.noConfusion q,ih h⟩
noncomputable def iterOf (σ:List AObj):AV→Option ItK
  | .fl vs=>some (.seq (.fl vs) 0)
  | .sl vs=>some (.seq (.sl vs) 0)
  | .tup vs=>some (.seq (.tup vs) 0)
  | .mut i=>lstC σ[i]? fun _ _=>some (.seq (.mut i) 0)
  | .rg a n=>gdO (cond (Nat.blt n 1000000) (Nat.blt (Int.natAbs a) 1000000) false) (some (.rng a n))
  | .fd es=>gdO (nodupS (es.map (·.1))) (some (.dct es 0))
  | _=>none
noncomputable def seqOf (σ:List AObj):AV→Option (List AV)
  | .fl vs=>some vs
  | .sl vs=>some vs
  | .tup vs=>some vs
  | .mut i=>lstC σ[i]? fun _ vs=>some vs
  | _=>none
noncomputable def rngAt (x:Int):Nat→Option (AV × ItK)
  | 0=>none
  | m+1=>some (.int x,.rng (x+1) m)
noncomputable def itemAt (σ:List AObj):ItK→Option (Option (AV × ItK))
  | .seq v k=>obn (seqOf σ v) fun vs=>some (vs[k]?.map fun a=>(a,.seq v (k+1)))
  | .rng x n=>some (rngAt x n)
  | .dct es k=>some (es[k]?.map fun e=>(.str e.1,.dct es (k+1)))
noncomputable def itCls:Bool→Value
  | true=>.type "tuple_iterator"
  | false=>.type "list_iterator"
noncomputable def ItOk (c:Cc) (o:Obj):ItK→Prop
  | .seq v k=>o.cls=itCls (isTup v)∧∃ w,VRel c v w∧o.data=.fields #[w,.int k 0]
  | .rng x n=>o={cls:=.type "range_iterator",dict:=none,data:=.fields #[rawInt x,rawInt n,rawInt 1],slots:=#[]}
  | .dct es k=>∃ d ens ep,c.G d=some (dictObj ens ep)∧SRels c es ens.toList∧(es.map (·.1)).Nodup∧o.cls=.type "dict_keyiterator" ∧ o.data=.fields #[.ref d,.int k 0,.int es.length 0,.int ep 0]
theorem ItOk.sub {c c':Cc} (x:Sub c c') {o:Obj} {k:ItK} (h:ItOk c o k):ItOk c' o k:=by
  cases k with
  | seq v k=>exact ⟨h.1,h.2.imp fun _ p=>⟨p.1.sub x,p.2⟩⟩
  | rng a n=>exact h
  | dct es k=>obtain ⟨d,ens,ep,p,q,r⟩:=h;exact ⟨d,ens,ep,x.G _ _ p,q.sub x,r⟩
section
variable {g:Gd} {hnd:Option Nat} {dep:Nat} {c:Cc} {σ:List AObj} {fs:List Out} {A:Around} {E:Value→Shared→Prop} {s:Shared}
theorem VRels.nth {c:Cc} {a:List AV} {b:List Value} (h:VRels c a b):∀ k:Nat,Found c b[k]? a[k]? :=
  h.ind (P:=fun a b=>∀ k:Nat,Found c b[k]? a[k]?) (fun _=>rfl) fun _ _ v _ h _ ih k=>Nat.casesOn k ⟨v,rfl,h⟩ ih
inductive SqAt (h:Heap) (x:Addr) (vals:List Value):Bool→Prop
  | tup:h.IsTuple x vals.toArray→SqAt h x vals true
  | lst:h.IsList x vals.toArray→SqAt h x vals false
theorem seq_val (H:Hp g hnd dep c σ fs A s) {v:AV} {w:Value} {vs:List AV} {G:Value→Prop} (hv:VRel c v w) (e:seqOf σ v=some vs) (h:∀ x vals,VRels c vs vals→SqAt s.heap x vals (isTup v)→G (.ref x)):G w:=by
  have lst:∀ {x:Addr} {ws:List AV} {vals:Array Value} {n:Nat},some ws=some vs→s.heap.get? x=some (listObj vals n)→VRels c ws vals.toList→(∀ x vals,VRels c vs vals→SqAt s.heap x vals false→G (.ref x))→G (.ref x):=fun e p q h=>h _ _ (Option.some.inj e▸q) (.lst ⟨_,p,rfl,_,rfl⟩)
  cases v with
  | fl ws=>exact hv.elim fun x vals n g q=>lst e (H.st.keep _ _ (.inl g)) q h
  | sl ws=>exact hv.elim fun x vals n g q _=>lst e (H.st.keep _ _ (.inl g)) q h
  | tup ws=>exact hv.elim fun x vals g q=>h _ vals.toList (Option.some.inj e▸q) (.tup ⟨_,H.st.keep _ _ (.inl g),rfl,0,rfl⟩)
  | «mut» i =>
    refine hv.elim fun x hi=>?_
    have e:lstC σ[i]? (fun _ vs=>some vs)=some vs:=e
    cases e1:σ[i]? with
    | none=>rw [e1] at e;exact no_some e
    | some o =>
      rw [e1] at e
      cases o with
      | list sy ws =>
        obtain ⟨_,p,vals,n,e2,q,_⟩:=H.st.at hi e1
        exact lst e (p.trans (congrArg some e2)) q h
      | _=>exact no_some e
  | _=>exact no_some e
noncomputable def lsO {γ:Type} (σ:List AObj) (a:AV) (f:List AV→Option γ):Option γ:=match a with
  | .fl vs=>f vs
  | .sl vs=>f vs
  | .mut i=>lstC σ[i]? fun _ vs=>f vs
  | _=>none
theorem Ok.lsO {γ:Type} {C:γ→Prop} {G:Value→Prop} {f:List AV→Option γ} {a:AV} {v:Value} (P:Ok C (T.lsO σ a f)) (H:Hp g hnd dep c σ fs A s) (hv:VRel c a v)
    (h:∀ x vs vals,VRels c vs vals→s.heap.IsList x vals.toArray→Ok C (f vs)→G (.ref x)):G v:=by
  revert P
  have go:∀ {x:Addr} {vs:List AV} {vals:Array Value} {n:Nat},s.heap.get? x=some (listObj vals n)→VRels c vs vals.toList→Ok C (f vs)→G (.ref x):=fun {x vs vals n} p q P=>h x vs _ q ⟨_,p,rfl,n,rfl⟩ P
  refine VRel.casesOn (motive_1:=fun a v _=>Ok C (T.lsO σ a f)→G v) hv ?_ ?_ ?_ ?_ ?_ ?_ ?_ ?_ ?_
    (fun hi P=>P.lstC fun _ _ e P=>let ⟨_,p,_,_,e2,q,_⟩:=H.st.at hi e;go (p.trans (congrArg some e2)) q P) ?_ ?_ (fun g q P=>go (H.st.keep _ _ (.inl g)) q P) ?_ ?_ ?_ (fun g q _ P=>go (H.st.keep _ _ (.inl g)) q P) ?_ ?_<;>(intros;exact Ok.no ‹_›)
theorem SRels.pairs {prog:Program} {w:World} (_:c.w=w) {es:List (Str × AV)} {ens:List DictEntry} (h:SRels c es ens):∃ kvs:List (Str × Value),Pairs (strKind prog w) ens kvs∧kvs.map (·.1)=es.map (·.1) :=
  h.ind (P:=fun es ens=>∃ kvs:List (Str × Value),Pairs (strKind prog w) ens kvs∧kvs.map (·.1)=es.map (·.1)) ⟨[],.nil,rfl⟩ fun p es e ens t _ h2 _ _ ⟨kvs,p1,q⟩ =>
    ⟨(p.1,e.val)::kvs,.cons (by rw [h2];exact beq_self_eq_true p.1) rfl p1,congrArg (p.1::·) q⟩
theorem dictAt_of (H:Hp g hnd dep c σ fs A s) {es:List (Str × AV)} {d:Addr} {ens:Array DictEntry} {ep:Nat} (h1:c.G d=some (dictObj ens ep)) (h2:SRels c es ens.toList) (h3:(es.map (·.1)).Nodup) :
    ∃ kvs:List (Str × Value),s.heap.DictAt (strKind g.prog g.w) d kvs ep∧kvs.map (·.1)=es.map (·.1)∧kvs.length=es.length :=
  let ⟨kvs,p,q⟩:=h2.pairs (prog:=g.prog) H.w
  ⟨kvs,⟨_,ens,H.st.keep _ _ (.inl h1),⟨rfl,rfl,rfl⟩,rfl,keys_arr (h2.dr H.w),p,by rw [q];exact h3⟩,q,List.length_map (f:=Prod.fst) (as:=kvs)▸q▸List.length_map ..⟩
theorem rng_size (a:Int) (n:Nat):Builtin.Range.rangeSize a (a+(n:Nat)) 1=(n:Int):=by
  delta Builtin.Range.rangeSize
  simp only [show (1:Int) > 0 from by decide,if_true]
  split<;>omega
theorem rng_small {a:Int} {n:Nat} (e1:n < 1000000) (e3:Int.natAbs a < 1000000):Builtin.Range.small a (a+(n:Nat)) 1=true:=by
  delta Builtin.Range.small
  rw [rng_size]
  simp only [Builtin.Range.rangeFitsLong]
  simp
  omega
theorem iter_ok {v:AV} {v':Value} {k:ItK} {Q:Value→Shared→Prop} (H:Hp g hnd dep c σ fs A s) (hv:VRel c v v') (e:iterOf σ v=some k)
    (kk:∀ it o s',Hp g hnd dep (c.setF it (some o)) σ fs A s'→ItOk (c.setF it (some o)) o k→c.F it=none→Q (.ref it) s'):wpAny (model g.prog g.w) A (pyIter v') Q E s:=by
  have sq:∀ {vs:List AV},some (ItK.seq v 0)=some k→seqOf σ v=some vs→wpAny (model g.prog g.w) A (pyIter v') Q E s:=fun e e1=>by
    have hv':=hv
    revert hv'
    refine seq_val (G:=fun v'=>VRel c v v'→wpAny (model g.prog g.w) A (pyIter v') Q E s) H hv e1 fun x vals q t hv=>?_
    have e:=Option.some.inj e
    have z:∀ b,isTup v=b→SqAt s.heap x vals b→wpAny (model g.prog g.w) A (pyIter (.ref x)) Q E s:=fun b eb t=>by
      cases t with
      | tup t=>exact wpAny_pyIter_tuple t (kk _ _ _ (H.fresh (tk:=s.toks) _ rfl) (e▸⟨eb▸rfl,.ref x,hv.sub (Sub.setF ..),rfl⟩) H.st.gNone.2)
      | lst t=>exact wpAny_pyIter_list t (kk _ _ _ (H.fresh (tk:=s.toks) _ rfl) (e▸⟨eb▸rfl,.ref x,hv.sub (Sub.setF ..),rfl⟩) H.st.gNone.2)
    exact z _ rfl t
  cases v with
  | fl vs=>exact sq e rfl
  | sl vs=>exact sq e rfl
  | tup vs=>exact sq e rfl
  | «mut» i =>
    have e:lstC σ[i]? (fun _ _=>some (ItK.seq (.mut i) 0))=some k:=e
    cases e1:σ[i]? with
    | none=>rw [e1] at e;exact no_some e
    | some o =>
      rw [e1] at e
      cases o with
      | list sy ws=>exact sq (vs:=ws) e (by show lstC σ[i]? (fun _ vs=>some vs)=some ws;rw [e1];rfl)
      | _=>exact no_some e
  | rg a n =>
    obtain ⟨e1,e⟩:=gdO_ok e
    obtain ⟨e1,e3⟩:=cond_ff e1
    refine hv.elim (G:=fun v'=>wpAny (model g.prog g.w) A (pyIter v') Q E s) fun x t u w h1=>wpAny_pyIter_range (H.st.keep _ _ (.inl h1)) (rng_small (Nat.le_of_ble_eq_true e1) (Nat.le_of_ble_eq_true e3)) (kk _ _ _ (H.fresh (tk:=s.toks) _ rfl) ?_ H.st.gNone.2)
    rw [← Option.some.inj e,rng_size]
    rfl
  | fd es =>
    obtain ⟨e1,e⟩:=gdO_ok e
    have nd:=nodupS_ok e1
    refine hv.elim (G:=fun v'=>wpAny (model g.prog g.w) A (pyIter v') Q E s) fun d ens ep h1 h2 h3=>?_
    obtain ⟨kvs,q1,q2,len⟩:=dictAt_of H h1 h2 nd
    exact wpAny_pyIter_dict h3 q1 (kk _ _ _ (H.fresh (tk:=s.toks) _ rfl) (Option.some.inj e▸⟨d,ens,ep,h1,h2.sub (Sub.setF ..),nd,rfl,by rw [len];rfl⟩) H.st.gNone.2)
  | _=>exact no_some e
end
section
variable {prog:Program} {w:World} {A:Around} {E:Value→Shared→Prop} {s:Shared}
theorem entry_unchain:entryFor table "proto.unchain" = some Builtin.«proto.unchain»:=entryFor_of_tree (by kernel_rfl)
theorem raiseNew_ctx {α:Type} {e h:Addr} {oe oh:Obj} {vse vsh:Array Value} {Q:α→Shared→Prop} (hA:A.handled=some (.ref h)) (ne:e ≠ h) (he:s.heap.get? e=some oe) (hde:oe.data=.fields vse) (sz:2 < vse.size)
    (hh:s.heap.get? h=some oh) (hdh:oh.data=.fields vsh) (h2:vsh[2]?=some .none) (k:E (.ref e) {s with heap:=s.heap.update e (Obj.mapFields (·.setIfInBounds 2 (.ref h)))}):wpAny (model prog w) A (raiseNew (.ref e):Sem α) Q E s:=by
  unfold raiseNew
  refine wpAny_bind (wpAny_handled ?_)
  rw [hA]
  dsimp only
  rw [if_pos (by simpa using Ne.symm ne)]
  refine wpAny_bind (wpAny_holding (runValue_entry entry_unchain ?_))
  unfold Builtin.«proto.unchain»
  dsimp only
  refine wpAny_bind (wpAny_field hh hdh h2 ?_)
  rw [if_pos (by decide)]
  refine wpAny_bind (wpAny_pure (wpAny_pure ⟨.none,rfl,?_⟩))
  have e1:updateField e 2 (.ref h)=setField (.ref e) 2 (.ref h):=rfl
  rw [e1]
  exact wpAny_bind (wpAny_setField he hde sz (wpAny_throw k))
theorem listNext_end_ctx {it l h:Addr} {oh:Obj} {vsh:Array Value} {i:Nat} {items:Array Value} {Q:Option Value→Shared→Prop} (hA:A.handled=some (.ref h)) (hh:s.heap.get? h=some oh) (hdh:oh.data=.fields vsh) (h2:vsh[2]?=some .none) (hne:h ≠ it)
    (hit:s.heap.IsListIter it l i) (hl:s.heap.IsList l items) (hx:items[i]?=none)
    (hQ:∀ h',Heap.ExtBut it s.heap h'→Q none {s with heap:=h'}):wpAny (model prog w) A (pyNext (.ref it)) Q E s:=by
  obtain ⟨o,ho,hc,hd⟩:=id hit
  obtain ⟨ol,hol,_,nl,hdl⟩:=hl
  unfold pyNext
  refine wpAny_bind (wpAny_attempt (wpAny_callSpecial?_slot (name:=Str.ofString "__next__") hit.typeIs slot_listiter_next
    (wpAny_call_entry slot_listiter_next hit.typeIs entry_listiter_next ?_ (args_listiter_next _))))
  show wpAny _ _ (field (.ref it) 0>>=_) _ _ s
  refine wpAny_bind (wpAny_field ho hd (x:=.ref l) rfl ?_)
  show wpAny _ _ (if (Value.ref l == Value.none)=true then _ else _) _ _ s
  rw [if_neg (show ¬ ((Value.ref l == Value.none)=true) from Bool.false_ne_true)]
  show wpAny _ _ (field (.ref it) 1>>=_) _ _ s
  refine wpAny_bind (wpAny_field ho hd (x:=.int i 0) rfl ?_)
  show wpAny _ _ (seqItems? (.ref l)>>=_) _ _ s
  refine wpAny_bind (wpAny_seqItems hol hdl ?_)
  simp only [Int.toNat_natCast,hx]
  refine wpAny_bind (wpAny_rule (wpAny_bind (wpAny_setField ho hd (by simp) ?_)))
  show wpAny _ _ (newExc (.type "StopIteration") []>>=_) _ _ _
  refine wpAny_bind ?_
  simp only [newExc,newTuple]
  refine wpAny_bind (wpAny_newObj_type ?_ (by size_fits))
  refine wpAny_bind (m:=firstArgMember _ _) (wpAny_of_eq (a:=Value.none) (by first | rfl | (simp only [firstArgMember];rfl)) ?_)
  refine wpAny_newObj_type ?_ (by size_fits)
  generalize hh1:s.heap.update it _=h1
  have x1:Heap.SameBut it s.heap h1:=by rw [← hh1];exact .update ..
  refine raiseNew_ctx (h:=h) hA (fun z=>?_) (Heap.get?_push_size _ rfl) rfl ?_ (Heap.get?_push_of_some _ (Heap.get?_push_of_some _ ((x1.2 h hne).trans hh))) hdh h2 ?_
  · have q:=Heap.lt_size (Heap.get?_push_of_some {cls:=.type "tuple",dict:=none,data:=.seq ([]:List Value).toArray} ((x1.2 h hne).trans hh))
    rw [← z] at q
    exact absurd q (Nat.lt_irrefl _)
  · rw [Array.size_append];exact Nat.lt_of_lt_of_le (by decide:2 < 6) (Nat.le_add_right _ _)
  · refine wpAny_bind (wpAny_isInstance (T := "StopIteration") (b:=true) ⟨_,Heap.get?_update_self _ (Heap.get?_push_size _ rfl) rfl,rfl⟩ isSubtype_stop ?_)
    refine wpAny_pure (hQ _ fun b o hb e=>?_)
    have e1:=(x1.2 b hb).trans e
    rw [Heap.get?_update_other]
    · exact Heap.get?_push_of_some _ (Heap.get?_push_of_some _ e1)
    · intro z
      have q:=Heap.lt_size (Heap.get?_push_of_some {cls:=.type "tuple",dict:=none,data:=.seq ([]:List Value).toArray} e1)
      rw [← z] at q
      exact absurd q (Nat.lt_irrefl _)
end
section
variable {g:Gd} {hnd:Option Nat} {dep:Nat} {c:Cc} {σ:List AObj} {fs:List Out} {A:Around} {E:Value→Shared→Prop} {s:Shared}
theorem it_next {it:Addr} {o:Obj} {k:ItK} {p:AV × ItK} {Q:Option Value→Shared→Prop} (H:Hp g hnd dep c σ fs A s) (hF:c.F it=some o) (hk:ItOk c o k) (e:itemAt σ k=some (some p))
    (kk:∀ s' o' v,Hp g hnd dep (c.setF it (some o')) σ fs A s'→VRel c p.1 v→ItOk (c.setF it (some o')) o' p.2→Q (some v) s'):wpAny (model g.prog g.w) A (pyNext (.ref it)) Q E s:=by
  have hg:=H.st.keep _ _ (.inr hF)
  have tn:∀ {o':Obj} {h':Heap} (tk:Nat),h'.get? it=some o'→Heap.SameBut it s.heap h'→Hp g hnd dep (c.setF it (some o')) σ fs A {s with heap:=h',toks:=tk}:=fun tk i1 hs=>H.turnF hF hs.extBut fun o1 z=>Option.some.inj z▸i1
  cases k with
  | seq v n =>
    obtain ⟨vs,e1,e⟩:=obn_some e
    obtain ⟨b,e2,e3⟩:=Option.map_eq_some_iff.mp (Option.some.inj e)
    rw [← e3] at kk
    obtain ⟨p3,w,p1,p2⟩:=hk
    have p1':=p1
    revert p2 p1'
    refine seq_val (G:=fun w=>o.data=.fields #[w,.int n 0]→VRel c v w→wpAny (model g.prog g.w) A (pyNext (.ref it)) Q E s) H p1 e1 fun x vals q t p2 p1=>?_
    have q3:=q.nth n
    rw [e2] at q3
    obtain ⟨y,q3,q4⟩:=q3
    have q3:vals.toArray[n]?=some y:=List.getElem?_toArray.trans q3
    have fin:∀ h',(∃ o',h'.get? it=some o'∧o'.cls=itCls (isTup v)∧o'.data=.fields #[.ref x,.int (n+1:Nat) 0])→Heap.SameBut it s.heap h'→Q (some y) {s with heap:=h'}:=fun h' ⟨o',i1,i2,i3⟩ hs=>kk _ o' y (tn s.toks i1 hs) q4 ⟨i2,.ref x,p1.sub (Sub.setF ..),i3⟩
    generalize isTup v=b at t p3 fin
    cases t with
    | tup t=>exact wpAny_pyNext_tuple_item ⟨o,hg,p3,p2⟩ t q3 fin
    | lst t=>exact wpAny_pyNext_list_item ⟨o,hg,p3,p2⟩ t q3 fin
  | rng x n =>
    cases n with
    | zero=>exact no_some (Option.some.inj e)
    | succ n =>
      rw [← Option.some.inj (Option.some.inj e)] at kk
      rw [show o=_ from hk] at hg
      refine wpAny_pyNext_range_item hg (by omega) fun h' hi hs=>kk _ _ _ (tn (s.toks+1) (?_:IsRangeIter h' it (x+1) (n:Int) 1) hs) (.int _ _) rfl
      rw [show ((n+1:Nat):Int) - 1=n by omega] at hi
      exact hi
  | dct es n =>
    obtain ⟨en,e1,e3⟩:=Option.map_eq_some_iff.mp (Option.some.inj e)
    rw [← e3] at kk
    obtain ⟨d,ens,ep,p1,p2,p3,p4,p5⟩:=hk
    obtain ⟨kvs,q1,q2,len⟩:=dictAt_of H p1 p2 p3
    have hx:(kvs.map (·.1))[n]?=some en.1:=by rw [q2,List.getElem?_map,e1];rfl
    rw [List.getElem?_map] at hx
    obtain ⟨kv,x1,x2⟩:=Option.map_eq_some_iff.mp hx
    refine wpAny_pyNext_dict_item (knd:=strKind g.prog g.w) (kvs:=kvs) ⟨o,hg,p4,by rw [len];exact p5⟩ q1 x1 fun key h' hkey hi hs=>?_
    obtain ⟨o',i1,i2,i3⟩:=hi
    obtain ⟨t,hkey⟩:=Value.isStrOf_shape hkey
    rw [hkey,x2]
    exact kk _ o' _ (tn s.toks i1 hs) (.str _ _) ⟨d,ens,ep,p1,p2.sub (Sub.setF ..),p3,i2,by rw [len] at i3;exact i3⟩
noncomputable def excAt (o:Option AObj):Bool:=match o with
  | none=>false
  | some x=>match x with
    | .exc ..=>true
    | _=>false
noncomputable def endOk (hnd:Option Nat) (σ:List AObj) (k:ItK):Bool:=match hnd with
  | none=>true
  | some i=>match k with
    | .seq v _=>cond (isTup v) false (excAt σ[i]?)
    | _=>false
theorem excAt_ok {o:Option AObj} (h:excAt o=true):∃ C d tr,o=some (.exc C d tr):=by
  cases o with
  | none=>exact no_tf h
  | some x=>cases x with
    | exc C d tr=>exact ⟨C,d,tr,rfl⟩
    | _=>exact no_tf h
theorem Hp.hN (H:Hp g hnd dep c σ fs A s):hnd=none→A.handled=none:=fun e=>by have:=H.hnd;rw [e] at this;exact this
theorem it_end {it:Addr} {o:Obj} {k:ItK} {Q:Option Value→Shared→Prop} (H:Hp g hnd dep c σ fs A s) (hF:c.F it=some o) (hk:ItOk c o k) (e:itemAt σ k=some none) (he:endOk hnd σ k=true)
    (kk:∀ s',Hp g hnd dep (c.setF it none) σ fs A s'→Q none s'):wpAny (model g.prog g.w) A (pyNext (.ref it)) Q E s:=by
  have hg:=H.st.keep _ _ (.inr hF)
  have fin:∀ h',Heap.ExtBut it s.heap h'→Q none {s with heap:=h'}:=fun h' hx=>kk _ (H.turnF (tk:=s.toks) hF hx fun o1 z=>no_some z)
  cases k with
  | seq v n =>
    obtain ⟨vs,e1,e⟩:=obn_some e
    have e2:=Option.map_eq_none_iff.mp (Option.some.inj e)
    obtain ⟨p3,w,p1,p2⟩:=hk
    revert p2
    refine seq_val (G:=fun w=>o.data=.fields #[w,.int n 0]→wpAny (model g.prog g.w) A (pyNext (.ref it)) Q E s) H p1 e1 fun x vals q t p2=>?_
    have q3:=q.nth n
    rw [e2] at q3
    have q3:vals.toArray[n]?=none:=List.getElem?_toArray.trans q3
    have hn:=H.hnd
    cases hnd with
    | none =>
      generalize isTup v=b at t p3
      cases t with
      | tup t=>exact wpAny_pyNext_tuple_end hn ⟨o,hg,p3,p2⟩ t q3 fin
      | lst t=>exact wpAny_pyNext_list_end hn ⟨o,hg,p3,p2⟩ t q3 fin
    | some i =>
      have he:cond (isTup v) false (excAt σ[i]?)=true:=he
      obtain ⟨ht,he⟩:=cond_ft he
      obtain ⟨C,d,tr,hi⟩:=excAt_ok he
      rw [ht] at t p3
      cases t with | lst t =>
      obtain ⟨a,r1,r2⟩:=hn
      obtain ⟨oh,ho,_,_,vsh,hdh,_,_,h2⟩:=H.st.at r1 hi
      refine listNext_end_ctx r2 ho hdh h2 (fun z=>?_) ⟨o,hg,p3,p2⟩ t q3 fin
      have:=(H.st.sep a (List.mem_append_right _ (List.mem_of_getElem? r1))).2
      rw [z,hF] at this
      exact no_some this.symm
  | rng x n =>
    cases n with
    | succ n=>exact no_some (Option.some.inj e).symm
    | zero =>
      cases hnd with
      | some i=>exact no_tf he
      | none=>exact wpAny_pyNext_range_end H.hnd (hk▸hg) (Int.le_refl 0) fin
  | dct es n =>
    have e1:=Option.map_eq_none_iff.mp (Option.some.inj e)
    obtain ⟨d,ens,ep,p1,p2,p3,p4,p5⟩:=hk
    obtain ⟨kvs,q1,q2,len⟩:=dictAt_of H p1 p2 p3
    cases hnd with
    | some i=>exact no_tf he
    | none=>exact wpAny_pyNext_dict_end (knd:=strKind g.prog g.w) (kvs:=kvs) H.hnd ⟨o,hg,p4,by rw [len];exact p5⟩ q1 (List.getElem?_eq_none_iff.mpr (len▸List.getElem?_eq_none_iff.mp e1)) fin
end
noncomputable def turnO (isN:Bool) (hnd:Option Nat) (σ:List AObj) (k:ItK):Option (Option (AV × ItK) × List AObj):=obn (itemAt σ k) fun o=>match o with
  | none=>gdO (endOk hnd σ k) (some (none,σ))
  | some p=>gdO isN (some (some p,σ))
noncomputable def turnK (go:AV × ItK→EM AFlow) (x:Option (AV × ItK)):EM AFlow:=match x with
  | none=>ret .next
  | some p=>go p
noncomputable def forE (isN:Bool) (tgt:AV→EM Unit) (body:EM AFlow):Nat→ItK→EM AFlow
  | 0,_=>flt
  | n+1,k=>bnd (sop fun rd σ=>turnO isN rd.hnd σ k) (turnK fun p=>bnd (tgt p.1) fun _=>bnd body (loopK (forE isN tgt body n p.2)))
noncomputable def iterE (v:AV):EM ItK:=sop fun _ σ=>obn (iterOf σ v) fun k=>some (k,σ)
noncomputable def isName:Expr→Bool
  | .Name ..=>true
  | _=>false
noncomputable def notSetE:Expr→Bool
  | .Set ..=>false
  | _=>true
noncomputable def forS (isN:Bool) (mi:EM AV) (tgt:AV→EM Unit) (body:EM AFlow) (n:Nat):EM AFlow:=bnd mi fun v=>bnd (iterE v) fun k=>noteE (forE isN tgt body n k)
theorem Cc.setF_setF (c:Cc) (it:Addr) (a b:Option Obj):(c.setF it a).setF it b=c.setF it b:=by
  unfold Cc.setF
  congr 1
  funext x
  by_cases q:x=it<;>simp [q]
theorem Cc.setF_none {c:Cc} {it:Addr} (h:c.F it=none):c.setF it none=c:=by
  obtain ⟨G,F,r,tb,w⟩:=c
  unfold Cc.setF
  congr 1
  funext x
  by_cases q:x=it
  · simp only [q,if_true];exact h.symm
  · simp [q]
theorem Ext.dropF {c c':Cc} {it:Addr} {o:Obj} (x:Ext (c.setF it (some o)) c') (h:c.F it=none):Ext c (c'.setF it none) :=
  ⟨x.G,x.r,x.tb,x.w,by
    have:=x.F
    have e:(c'.setF it none).F=((c.setF it (some o)).setF it none).F:=by
      show (fun b=>if b=it then none else c'.F b)=(fun b=>if b=it then none else (c.setF it (some o)).F b)
      rw [this]
    rw [e,Cc.setF_setF,Cc.setF_none h]⟩
section
variable {g:Gd}
theorem Inv.sub {rd:Rd} {c c':Cc} {f:Frm} {outs:List Out} {lm:Str→Option Value} {as:AS} {A:Around} {s s':Shared} (I:Inv g rd c f outs lm as A s) (x:Sub c c') (H:Hp g rd.hnd rd.dep c' as.σ (⟨f.env,lm⟩::outs) A s'):Inv g rd c' f outs lm as A s' :=
  ⟨H,fun y v hy=>let ⟨v',p,z⟩:=I.ls y v hy;⟨v',p,z.sub x⟩,I.sc,I.room⟩
theorem Inv.dropF {rd:Rd} {c:Cc} {f:Frm} {outs:List Out} {lm:Str→Option Value} {as:AS} {A:Around} {s:Shared} {it:Addr} {o:Obj} (I:Inv g rd c f outs lm as A s) (hF:c.F it=some o):Inv g rd (c.setF it none) f outs lm as A s :=
  I.sub (Sub.setF ..) (I.hp.turnF (tk:=s.toks) hF (Heap.ExtBut.refl it s.heap) fun o1 z=>no_some z)
theorem FlowR.sub {c c':Cc} (x:Sub c c') {a:AFlow} {f:Flow} (h:FlowR c a f):FlowR c' a f:=by
  cases h with
  | next=>exact .next
  | ret h=>exact .ret (h.sub x)
theorem setF_at (c:Cc) (it:Addr) (o:Option Obj):(c.setF it o).F it=o:=if_pos rfl
theorem Cont.over {rd:Rd} {c1 c2:Cc} {f:Frm} {outs:List Out} {A:Around} {Q:Flow→Shared→Prop} {E:Value→Shared→Prop} {C:Res AFlow→AS→Prop} {it:Addr} {o:Obj} (kk:Cont g rd c1 f outs A FlowR Q E C) (x12:Ext c1 c2) (hn:c2.F it=none) :
    Cont g rd (c2.setF it (some o)) f outs A FlowR Q E C:=fun r as' c' lm' s' P x I=>by
  have hF:c'.F it=some o:=x.F▸setF_at ..
  have:=kk r as' (c'.setF it none) lm' s' P (x12.trans (x.dropF hn)) (I.dropF hF)
  cases r with
  | ok a=>exact fun b hb=>this b (hb.sub (Sub.setF ..))
  | exc i=>exact this
inductive ForI (g:Gd) (rd:Rd) (c:Cc) (f:Frm) (outs:List Out) (A:Around) (it:Addr) (K:Nat→ItK→AS→Prop) (n:Nat) (s:Shared):Prop
  | mk (c' o k lm as):K n k as→Ext c c'→c'.F it=none→ItOk (c'.setF it (some o)) o k→Inv g rd (c'.setF it (some o)) f outs lm as A s→ForI g rd c f outs A it K n s
theorem fold_set {e:Expr} (h:notSetE e=true) (env:Env) (x:Value):foldedSetIterable e env x=pure x:=by
  cases e with
  | Set=>exact no_tf h
  | _=>rfl
theorem letOwned_name {t:Expr} (h:isName t=true) (it:Value) (v:Value):letOwnedTupleGo t it v=Pure.pure ():=by
  cases t with
  | Name=>rfl
  | _=>exact no_tf h
theorem Ok.turnO {isN:Bool} {hnd:Option Nat} {σ:List AObj} {k:ItK} {C:Option (AV × ItK) × List AObj→Prop} {G:Prop} (P:Ok C (turnO isN hnd σ k)) (h0:itemAt σ k=some none→endOk hnd σ k=true→C (none,σ)→G)
    (h1:∀ p,itemAt σ k=some (some p)→isN=true→C (some p,σ)→G):G :=
  P.obn fun o=>match o with
    | none=>fun e P=>P.gdO fun he P=>h0 e he P
    | some p=>fun e P=>P.gdO fun hN P=>h1 p e hN P
theorem S_for {t it:Expr} {b:List Stmt} {pos:Pos} {mi:EM AV} {kt:AV→EM Unit} {mb:EM AFlow} (hset:notSetE it=true) (hi:SE g mi it) (ht:SA g kt t) (hb:SS g mb b) (n:Nat) :
    SS1 g (forS (isName t) mi kt mb n) (.For t it b [] pos):=by
  refine fun c₀=>.q fun rd as c f outs lm A s Q E C x I ob kk P=>wpAny_For ?_ (fold_set hset _)
  refine (hi c).step (.refl c) I ob P (fun v as1 c1 lm1 s1 v' P x1 I1 hv=>?_) fun i as' c' lm' s' e P x' I' he hi=>kk (.exc i) as' c' lm' s' P x' I' e he hi
  have kk:Cont g rd c1 f outs A FlowR Q E C:=fun r as' c' lm' s' P x'=>kk r as' c' lm' s' P (x1.trans x')
  refine P.sop.obn fun k e P=>iter_ok I1.hp hv e fun ita o s2 H2 hk hn=>?_
  refine codeAny_forLoop_any (ForI g rd c1 f outs A ita fun m k as=>EOk (noteC C) ((forE (isName t) kt mb m k).run rd as)) (fun m st hI=>?_) n ⟨c1,o,k,lm1,as1,EOk.note P,.refl c1,hn,hk,I1.sub (Sub.setF ..) H2⟩
  cases hI with | mk c2 o2 k2 lm2 as2 P x12 hn hk I2 =>
  have hF:=setF_at c2 ita (some o2)
  cases m with
  | zero=>exact P.elim
  | succ m =>
    refine (EOk.sop P).turnO (fun e he P=>?_) fun p e hN P=>?_
    · refine it_end I2.hp hF hk e he fun s3 H3=>wpAny_pure ?_
      rw [Cc.setF_setF,Cc.setF_none hn] at H3
      exact kk _ _ c2 lm2 s3 P x12 (I2.sub (Sub.unF ..) H3) _ .next
    · refine it_next I2.hp hF hk e fun s3 o3 v3 H3 hv3 hk3=>?_
      rw [Cc.setF_setF] at H3 hk3
      have sb:Sub (c2.setF ita (some o2)) (c2.setF ita (some o3)):=Sub.trans' (Sub.unF ..) (Sub.setF ..)
      have K3:Cont g rd (c2.setF ita (some o3)) f outs A FlowR Q E C:=kk.over x12 hn
      dsimp only
      rw [letOwned_name hN]
      refine wpAny_pure ((ht _ p.1 v3 (hv3.sub sb)).stepN K3 ob (.refl _) (.refl _) (I2.sub sb H3) P fun _ as4 c4 lm4 s4 _ P x4 I4 _=>?_)
      refine (hb c4).stepN K3 ob (.refl c4) x4 I4 P fun fl as5 c5 lm5 s5 fl' P x5 I5 hfl=>?_
      have X:=x4.trans x5
      cases hfl with
      | next =>
        have hF5:c5.F ita=some o3:=X.F▸setF_at ..
        exact ⟨m,Nat.lt_succ_self m,c5.setF ita none,o3,p.2,lm5,as5,P,x12.trans (X.dropF hn),setF_at ..,by rw [Cc.setF_setF];exact hk3.sub (Sub.trans' X.sub (Sub.setF ..)),
          by rw [Cc.setF_setF];exact I5.sub (Sub.setF ..) (I5.hp.turnF (tk:=s5.toks) hF5 (Heap.ExtBut.refl ita s5.heap) fun o1 z=>Option.some.inj z▸I5.hp.st.keep _ _ (.inr hF5))⟩
      | ret hv=>exact K3 _ _ c5 lm5 s5 P X I5 _ (.ret hv)
end
end T
open PySem PySem.W PySem.Calls PyProof.Rows Builtin Builtin.ObjectAttr
namespace T
section
variable {prog:Program} {w:World} {A:Around} {E:Value→Shared→Prop} {s:Shared} {K:Frag} {x C:Addr} {ox:Obj} {od:Option Obj} {name:Str} {expr:Bool} {Q:Value→Shared→Prop}
theorem isInst_K {M:Model} {h:Heap} (X:K.In h) (I:InstAt h x ox C od) {base:Value} {r:Bool} (hm:mroIn K C base=some r):Looks M h (isInstance (.ref x) base) r :=
  I.type.andThen (looks_mroIn X hm)
theorem exc_get {v:Value} (X:K.In s.heap) (I:InstAt s.heap x ox C od) (hga:findIn K (.ref C) "__getattribute__" = some (some (.builtin "BaseException.__getattribute__"))) (hgt:findIn K (.ref C) "__getattr__" = some none)
    (hm:mroIn K C (.type "BaseException")=some true) (hf:findObj K C od name=some (.value v)) (hh:handedIn v=true) (h:Q v {s with toks:=s.toks+1}):wpAny (model prog w) A (getAttr (.ref x) name expr) Q E s:=by
  obtain ⟨hp,g,d,t,os⟩:=s
  have L0:=I.type (M:=model prog w)
  have L1:=looks_findIn (M:=model prog w) X hga
  have L2:=looks_findIn (M:=model prog w) X hgt
  have L3:=isInst_K (M:=model prog w) X I hm
  have L4:=looks_find (M:=model prog w) X I hf
  have f3:=F.attr_Exception.ga.bind (.ref x)
  have hx0:(expr && onTheHeap (Value.builtin "BaseException.__getattribute__"))=false:=by cases expr<;>rfl
  have hx2:(Value.builtin "BaseException.__getattribute__" == Value.builtin "object.__getattribute__")=false:=by decide +kernel
  have hx1:(onTheHeap (Value.ref C) && Value.builtin "BaseException.__getattribute__" == Value.builtin "object.__getattribute__")=false:=by rw [hx2];rfl
  unfold getAttr getAttrBy
  refine wpAny_bind (wpAny_mkText (wpAny_holding (wpAny_bind (L0.at (wpAny_bind (L1.at ?_))))))
  dsimp only
  rw [hx1]
  simp only [Bool.false_eq_true,if_false]
  unfold getAttrByItsOwn hookBefore
  refine wpAny_bind ?_
  rw [show onTheHeap (Value.ref C)=true from rfl,if_pos rfl]
  refine L2.at ?_
  refine wpAny_bind (wpAny_attempt (wpAny_holding ?_))
  unfold callGetattribute
  rw [hx0]
  simp only [Bool.false_eq_true,if_false]
  unfold boundAndCalled
  rw [f3]
  refine wpAny_bind (wpAny_pure ?_)
  refine wpAny_call (codeAny_call_builtin F.attr_Exception.ga.plain F.entry_bexc_ga ?_)
  have hk:builtinKind "BaseException.__getattribute__" = some .slot:=by decide +kernel
  have hsplit:splitId "BaseException.__getattribute__" = some ("BaseException", "__getattribute__"):=by decide +kernel
  have ha:=F.args_bexc_ga (.ref x) (.str name t)
  unfold argsOk at ha
  simp only [checkBuiltinCall,hk,hsplit]
  refine wpAny_bind (L3.at ?_)
  simp only [Bool.not_true,Bool.false_eq_true,if_false,List.cons_append,List.nil_append]
  have fin:wpAny (model prog w) A.in1 (Builtin.«object.__getattribute__» ⟨[.ref x,.str name t],[]⟩) (fun fin s'=>match fin with | .done (.ret v)=>wpAny (model prog w) A (handedOut v) Q E s' | _=>False) (fun _ _=>False) ⟨hp,g,d,t+1,os⟩:=by
    unfold Builtin.«object.__getattribute__»
    refine wpAny_bind (wpAny_pure (wpAny_bind (wpAny_pure (wpAny_bind (L0.at (wpAny_bind (L4.at ?_)))))))
    refine wpAny_pure ?_
    show wpAny _ _ (handedOut v) _ _ _
    rw [handedOut_of hh];exact wpAny_pure h
  have fin2:=wpAny_mono fin (Q':=fun fin s'=>match fin with
      | .done f=>(match (Except.ok f:Result) with | .ok (.ret v)=>wpAny (model prog w) A (handedOut v) Q E s' | .ok _=>False | .error e=>False)
      | .again c'=>c'.quiet=true∧False) (E':=fun _ _=>False) (fun fin s' z=>by rcases fin with (_ | _ | _ | _) | _<;>first | exact z | exact z.elim) fun _ _ z=>z
  cases hsig:Manifest.signature? "BaseException.__getattribute__" with
  | none =>
    refine wpAny_pure (wpAny_mono fin (fun fin s' z=>?_) fun _ _ z=>z.elim)
    rcases fin with (_ | _ | _ | _) | _<;>first | exact z | exact z.elim
  | some sig =>
    rw [hsig] at ha
    dsimp only at ha ⊢
    rw [ha]
    refine wpAny_pure (wpAny_mono fin (fun fin s' z=>?_) fun _ _ z=>z.elim)
    rcases fin with (_ | _ | _ | _) | _<;>first | exact z | exact z.elim
end
section
variable {prog:Program} {w:World} {A:Around} {E:Value→Shared→Prop} {h:Heap} {g:Array GenState} {d:Drawn} {t:Nat} {os:OsState}
noncomputable abbrev excObj (C T:Addr):Obj:={cls:=.ref C,data:=.fields #[.ref T,.none,.none,.none,.bool false,.none]}
structure ExcD where
  nm:Str
  q:Str
  N:Addr
  bs:List Value
  hd:Bool
  sn:List Str
  sub:List Value
  ab:Bool
  col:Option Bool
  dd:Option Addr
  k0:Option Value
  k1:Option Value
  k2:Option Value
  k3:Option Value
  k5:Option Value
noncomputable abbrev ExcD.obj (d:ExcD) (C:Addr):Obj:=excClassObj d.nm d.q C d.N d.bs [.type "Exception",.type "BaseException",.type "object"] d.hd d.sn d.sub d.ab d.col d.dd d.k0 d.k1 d.k2 d.k3 d.k5 "Exception.__new__"
noncomputable def ExcCls (K:Frag) (C fI:Addr):Prop:=∃ d:ExcD,K.lookup C=some (d.obj C)∧findIn K (.ref C) "__init__" = some (some (.ref fI))∧typeIn K (.ref fI)=some (.type "function")
theorem exc_make {K:Frag} {C fI:Addr} {rest:List Value} {Q:Value→Shared→Prop} (X:K.In h) (hc:ExcCls K C fI) (hrest:rest.length≤sizeLine)
    (hq:wpAny (model prog w) (A.under (.builtin "type.__call__" ⟨.ref C::rest,[]⟩)) (call (.ref fI) (.ref (h.objs.size+1)::rest)) (fun r s'=>r=.none∧Q (.ref (h.objs.size+1)) s') E
      ⟨(h.push (tupObj rest.toArray)).push (excObj C h.objs.size),g,d,t,os⟩):wpAny (model prog w) A (call (.ref C) rest) Q E ⟨h,g,d,t,os⟩:=by
  obtain ⟨ed,hl,hi,hf⟩:=hc
  have hC:=X _ _ hl
  have F:=PySem.F.excBase_Exception
  have keep:∀ b o,h.get? b=some o→((h.push (tupObj rest.toArray)).push (excObj C h.objs.size)).get? b=some o:=fun b o e=>Heap.get?_push_of_some _ (Heap.get?_push_of_some _ e)
  have X1:K.In ((h.push (tupObj rest.toArray)).push (excObj C h.objs.size)):=X.keeps keep
  have hx:((h.push (tupObj rest.toArray)).push (excObj C h.objs.size)).get? (h.objs.size+1)=some (excObj C h.objs.size):=by heap_get
  have a1:Looks (model prog w) ((h.push (tupObj rest.toArray)).push (excObj C h.objs.size)) (typeOf (.ref (h.objs.size+1))) (.ref C):=(Looks.ld hx).andThen .now
  have a2:Looks (model prog w) ((h.push (tupObj rest.toArray)).push (excObj C h.objs.size)) (isSubtype (.ref C) (.ref C)) true:=looks_mroIn X1 (by unfold mroIn clsIn;rw [hl];simp)
  have a3:Looks (model prog w) ((h.push (tupObj rest.toArray)).push (excObj C h.objs.size)) (typeLookup (.ref C) "__init__") (some (.ref fI)):=looks_findIn X1 hi
  have a4:Looks (model prog w) ((h.push (tupObj rest.toArray)).push (excObj C h.objs.size)) (bindSpecial (.ref fI) (.ref (h.objs.size+1))) (.ref fI,[.ref (h.objs.size+1)]):=bind_fn X1 _ hf
  have f1:=tc_lookup
  have f2:=tc_bind (.ref C)
  have hT:(⟨h,g,d,t,os⟩:Shared).TypeIs (.ref C) "type" := ⟨_,hC,rfl⟩
  refine wpAny_call (codeAny_of_tree ?_)
  show wpAny _ _ (callAny (.ref C) _) _ _ _
  repeat (any_goals (first | assumption | with_reducible refine wpAny_loadPart_at hC ?_ | wp_step))
  refine ⟨rfl,codeAny_call_builtin_at (Code.quiet_builtin _ (by decide +kernel)) entry_typeCall (wpAny_check_type_call_sub hC ?_)⟩
  repeat (first | with_reducible refine wpAny_loadPart_at hC ?_ | with_reducible refine wpAny_madeBy_exc hC ?_ | wp_step)
  refine codeAny_call_builtin_code (Code.quiet_builtin _ F.quiet) (wpAny_check_new_sub F hC (codeAny_exc_new_sub F hC ?_ hrest))
  show wpAny _ _ _ _ _ _
  have e0:([]:List Value).append rest=rest:=rfl
  have e1:([Value.ref C]++rest)=Value.ref C::rest:=rfl
  unfold isInstance callSpecial? specialOf
  simp only [e0,e1]
  have a5:∀ (Q':Value→Shared→Prop),(∀ s',Q (.ref (h.objs.size+1)) s'→Q' .none s')→wpAny (model prog w) (A.under (.builtin "type.__call__" ⟨.ref C::rest,[]⟩)) (call (.ref fI) ([.ref (h.objs.size+1)]++rest)) Q' (fun e s'=>E e s')
      ⟨(h.push (tupObj rest.toArray)).push (excObj C h.objs.size),g,d,t,os⟩:=fun Q' k=>wpAny_mono hq (fun r s' z=>by obtain ⟨rfl,z⟩:=z;exact k s' z) fun _ _ z=>z
  repeat (first | (with_reducible refine Looks.at a1 ?_) | (with_reducible refine Looks.at a2 ?_) | (with_reducible refine Looks.at a3 ?_) | (with_reducible refine Looks.at a4 ?_) | (with_reducible refine a5 _ fun s' z=>?_) | lk)
  exact z
end
end T
open PySem PySem.W PySem.Calls PyProof.Rows Builtin Builtin.ObjectAttr
namespace T
section
variable {prog:Program} {w:World} {A:Around} {E:Value→Shared→Prop} {s:Shared} {K:Frag} {x C:Addr} {ox:Obj} {od:Option Obj} {name:Str} {expr:Bool}
theorem osa_exc {fI:Addr} {tk:Tok} {v:Value} {R:Result→Shared→Prop} (X:K.In s.heap) (I:InstAt s.heap x ox C od) (hc:ExcCls K C fI) (ht:takerIn K C name=some none)
    (h:∀ b,wpAny (model prog w) A.in1 (storeInOwnDict (.ref x) (.ref C) (.str name tk) name v b)
      (fun fin s'=>match fin with | .done f=>R (.ok f) s' | .again c'=>c'.quiet=true∧codeAny (model prog w) A c' R s') (fun e s'=>R (.error e) s') s) :
    codeAny (model prog w) A (.call (.builtin "object.__setattr__") ⟨[.ref x,.str name tk,v],[]⟩) R s:=by
  obtain ⟨ed,hl,hi,hf⟩:=hc
  have SF:=PySem.F.store_object
  have SE:=PySem.F.store_Exception
  have hcd:clsIn K C=some {name:=ed.nm,bases:=ed.bs,mro:=.ref C::[.type "Exception",.type "BaseException",.type "object"],ns:=ed.N,qualname:=ed.q,hasDict:=ed.hd,slotNames:=ed.sn,subclasses:=ed.sub,abstract:=ed.ab,collection:=ed.col,hasDel:=false}:=by
    delta clsIn;rw [hl]
  have sub:Looks (model prog w) s.heap (isInstance (.ref x) (.type "object")) true:=I.type.andThen (looks_mroIn X (by unfold mroIn;rw [hcd];rfl))
  refine codeAny_call_builtin SF.slot.plain SF.entry (@check_slot (model prog w) _ _ s "object.__setattr__" "object" "__setattr__" (.ref x) [.str name tk,v] [] _ SF.kind SF.split sub (SF.args (.ref x) (.str name tk) v) ?_)
  obtain ⟨attr,ha,hr⟩:=Option.bind_eq_some_iff.mp ht
  have hm:Looks (model prog w) s.heap (mroOf (.ref C)) (.ref C::[.type "Exception",.type "BaseException",.type "object"]):=(looks_clsIn X hcd).andThen .now
  have L3:Looks (model prog w) s.heap (storeTaker? attr) none:=by
    cases attr with
    | none=>exact .now
    | some a =>
      obtain ⟨b,hb,hr⟩:=Option.map_eq_some_iff.mp hr
      refine (looks_takesIn X hb).andThen ?_
      cases b with
      | false=>exact .now
      | true=>cases hr
  rw [osa_eq,refuse_eq]
  refine wpAny_bind (wpAny_bind (I.type.here (wpAny_bind (hm.here ?_))))
  rw [refuseLoop_ref,SE.passes]
  refine wpAny_pure (wpAny_bind (I.type.here (wpAny_bind ((looks_findIn X ha).here (wpAny_bind (L3.here ?_))))))
  exact h _
end
noncomputable def ExcAttr (K:Frag) (C fI:Addr) (n:Str):Prop :=
  findIn K (.ref C) "__getattribute__" = some (some (.builtin "BaseException.__getattribute__"))∧findIn K (.ref C) "__getattr__" = some none∧mroIn K C (.type "BaseException")=some true∧hasDictIn K C=true ∧
  findIn K (.ref C) n=some none∧findIn K (.ref C) "__setattr__" = some (some (.builtin "object.__setattr__"))∧takerIn K C n=some none∧ExcCls K C fI
section
variable {g:Gd} {hnd:Option Nat} {dep:Nat} {c:Cc} {σ:List AObj} {fs:List Out} {A:Around} {E:Value→Shared→Prop} {s:Shared}
theorem putS_len_sm {es:List (Str × AV)} {ens:Array DictEntry} {w:World} {name:Str} {tk:Tok} {v:Value} (R:SRels c es ens.toList) (hz:es.length≤900):(putL name (hashStr w name) (.str name tk) v ens.toList).length≤901:=by
  have a:∀ (l:List DictEntry),(putL name (hashStr w name) (.str name tk) v l).length≤l.length+1:=by
    intro l
    induction l with
    | nil=>exact Nat.le_refl _
    | cons e r ih=>unfold putL;split<;>simp<;>omega
  have:=a ens.toList
  have:=R.length
  omega
theorem nsSet_ok {d:Addr} {ens:Array DictEntry} {m:Nat} {es:List (Str × AV)} {name:Str} {v:Value} {Q:Unit→Shared→Prop} (D:s.heap.get? d=some (dictObj ens m)) (R:SRels c es ens.toList) (hz:es.length≤900)
    (k:∀ h' m',Heap.SameBut d s.heap h'→h'.get? d=some (dictObj (putL name (hashStr g.w name) (.str name s.toks) v ens.toList).toArray m')→Q () {s with heap:=h',toks:=s.toks+1}) :
    wpAny (model g.prog g.w) A (nsSet d name v) Q E s:=by
  unfold nsSet
  refine wpAny_bind (wpAny_bind (wpAny_askSetting (wpAny_pure (wpAny_bind (wpAny_mkText (wpAny_bind (wpAny_loadPart D ?_)))))))
  have nr:ens.any (·.refKey)=false:=by rw [← Array.any_toList];exact R.noRef
  dsimp only
  rw [aRefKeyMayBeTheName_at,nr,Bool.and_false]
  refine wpAny_updatePart D ?_
  have pe:Obj.putName name (hashStr g.w name) (.str name s.toks) v (dictObj ens m)=dictOf (putL name (hashStr g.w name) (.str name s.toks) v ens.toList) (putN name ens.toList m):=by
    rw [← putName_dict]
  have D':(s.heap.update d (Obj.putName name (hashStr g.w name) (.str name s.toks) v)).get? d=some (dictOf (putL name (hashStr g.w name) (.str name s.toks) v ens.toList) (putN name ens.toList m)):=by
    rw [← pe]
    exact Heap.get?_update_self _ D (by rw [pe];rfl)
  have len:=putS_len_sm (w:=g.w) (name:=name) (tk:=s.toks) (v:=v) R hz
  exact k _ _ (.update ..) D'
theorem storeInDict_ok {d:Addr} {ens:Array DictEntry} {m:Nat} {es:List (Str × AV)} {name:Str} {tk:Tok} {v:Value} {Q:Fin→Shared→Prop} (D:s.heap.get? d=some (dictObj ens m)) (R:SRels c es ens.toList) (hz:es.length≤900)
    (k:∀ h' m',Heap.SameBut d s.heap h'→h'.get? d=some (dictObj (putL name (hashStr g.w name) (.str name s.toks) v ens.toList).toArray m')→Q (.done (.ret .none)) {s with heap:=h',toks:=s.toks+1}) :
    wpAny (model g.prog g.w) A (storeInDict d (.str name tk) name v) Q E s:=by
  unfold storeInDict
  refine wpAny_bind (wpAny_pure (wpAny_bind (nsSet_ok D R hz fun h' m' hs hg=>?_)))
  have len:=putS_len_sm (w:=g.w) (name:=name) (tk:=s.toks) (v:=v) R hz
  refine wpAny_bind (wpAny_lookBehind hg (pastItsLine_dict (by rw [List.size_toArray,sizeLine_eq];omega)) ?_)
  exact wpAny_pure (k _ _ hs hg)
theorem instDict_some {x C dx:Addr} {ox:Obj} {cd:ClassData} {cr:Bool} {Q:Option Addr→Shared→Prop} (X:g.K.In s.heap) (hx:s.heap.get? x=some ox) (hcl:ox.cls=.ref C) (hd:ox.dict=some dx) (hc:clsIn g.K C=some cd) (hh:cd.hasDict=true)
    (k:Q (some dx) s):wpAny (model g.prog g.w) A (instanceDict x cr) Q E s:=by
  unfold instanceDict
  refine wpAny_bind (wpAny_loadPart hx ?_)
  rw [hcl]
  refine wpAny_bind ((looks_clsIn X hc).here ?_)
  rw [hh,hd]
  exact wpAny_pure k
theorem instDict_none {x C:Addr} {ox:Obj} {cd:ClassData} {vs:Array Value} {Q:Option Addr→Shared→Prop} (X:g.K.In s.heap) (hx:s.heap.get? x=some ox) (hcl:ox.cls=.ref C) (hd:ox.dict=none) (hdt:ox.data=.fields vs) (hc:clsIn g.K C=some cd) (hh:cd.hasDict=true)
    (k:Q (some s.heap.objs.size) {s with heap:=(s.heap.push (dictObj #[] 0)).update x fun o=>{o with dict:=some s.heap.objs.size}}):wpAny (model g.prog g.w) A (instanceDict x true) Q E s:=by
  unfold instanceDict
  refine wpAny_bind (wpAny_loadPart hx ?_)
  rw [hcl]
  refine wpAny_bind ((looks_clsIn X hc).here ?_)
  rw [hh,hd,hdt]
  refine wpAny_bind (wpAny_alloc (wpAny_bind (wpAny_update (Heap.get?_push_of_some _ hx) ?_)))
  exact wpAny_pure k
theorem setAttr_some {i j:Nat} {x C fI:Addr} {tr sy:Bool} {n:Str} {b:AV} {v:Value} {Q:Unit→Shared→Prop} {es:List (Str × AV)} (H:Hp g hnd dep c σ fs A s) (hi:c.r[i]?=some x) (he:σ[i]?=some (.exc C (some j) tr)) (hb:VRel c b v) (ok:ExcAttr g.K C fI n)
    (hj:σ[j]?=some (.sd sy es)) (hz:es.length≤900) (k:∀ s',Hp g hnd dep c (σ.set j (.sd false (putS es n b))) fs A s'→Q () s'):wpAny (model g.prog g.w) A (setAttr (.ref x) n v) Q E s:=by
  obtain ⟨_,_,_,h4,_,h6,h7,h8⟩:=ok
  obtain ⟨ox,hx,hcl,⟨dx,r1,r2⟩,vs,hdt,_⟩:=H.st.at hi he
  obtain ⟨cd,hc,hh⟩:=any_some h4
  obtain ⟨od,p,ens,m,e,q⟩:=H.st.at r1 hj
  rw [e] at p
  have I:InstAt s.heap x ox C (some (dictObj ens m)):=⟨hx,hcl,by delta notCls;rw [hdt],by rw [r2];exact p⟩
  refine set_plain H.K I h6 (osa_exc (s:={s with toks:=s.toks+1}) H.K I h8 h7 fun _=>?_)
  delta storeInOwnDict
  refine wpAny_bind (wpAny_pure (wpAny_bind ?_))
  show wpAny _ _ (instanceDict x true) _ _ _
  exact instDict_some (s:={s with toks:=s.toks+1}) H.K hx hcl r2 hc hh (storeInDict_ok (s:={s with toks:=s.toks+1}) p q hz fun h' m' hs hg=>k _ (H.upd (.refl c) (H.st.upd r1 hs hg ⟨_,_,rfl,H.w▸q.put hb⟩)))
theorem setAttr_none {i:Nat} {x C fI:Addr} {tr:Bool} {n:Str} {b:AV} {v:Value} {Q:Unit→Shared→Prop} (H:Hp g hnd dep c σ fs A s) (hi:c.r[i]?=some x) (he:σ[i]?=some (.exc C none tr)) (hb:VRel c b v) (ok:ExcAttr g.K C fI n)
    (k:∀ c' s',Ext c c'→Hp g hnd dep c' (σ.set i (.exc C (some σ.length) tr)++[.sd false [(n,b)]]) fs A s'→Q () s'):wpAny (model g.prog g.w) A (setAttr (.ref x) n v) Q E s:=by
  obtain ⟨_,_,_,h4,_,h6,h7,h8⟩:=ok
  obtain ⟨ox,hx,hcl,hdc,vs,hdt,hsz,htb,hcx⟩:=H.st.at hi he
  obtain ⟨cd,hc,hh⟩:=any_some h4
  have I:InstAt s.heap x ox C none:=⟨hx,hcl,by delta notCls;rw [hdt],by rw [show ox.dict=none from hdc];trivial⟩
  have H1:=H.alloc (o:=dictObj #[] 0) (b:=.ed) (tk:=s.toks+1) rfl ⟨0,rfl⟩
  have hn1:(c.addR s.heap.objs.size).r[σ.length]?=some s.heap.objs.size:=H.st.len▸List.getElem?_concat_length
  have ne:x ≠ s.heap.objs.size:=fun z=>absurd (Heap.lt_size hx) (z▸Nat.lt_irrefl _)
  have fr:({ox with dict:=some s.heap.objs.size}:Obj).isFreed=false:=by
    obtain ⟨_,_,dt,_⟩:=ox
    cases hdt
    rfl
  have hx2:=Heap.get?_update_self (fun o=>{o with dict:=some s.heap.objs.size}) (Heap.get?_push_of_some (dictObj #[] 0) hx) fr
  have H2:=H1.upd (tk:=s.toks+1) (.refl _) (H1.st.upd (b:=.exc C (some σ.length) tr) ((Ext.addR c _).r _ _ hi) (Heap.SameBut.update ..) hx2 ⟨hcl,⟨_,hn1,rfl⟩,vs,hdt,hsz,htb,hcx⟩) H1.low
  have D:((s.heap.push (dictObj #[] 0)).update x fun o=>{o with dict:=some s.heap.objs.size}).get? s.heap.objs.size=some (dictObj #[] 0):=(Heap.get?_update_other _ _ ne).trans (Heap.get?_push_size _ rfl)
  have e:((σ++[AObj.ed]).set i (.exc C (some σ.length) tr)).set σ.length (.sd false [(n,b)])=σ.set i (.exc C (some σ.length) tr)++[.sd false [(n,b)]]:=by
    rw [List.set_append_left _ _ (List.getElem?_eq_some_iff.mp he).1,List.set_append_right _ _ (by rw [List.length_set];exact Nat.le_refl _),List.length_set,Nat.sub_self]
    rfl
  refine set_plain H.K I h6 (osa_exc (s:={s with toks:=s.toks+1}) H.K I h8 h7 fun _=>?_)
  delta storeInOwnDict
  refine wpAny_bind (wpAny_pure (wpAny_bind ?_))
  show wpAny _ _ (instanceDict x true) _ _ _
  refine instDict_none (s:={s with toks:=s.toks+1}) H.K hx hcl hdc hdt hc hh (storeInDict_ok (c:=c) (es:=[]) (s:={s with heap:=(s.heap.push (dictObj #[] 0)).update x fun o=>{o with dict:=some s.heap.objs.size},toks:=s.toks+1}) D .nil (Nat.zero_le _) fun h' m' hs hg=>?_)
  exact k _ _ (Ext.addR c s.heap.objs.size) (e▸H2.upd (tk:=s.toks+1+1) (.refl _) (H2.st.upd (b:=.sd false [(n,b)]) hn1 hs hg ⟨_,_,rfl,.cons (by rw [← H.w];rfl) rfl (hb.mono (Ext.addR c _)) .nil⟩) H2.low)
end
noncomputable def excIn (tab:List (Addr × Addr × Str)) (C:Addr) (n:Str):Bool:=memP (fun p=>cond (Nat.beq p.1 C) (seq p.2.2 n) false) tab
theorem excIn_ok {K:Frag} {tab:List (Addr × Addr × Str)} (ht:∀ p∈tab,ExcAttr K p.1 p.2.1 p.2.2) {C:Addr} {n:Str} (h:excIn tab C n=true):∃ fI,ExcAttr K C fI n:=by
  obtain ⟨p,m,e⟩:=memP_iff.mp h
  obtain ⟨e1,e2⟩:=cond_ff e
  rw [← Nat.eq_of_beq_eq_true e1,← seq_iff.mp e2]
  exact ⟨p.2.1,ht p m⟩
noncomputable def opGetE (tab:List (Addr × Addr × Str)) (v:AV) (n:Str):Rd→List AObj→Option (AV × List AObj):=fun _ σ=>mutO v fun i=>exnO σ[i]? fun C d _=>obn d fun j=>gdO (excIn tab C n)
  (objC σ[j]? none (fun _ es=>obn (lk es n) fun a=>gdO (bare a) (some (a,σ))) (fun _ _=>none) (fun _=>none))
theorem leaf_getE {g:Gd} {c₀:Cc} {tab:List (Addr × Addr × Str)} (ht:∀ p∈tab,ExcAttr g.K p.1 p.2.1 p.2.2) {v:AV} {v':Value} {n:Str} {ex:Bool} (hv:VRel c₀ v v'):Leaf g c₀ (opGetE tab v n) (getAttr v' n ex) VRel :=
  .s fun rd σ c fs A s Q E C x H k P=>P.mutO (G:=fun v'=>wpAny (model g.prog g.w) A (getAttr v' n ex) Q E s) (hv.mono x) fun i ad hi P=>P.exnO fun D d tr e1 P=>P.obn fun j ej P=>P.gdO fun e2 P =>
    P.objC (fun _ P=>P.no) (fun sy es e3 P=>P.obn fun a e4 P=>P.gdO fun e5 P=>by
      obtain ⟨fI,h1,h2,h3,h4,h5,h6,h7,h8⟩:=excIn_ok ht e2
      obtain ⟨ox,hx,hcl,hdc,vs,hdt,hsz,htb,hcx⟩:=H.st.at hi e1
      rw [ej] at hdc
      obtain ⟨dx,r1,r2⟩:=hdc
      obtain ⟨od,p,ens,m,e,q⟩:=H.st.at r1 e3
      obtain ⟨o,q1,q2⟩:=q.lookIn (n:=m) n
      rw [e4] at q2
      obtain ⟨v,e6,q2⟩:=q2
      rw [e] at p
      rw [e6] at q1
      exact exc_get H.K ⟨hx,hcl,by delta notCls;rw [hdt],by rw [r2];exact p⟩ h1 h2 h3 (findObj_own h4 h5 rfl q1) (bare_handed q2 e5) (k _ _ c _ v P (.refl c) (H.tick _) q2)) (fun _ _ _ P=>P.no) fun _ _ P=>P.no
noncomputable def optO {β γ:Type} (o:Option β) (d:Option γ) (f:β→Option γ):Option γ:=match o with
  | none=>d
  | some x=>f x
noncomputable def opSetE (tab:List (Addr × Addr × Str)) (v:AV) (n:Str) (b:AV):Rd→List AObj→Option (Unit × List AObj):=fun _ σ=>mutO v fun i=>exnO σ[i]? fun C d tr=>gdO (excIn tab C n)
  (optO d (some ((),σ.set i (.exc C (some σ.length) tr)++[.sd false [(n,b)]])) fun j=>objC σ[j]? none (fun sy es=>gdO (cond sy false (Nat.ble es.length 900)) (some ((),σ.set j (.sd false (putS es n b))))) (fun _ _=>none) (fun _=>none))
theorem leaf_setE {g:Gd} {c₀:Cc} {tab:List (Addr × Addr × Str)} (ht:∀ p∈tab,ExcAttr g.K p.1 p.2.1 p.2.2) {v b:AV} {v' b':Value} {n:Str} (hv:VRel c₀ v v') (hb:VRel c₀ b b'):Leaf g c₀ (opSetE tab v n b) (setAttr v' n b') (fun _ _ _=>True) :=
  .s fun rd σ c fs A s Q E C x H k P=>P.mutO (G:=fun v'=>wpAny (model g.prog g.w) A (setAttr v' n b') Q E s) (hv.mono x) fun i ad hi P=>P.exnO fun D d tr e1 P=>P.gdO fun e2 P=>by
    obtain ⟨fI,ok⟩:=excIn_ok ht e2
    cases d with
    | none=>exact setAttr_none H hi e1 (hb.mono x) ok fun c' s' x' H'=>k () _ c' s' () P x' H' trivial
    | some j=>exact P.objC (fun _ P=>P.no) (fun _ _ e3 P=>P.gdO fun e4 P=>setAttr_some H hi e1 (hb.mono x) ok e3 (Nat.le_of_ble_eq_true (cond_sy e4)) fun s' H'=>k () _ c s' () P (.refl c) H' trivial) (fun _ _ _ P=>P.no) fun _ _ P=>P.no
end T
open PySem PySem.W PySem.Calls PyProof.Rows Builtin Builtin.ObjectAttr
namespace T
theorem under_tc (A:Around) (C:Addr) (rest:List Value) (kw:List (Str × Value)):A.under (.builtin "type.__call__" ⟨.ref C::rest,kw⟩)={A with depth:=A.depth+1,units:=A.units+1}:=by
  have f:∀ args,(Code.builtin "type.__call__" args).frames=0:=fun args=>by kernel_rfl
  have g:∀ args,(Code.builtin "type.__call__" args).isGuard=false:=fun args=>by kernel_rfl
  have k:∀ args,(Code.builtin "type.__call__" args).isCaller=false:=fun args=>by kernel_rfl
  have e:∀ args,(Code.builtin "type.__call__" args).envs=[]:=fun args=>by kernel_rfl
  unfold Around.under
  rw [e]
  have w:(Code.builtin "type.__call__" ⟨.ref C::rest,kw⟩).weight=1:=by
    unfold Code.weight;rw [f,g,k];rfl
  have u:(Code.builtin "type.__call__" ⟨.ref C::rest,kw⟩).cUnits=1:=by
    show 1+3 * (Code.builtin "type.__call__" ⟨.ref C::rest,kw⟩).frames=1
    rw [f]
  have gg:(Code.builtin "type.__call__" ⟨.ref C::rest,kw⟩).guards=[]:=by
    unfold Code.guards;rw [g];rfl
  rw [w,u,gg];rfl
noncomputable def Rd.deep (rd:Rd):Rd:=⟨rd.sc,rd.hnd,rd.dep+1,rd.off+1⟩
noncomputable def Around.deepC (A:Around):Around:={A with depth:=A.depth+1,units:=A.units+1}
section
variable {g:Gd}
theorem Inv.deep {rd:Rd} {c:Cc} {f:Frm} {outs:List Out} {m:Str→Option Value} {as:AS} {A:Around} {s:Shared} (I:Inv g rd c f outs m as A s):Inv g rd.deep c f outs m as (Around.deepC A) s :=
  ⟨⟨I.hp.st,I.hp.base,I.hp.w,I.hp.frames,I.hp.guards,I.hp.fok,Nat.succ_le_succ I.hp.depth,Nat.le_trans (Nat.succ_le_succ I.hp.units) (Nat.add_le_add_left (Nat.le_add_right _ 15:16 * rd.dep+1≤16 * rd.dep+16) 4),I.hp.hnd,I.hp.gens,I.hp.os,I.hp.low⟩,I.ls,I.sc,Nat.succ_le_succ I.room⟩
theorem Inv.undeep {rd:Rd} {c c':Cc} {f:Frm} {outs:List Out} {m m':Str→Option Value} {as as':AS} {A:Around} {s s':Shared} (I:Inv g rd c f outs m as A s) (J:Inv g rd.deep c' f outs m' as' (Around.deepC A) s'):Inv g rd c' f outs m' as' A s' :=
  ⟨⟨J.hp.st,J.hp.base,J.hp.w,J.hp.frames,J.hp.guards,J.hp.fok,I.hp.depth,I.hp.units,J.hp.hnd,J.hp.gens,J.hp.os,J.hp.low⟩,J.ls,J.sc,I.room⟩
end
noncomputable def ClsOk (g:Gd) (C fI:Addr):Prop:=makesIn g.K C=true∧findIn g.K (.ref C) "__init__" = some (some (.ref fI))∧typeIn g.K (.ref fI)=some (.type "function")
noncomputable def newR (v:AV) (r:Res AV) (s:AS):Option (Res AV × AS):=match r with
  | .ok a=>noneO a (some (.ok v,s))
  | .exc i=>some (.exc i,s)
theorem newR_mono {v:AV} {r:Res AV} {s:AS}:∀ p,newR v r s=some p→p.2.obl=s.obl:=by
  cases r with
  | exc i=>exact fun p e=>congrArg (fun z=>AS.obl z.2) (Option.some.inj e).symm
  | ok a=>cases a with
    | none=>exact fun p e=>congrArg (fun z=>AS.obl z.2) (Option.some.inj e).symm
    | _=>exact fun _ e=>no_some e
noncomputable def newE (v:Nat→AV) (b:AObj) (init:AV→EM AV):EM AV:=⟨fun rd s=>obn ((init (v s.σ.length)).run rd.deep {s with σ:=s.σ++[b]}) fun p=>newR (v s.σ.length) p.1 p.2,fun rd as r as' e=>by
    obtain ⟨p,h,e⟩:=obn_some e
    exact fun o=>(init (v as.σ.length)).mono rd.deep {as with σ:=as.σ++[b]} p.1 p.2 h (newR_mono (r,as') e▸o)⟩
noncomputable def newC (v:AV) (C:Res AV→AS→Prop) (r:Res AV) (as:AS):Prop:=match r with
  | .ok a=>a=.none∧C (.ok v) as
  | .exc i=>C (.exc i) as
theorem EOk.newE {v:Nat→AV} {b:AObj} {init:AV→EM AV} {rd:Rd} {as:AS} {C:Res AV→AS→Prop} (P:EOk C ((newE v b init).run rd as)):EOk (newC (v as.σ.length) C) ((init (v as.σ.length)).run rd.deep {as with σ:=as.σ++[b]}):=by
  revert P
  show EOk C (obn ((init (v as.σ.length)).run rd.deep {as with σ:=as.σ++[b]}) fun p=>newR (v as.σ.length) p.1 p.2)→_
  cases (init (v as.σ.length)).run rd.deep {as with σ:=as.σ++[b]} with
  | none=>exact id
  | some p =>
    obtain ⟨r,s'⟩:=p
    cases r with
    | exc i=>exact id
    | ok a=>cases a with
      | none=>exact fun P=>⟨rfl,P⟩
      | _=>exact False.elim
theorem newE_ok {g:Gd} {v:Nat→AV} {b:AObj} {init:List AV→EM AV} {f:Addr} (hinit:∀ c as vs,VRels c as vs→SndC g c (init as) (.call (.ref f) ⟨vs,[]⟩) VRel) {as:List AV} {vs:List Value} {rd:Rd} {st:AS} {c c2:Cc} {fr:Frm} {outs:List Out} {lm:Str→Option Value} {A:Around} {s s2:Shared}
    {Q E:Value→Shared→Prop} {C:Res AV→AS→Prop} {z:Addr} (I:Inv g rd c fr outs lm st A s) (x2:Ext c c2) (hv:VRels c as vs) (H2:Hp g rd.hnd rd.dep c2 (st.σ++[b]) (⟨fr.env,lm⟩::outs) A s2) (hz:VRel c2 (v st.σ.length) (.ref z)) (o:∀ r as,C r as→AllP as.obl)
    (kk:∀ r as' c' lm' s',C r as'→Ext c c'→Inv g rd c' fr outs lm' as' A s'→After VRel c' as'.σ r Q E s') (P:EOk C ((newE v b fun x=>init (x::as)).run rd st)) :
    codeAny (model g.prog g.w) (Around.deepC A) (.call (.ref f) ⟨.ref z::vs,[]⟩) (retK (fun u s'=>u=.none∧Q (.ref z) s') E) s2 :=
  hinit c2 _ _ (.cons hz (hv.mono x2)) rd.deep _ c2 fr outs lm _ _ _ E (newC (v st.σ.length) C) (.refl c2) (I.put x2 H2).deep (fun r as=>match r with
    | .ok _=>fun P=>o _ _ P.2
    | .exc _=>o _ _) (fun r as' c' lm' s'=>match r with
    | .ok a=>fun P x' I' b hb=>⟨one_rel (P.1▸hb),kk _ _ c' lm' s' P.2 (x2.trans x') (I.undeep I') _ (hz.mono x')⟩
    | .exc i=>fun P x' I'=>kk _ _ c' lm' s' P (x2.trans x') (I.undeep I')) P.newE
noncomputable def callCls (C:Addr) (init:List AV→EM AV) (as:List AV):EM AV:=newE (.inst C) .ed fun v=>init (v::as)
theorem callCls_ok {g:Gd} {C fI:Addr} (ok:ClsOk g C fI) {init:List AV→EM AV} (hinit:∀ c as vs,VRels c as vs→SndC g c (init as) (.call (.ref fI) ⟨vs,[]⟩) VRel) {c₀:Cc} {as:List AV} {vs:List Value} (hv:VRels c₀ as vs) :
    Snd g c₀ (callCls C init as) (fun _=>call (.ref C) vs []) VRel:=.q fun rd st c fr outs lm A s Q E K x I o kk P=>by
  obtain ⟨h1,h2,h3⟩:=ok
  have X:=I.hp.K
  have H1:=I.hp.alloc (o:=emptyDict) (b:=.ed) (tk:=s.toks) rfl ⟨0,rfl⟩
  have H2:=H1.allocI (o:=instObj C s.heap.objs.size) (tk:=s.toks) rfl
  have hd:(c.addR s.heap.objs.size).r[st.σ.length]?=some s.heap.objs.size:=I.hp.st.len▸List.getElem?_concat_length
  have sz:(s.heap.push emptyDict).objs.size=s.heap.objs.size+1:=Heap.size_push ..
  rw [show (Shared.mk (s.heap.push emptyDict) s.gens s.drawn s.toks s.os).heap.objs.size=s.heap.objs.size+1 from sz] at H2
  have fr1:=sz▸H1.st.gNone
  obtain ⟨hp,gg,d,t,os⟩:=s
  refine wpAny_call (make_core (makes_of X h1) (looks_findIn X h2) (fun self=>bind_fn X self h3) (.inl rfl) ?_)
  rw [under_tc]
  refine codeAny_mono (newE_ok hinit I ((Ext.addR c _).trans (Ext.addG _ fr1)) (hv.mono x) H2 (.inst ((Ext.addG _ fr1).r _ _ hd) (addG_at ..)) o kk P) fun r s' z=>?_
  rcases r with e | (v | _ | _ | _)<;>first | exact z | exact z.elim
noncomputable def callExc (C:Addr) (init:List AV→EM AV) (as:List AV):EM AV:=pk (Nat.blt as.length 1000) (newE .mut (.exc C none false) fun v=>init (v::as)) flt
theorem callExc_ok {g:Gd} {C fI:Addr} (ok:ExcCls g.K C fI) {init:List AV→EM AV} (hinit:∀ c as vs,VRels c as vs→SndC g c (init as) (.call (.ref fI) ⟨vs,[]⟩) VRel) {c₀:Cc} {as:List AV} {vs:List Value} (hv:VRels c₀ as vs) :
    Snd g c₀ (callExc C init as) (fun _=>call (.ref C) vs []) VRel:=.q fun rd st c fr outs lm A s Q E K x I o kk P=>by
  have X:=I.hp.K
  delta callExc at P
  cases hl:Nat.blt as.length 1000 with
  | false=>rw [hl] at P;exact P.elim
  | true =>
    rw [hl] at P
    have hl:=Nat.le_of_ble_eq_true hl
    have H1:=I.hp.allocI (o:=tupObj vs.toArray) (tk:=s.toks) rfl
    have H2:=H1.alloc (o:=excObj C s.heap.objs.size) (b:=.exc C none false) (tk:=s.toks) rfl ⟨rfl,rfl,_,rfl,Nat.le_refl _,.inl ⟨rfl,rfl⟩,rfl⟩
    have sz:(s.heap.push (tupObj vs.toArray)).objs.size=s.heap.objs.size+1:=Heap.size_push ..
    rw [show (Shared.mk (s.heap.push (tupObj vs.toArray)) s.gens s.drawn s.toks s.os).heap.objs.size=s.heap.objs.size+1 from sz] at H2
    have X2:=(Ext.addG (tupObj vs.toArray) I.hp.st.gNone).trans (Ext.addR _ (s.heap.objs.size+1))
    have hz:((c.addG s.heap.objs.size (tupObj vs.toArray)).addR (s.heap.objs.size+1)).r[st.σ.length]?=some (s.heap.objs.size+1):=I.hp.st.len▸List.getElem?_concat_length
    obtain ⟨hp,gg,d,t,os⟩:=s
    refine exc_make X ok (by rw [sizeLine_eq,← hv.length];omega) ?_
    rw [under_tc]
    exact wpAny_call (codeAny_mono (newE_ok hinit I X2 (hv.mono x) H2 (.mut hz) o kk P) fun r s' z=>z)
noncomputable def opExcInit (tab:List (Addr × Addr × Str)) (as:List AV):Rd→List AObj→Option (AV × List AObj):=fun _ σ=>twoA as fun a _=>mutO a fun i=>exnO σ[i]? fun C _ _=>gdO (memP (fun p=>Nat.beq p.1 C) tab) (some (.none,σ))
theorem exc_init {g:Gd} {hnd:Option Nat} {dep:Nat} {c:Cc} {σ:List AObj} {fs:List Out} {A:Around} {E:Value→Shared→Prop} {s:Shared} {Q:Value→Shared→Prop} {tab:List (Addr × Addr × Str)} (ht:∀ p∈tab,ExcAttr g.K p.1 p.2.1 p.2.2) {i:Nat} {y C:Addr} {d:Option Nat} {tr:Bool} {v:Value}
    (H:Hp g hnd dep c σ fs A s) (hi:c.r[i]?=some y) (e1:σ[i]?=some (.exc C d tr)) (e2:memP (fun p=>Nat.beq p.1 C) tab=true) (k:∀ c' s',Ext c c'→Hp g hnd dep c' σ fs A s'→Q .none s'):wpAny (model g.prog g.w) A (call (.builtin "Exception.__init__") [.ref y,v] []) Q E s:=by
  obtain ⟨p,hm,e3⟩:=memP_iff.mp e2
  obtain ⟨_,_,_,_,_,_,_,h8⟩:=ht _ hm
  rw [Nat.eq_of_beq_eq_true e3] at h8
  obtain ⟨ed,hl,_,_⟩:=h8
  obtain ⟨ox,hx,hcl,hdc,vs,hdt,hsz,htb,hcx⟩:=H.st.at hi e1
  have F:=PySem.F.excBase_Exception
  have l0:0 < vs.size:=Nat.lt_of_lt_of_le (by decide) hsz
  have H1:=H.allocI (o:=tupObj [v].toArray) (tk:=s.toks) rfl
  have X1:Ext c (c.addG s.heap.objs.size (tupObj [v].toArray)):=Ext.addG _ H.st.gNone
  have hx1:(s.heap.push (tupObj [v].toArray)).get? y=some ox:=Heap.get?_push_of_some _ hx
  obtain ⟨e1',e2',e3',e4'⟩:=fields_set hdt 0 (.ref s.heap.objs.size)
  have S:=H1.st.upd (i:=i) (b:=.exc C d tr) (X1.r _ _ hi) (Heap.SameBut.update ..) (Heap.get?_update_self (Obj.mapFields (·.setIfInBounds 0 (.ref s.heap.objs.size))) hx1 e4') ⟨e2'.trans hcl,by
    rw [e3']
    cases d with
    | none=>exact hdc
    | some j=>obtain ⟨a,p,q⟩:=hdc;exact ⟨a,X1.r _ _ p,q⟩,_,e1',by rw [Array.size_setIfInBounds];exact hsz,by rw [Array.getElem?_setIfInBounds_ne (by decide)];exact htb,by rw [Array.getElem?_setIfInBounds_ne (by decide)];exact hcx⟩
  have eσ:σ.set i (.exc C d tr)=σ:=by
    obtain ⟨l,z⟩:=List.getElem?_eq_some_iff.mp e1
    rw [← z];exact List.set_getElem_self l
  rw [eσ] at S
  have fin:Q .none {s with heap:=(s.heap.push (tupObj [v].toArray)).update y (Obj.mapFields (·.setIfInBounds 0 (.ref s.heap.objs.size)))}:=k _ _ X1 (H1.upd (tk:=s.toks) (.refl _) S)
  have hC:=H.K _ _ hl
  clear S H1
  obtain ⟨hp,gg,dd',t,os⟩:=s
  refine wpAny_call (codeAny_call_builtin F.init.plain F.initEntry (wpAny_check_init_subU F (OwnTail.base) hC hx hcl ?_))
  delta Builtin.«BaseException.__init__»
  show wpAny _ _ (newTuple [v]>>=fun b=>Builtin.BaseException.bexcPut (.ref y) 0 b>>=fun _=>PySem.ret .none) _ _ _
  delta newTuple
  refine wpAny_bind (wpAny_newObj_type ?_ (by size_fits))
  delta Builtin.BaseException.bexcPut
  refine wpAny_bind (wpAny_bind (wpAny_field hx1 hdt (Array.getElem?_eq_getElem l0) (wpAny_bind (wpAny_setField hx1 hdt l0 ?_))))
  cases vs[0] with
  | ref _=>exact wpAny_letGo (wpAny_pure fin)
  | _=>exact wpAny_pure (wpAny_pure fin)
theorem leaf_excInit {g:Gd} {c₀:Cc} {tab:List (Addr × Addr × Str)} (ht:∀ p∈tab,ExcAttr g.K p.1 p.2.1 p.2.2) {as:List AV} {vs:List Value} (hv:VRels c₀ as vs):Leaf g c₀ (opExcInit tab as) (call (.builtin "Exception.__init__") vs []) VRel :=
  .s fun rd σ c fs A s Q E C x H k P=>P.twoA (G:=fun vs=>wpAny (model g.prog g.w) A (call (.builtin "Exception.__init__") vs []) Q E s) (hv.mono x) fun _ _ _ w h1 _ P=>P.mutO (G:=fun v=>wpAny (model g.prog g.w) A (call (.builtin "Exception.__init__") [v,w] []) Q E s) h1 fun _ _ hi P =>
    P.exnO fun _ _ _ e1 P=>P.gdO fun e2 P=>exc_init ht H hi e1 e2 fun c' s' x' H'=>k _ _ c' s' _ P x' H' .none
end T
open PySem PySem.W PySem.Calls PyProof.Rows Builtin Builtin.ObjectAttr
namespace T
noncomputable def hndOk (h:Option Nat) (i:Nat):Bool:=match h with
  | none=>true
  | some j=>Nat.beq j i
noncomputable def raiseE (tab:List (Addr × Addr × Str)) (v:AV):EM AFlow:=⟨fun rd s=>mutO v fun i=>exnO s.σ[i]? fun C _ _=>gdO (memP (fun p=>Nat.beq p.1 C) tab) (gdO (hndOk rd.hnd i) (some (.exc i,s))),fun rd as r as'=>by
    have M:Mo (α:=AFlow) as (mutO v fun i=>exnO as.σ[i]? fun C _ _=>gdO (memP (fun p=>Nat.beq p.1 C) tab) (gdO (hndOk rd.hnd i) (some (.exc i,as)))):=by
      cases v with
      | «mut» i=>exact Mo.exc fun _ _ _=>Mo.gd (Mo.gd (Mo.yes rfl))
      | _=>exact Mo.no
    exact M (r,as')⟩
section
variable {g:Gd} {hnd:Option Nat} {dep:Nat} {c:Cc} {σ:List AObj} {fs:List Out} {A:Around} {E:Value→Shared→Prop} {s:Shared}
theorem raise_at {i:Nat} {e C fI:Addr} {d:Option Nat} {tr:Bool} {env:Env} {Q:Flow→Shared→Prop} (H:Hp g hnd dep c σ fs A s) (hi:c.r[i]?=some e) (he:σ[i]?=some (.exc C d tr)) (hc:ExcCls g.K C fI) (hh:hndOk hnd i=true)
    (k:∀ s',Hp g hnd dep c σ fs A s'→E (.ref e) s'):wpAny (model g.prog g.w) A (raiseStmt env (some (pure (.ref e))) none) Q E s:=by
  obtain ⟨ed,hl,hin,hf⟩:=hc
  obtain ⟨ox,hx,hcl,hdc,vs,hdt,hsz,htb,hcx⟩:=H.st.at hi he
  have X:=H.K
  have no:notCls ox=true:=by unfold notCls;rw [hdt]
  have a1:Looks (model g.prog g.w) s.heap (typeOf (.ref e)) (.ref C):=hcl▸(Looks.ld hx).andThen .now
  have a2:Looks (model g.prog g.w) s.heap (isSubtype (.ref C) (.type "BaseException")) true:=looks_mroIn X (by unfold mroIn clsIn;rw [hl];rfl)
  have a3:Looks (model g.prog g.w) s.heap (isInstance (.ref e) (.type "BaseException")) true:=a1.andThen a2
  have a4:Looks (model g.prog g.w) s.heap (isType (.ref e)) false:=by
    refine (show Looks (model g.prog g.w) s.heap (loadHead e) ox from Looks.ld hx).andThen ?_
    rw [hdt];exact .now
  have a5:Looks (model g.prog g.w) s.heap (typeOf (.ref C)) (.type "type"):=(Looks.ld (X _ _ hl)).andThen .now
  have fin:wpAny (model g.prog g.w) A (setFlight (.ref e) none>>=fun _=>(raiseNew (.ref e):Sem Flow)) Q E s:=by
    refine wpAny_bind (setFlight_ok H hi ⟨tr,he⟩ fun s' H'=>?_)
    unfold raiseNew
    refine wpAny_bind (wpAny_handled ?_)
    have hn:=H'.hnd
    cases hnd with
    | none =>
      have hn:A.handled=none:=hn
      rw [hn]
      exact wpAny_bind (wpAny_pure (wpAny_throw (k s' H')))
    | some j =>
      obtain ⟨a,r1,r2⟩:=hn
      obtain rfl:j=i:=Nat.eq_of_beq_eq_true hh
      rw [hi] at r1
      cases r1
      rw [r2]
      dsimp only
      rw [if_neg (by simp)]
      exact wpAny_throw (k s' H')
  unfold raiseStmt
  refine wpAny_bind (wpAny_pure (wpAny_bind (wpAny_pure (wpAny_bind (wpAny_holding ?_)))))
  unfold excFromValue isExcClass
  refine wpAny_bind (wpAny_bind (a4.here (wpAny_pure ?_)))
  rw [if_neg (by decide)]
  refine wpAny_bind (a3.here ?_)
  rw [if_pos rfl]
  refine wpAny_pure ?_
  dsimp only
  refine wpAny_bind (a4.here ?_)
  rw [if_neg (by decide)]
  unfold raisedInstance
  refine wpAny_bind (wpAny_bind (a1.here (wpAny_bind (a5.here ?_))))
  rw [if_pos (by decide)]
  exact wpAny_pure fin
theorem raise_ok {tab:List (Addr × Addr × Str)} (ht:∀ p∈tab,ExcAttr g.K p.1 p.2.1 p.2.2) {v:AV} {v':Value} (hv:VRel c v v'):Snd g c (raiseE tab v) (fun env=>raiseStmt env (some (pure v')) none) FlowR :=
  .q fun rd as c' f outs lm A s Q E C x I o kk P=>Ok.mutO (G:=fun v'=>wpAny (model g.prog g.w) A (raiseStmt f.env (some (pure v')) none) Q E s) P (hv.mono x) fun i a hi P=>P.exnO fun D d t e1 P=>P.gdO fun e2 P=>P.gdO fun e3 P=>by
    obtain ⟨p,hm,e4⟩:=memP_iff.mp e2
    obtain ⟨_,_,_,_,_,_,_,h8⟩:=ht _ hm
    rw [Nat.eq_of_beq_eq_true e4] at h8
    exact raise_at I.hp hi e1 h8 e3 fun s' H'=>kk (.exc i) as c' lm s' P (.refl c') ⟨H',I.ls,I.sc,I.room⟩ a hi ⟨D,d,t,e1⟩
theorem S_raise {tab:List (Addr × Addr × Str)} (ht:∀ p∈tab,ExcAttr g.K p.1 p.2.1 p.2.2) {x:Expr} {pos:Pos} {m:EM AV} (h:SE g m x):SS1 g (bnd m (raiseE tab)) (.Raise (some x) none pos):=by
  intro c
  have:Snd g c (bnd m (raiseE tab)) (fun env=>standAt pos>>=fun _=>eval x env>>=fun v=>standAt pos>>=fun _=>raiseStmt env (some (pure v)) none) FlowR :=
    .stand (p:=fun _=>pos) (.bind (h c) fun a a' c1 x1 ha=>.stand (p:=fun _=>pos) (raise_ok ht ha))
  refine this.conv fun env=>?_
  rw [arm_exec_Raise]
  show (standAt pos>>=fun _=>raiseStmt env (some (eval x env>>=fun v=>standAt pos>>=fun _=>pure v)) none)=_
  unfold raiseStmt
  simp only [bind_assoc,pure_bind]
end
end T
open PySem PySem.W PySem.Calls PyProof.Rows Builtin Builtin.ObjectAttr
namespace T
noncomputable def delL (ls:List (Str × AV)) (n:Str):List (Str × AV):=match ls with
  | []=>[]
  | p::r=>cond (seq n p.1) (delL r n) (p::delL r n)
theorem seq_ne {a b c:Str} (h:seq a b=false) (q:seq c b=true):c ≠ a:=fun e=>by rw [← e,q] at h;cases h
theorem lk_delL {n y:Str} {v:AV} {ls:List (Str × AV)}:lk (delL ls n) y=some v→lk ls y=some v∧y ≠ n:=by
  induction ls with
  | nil=>exact fun h=>no_some h
  | cons p r ih =>
    intro h
    have h:lk (cond (seq n p.1) (delL r n) (p::delL r n)) y=some v:=h
    show cond (seq y p.1) (some p.2) (lk r y)=some v∧_
    cases q:seq n p.1 with
    | true =>
      rw [q] at h
      obtain ⟨h1,h2⟩:=ih h
      have:seq y p.1=false:=Bool.eq_false_iff.mpr fun z=>h2 ((seq_iff.mp z).trans (seq_iff.mp q).symm)
      rw [this]
      exact ⟨h1,h2⟩
    | false =>
      rw [q] at h
      have h:cond (seq y p.1) (some p.2) (lk (delL r n) y)=some v:=h
      cases z:seq y p.1 with
      | true=>rw [z] at h;exact ⟨h,seq_ne q z⟩
      | false=>rw [z] at h;exact ih h
noncomputable def Rd.under (rd:Rd) (i:Nat):Rd:=⟨rd.sc,some i,rd.dep,rd.off⟩
section
variable {g:Gd} {hnd:Option Nat} {dep:Nat} {c:Cc} {σ:List AObj} {fs:List Out} {A:Around} {E:Value→Shared→Prop} {s:Shared}
theorem Hp.mark (H:Hp g hnd dep c σ fs A s) {i:Nat} {ev:Addr} (hi:c.r[i]?=some ev):Hp g (some i) dep c σ fs (A.mark (some (.ref ev))) s :=
  ⟨H.st,H.base,H.w,H.frames,H.guards,H.fok,H.depth,H.units,⟨ev,hi,rfl⟩,H.gens,H.os,H.low⟩
theorem Hp.unmark {c':Cc} {σ':List AObj} {fs':List Out} {hnd':Option Nat} {v:Value} {s':Shared} (H:Hp g hnd dep c σ fs A s) (x:Ext c c') (J:Hp g hnd' dep c' σ' fs' (A.mark (some v)) s'):Hp g hnd dep c' σ' fs' A s' :=
  ⟨J.st,J.base,J.w,J.frames,J.guards,J.fok,J.depth,J.units,by
    have:=H.hnd
    cases hnd with
    | none=>exact this
    | some i=>obtain ⟨a,p,q⟩:=this;exact ⟨a,x.r _ _ p,q⟩,J.gens,J.os,J.low⟩
end
section
variable {prog:Program} {w:World} {A:Around} {E:Value→Shared→Prop} {s:Shared} {env:Env}
theorem handle_own {e C:Addr} {t:Expr} {n:Str} {b₀:Stmt} {suite:List Stmt} {pos:Pos} {rest:List ExceptHandler} {Q:Flow→Shared→Prop}
    (h:wpAny (model prog w) (A.mark (some (.ref e))) (eval t env) (fun c s₁=>c=.ref C∧(∃ d:ExcD,s₁.heap.get? C=some (d.obj C)) ∧
      (∃ oe,s₁.heap.get? e=some oe∧oe.cls=.ref C) ∧
      wpAny (model prog w) (A.mark (some (.ref e))) (setFlight (.ref e) none) (fun _ s₂ =>
          wpAny (model prog w) (A.mark (some (.ref e))) (storeName env n (.ref e)) (fun _ s₃ =>
            wpAny (model prog w) (A.mark (some (.ref e))) (execs (b₀::suite) env)
              (fun f s₄=>wpAny (model prog w) A (do bindName env n .none;unbindBehindTheSuite env n pos) (fun _ s₅=>Q f s₅) E s₄)
              (AsSuiteRaised (model prog w) (A.mark (some (.ref e))) env n pos (notedBy (model prog w) (A.mark (some (.ref e))) env (cameBackBy (model prog w) A env E))) s₃) (notedBy (model prog w) (A.mark (some (.ref e))) env (cameBackBy (model prog w) A env E)) s₂) (notedBy (model prog w) (A.mark (some (.ref e))) env (cameBackBy (model prog w) A env E)) s₁) (notedBy (model prog w) (A.mark (some (.ref e))) env (cameBackBy (model prog w) A env E)) s) :
    wpAny (model prog w) A (handleBy (.ref e) env (.ExceptHandler (some t) (some n) (b₀::suite) pos::rest)) Q E s:=by
  refine wpAny_handleBy_cons (codeAny_handlers_test (wpAny_mono h (fun c s₁ h₁=>?_) fun _ _ y=>y)) (by intro q;cases q)
  obtain ⟨rfl,⟨d,hC⟩,⟨oe,he,hcls⟩,hk⟩:=h₁
  obtain ⟨hh,g,d,tk,os⟩:=s₁
  exact wpAny_excMatches_sub_self hC he hcls rfl (codeAny_handlers_suite_as hk)
end
noncomputable def leaveR (n:Str) (r:Res AFlow) (s:AS):Option (Res AFlow × AS):=match r with
  | .ok f=>some (.ok f,{s with ls:=delL s.ls n})
  | .exc j=>exnO s.σ[j]? fun C d _=>some (.exc j,{s with ls:=delL s.ls n,σ:=s.σ.set j (.exc C d true)})
noncomputable def refR {γ:Type} (r:Res AV) (f:Addr→Option γ):Option γ:=match r with
  | .ok a=>(match a with
    | .ref C=>f C
    | _=>none)
  | .exc _=>none
noncomputable def suiteO (tab:List (Addr × Addr × Str)) (n:Str) (mh:EM AFlow) (rd:Rd) (i:Nat) (s:AS) (C:Addr):Option (Res AFlow × AS):=exnO s.σ[i]? fun C2 _ _=>gdO (Nat.beq C2 C) (gdO (memP (fun p=>Nat.beq p.1 C2) tab) (gdO (isLoc rd.sc n)
  (obn (mh.run (rd.under i) {s with ls:=(n,.mut i)::s.ls}) fun z=>leaveR n z.1 z.2)))
noncomputable def tryK (tab:List (Addr × Addr × Str)) (mt:EM AV) (n:Str) (mh:EM AFlow) (rd:Rd) (r:Res AFlow) (s:AS):Option (Res AFlow × AS):=match r with
  | .ok f=>some (.ok f,s)
  | .exc i=>exnO s.σ[i]? fun C d _=>obn (mt.run (rd.under i) {s with σ:=s.σ.set i (.exc C d true)}) fun q=>refR q.1 fun C'=>suiteO tab n mh rd i q.2 C'
theorem leaveR_mo {n:Str} {r:Res AFlow} {s:AS}:Mo s (leaveR n r s):=match r with
  | .ok _=>Mo.yes rfl
  | .exc _=>Mo.exc fun _ _ _=>Mo.yes rfl
theorem refR_mo {α:Type} {as:AS} {r:Res AV} {f:Addr→Option (Res α × AS)} (h:∀ C,Mo as (f C)):Mo as (refR r f):=by
  cases r with
  | exc i=>exact Mo.no
  | ok a=>cases a with
    | ref C=>exact h C
    | _=>exact Mo.no
theorem suiteO_mo {tab:List (Addr × Addr × Str)} {n:Str} {mh:EM AFlow} {rd:Rd} {i:Nat} {s:AS} {C:Addr}:Mo s (suiteO tab n mh rd i s C):=Mo.exc fun _ _ _=>Mo.gd (Mo.gd (Mo.gd (Mo.run rfl fun _=>leaveR_mo)))
theorem tryK_mo {tab:List (Addr × Addr × Str)} {mt:EM AV} {n:Str} {mh:EM AFlow} {rd:Rd} {r:Res AFlow} {s:AS}:Mo s (tryK tab mt n mh rd r s):=match r with
  | .ok _=>Mo.yes rfl
  | .exc _=>Mo.exc fun _ _ _=>Mo.run rfl fun _=>refR_mo fun _=>suiteO_mo
noncomputable def tryE (tab:List (Addr × Addr × Str)) (mb:EM AFlow) (mt:EM AV) (n:Str) (mh:EM AFlow):EM AFlow:=⟨fun rd s=>obn (mb.run rd s) fun p=>tryK tab mt n mh rd p.1 p.2,fun _ as r as'=>(Mo.run rfl fun _=>tryK_mo:Mo as _) (r,as')⟩
theorem refR_ok {γ:Type} {C:γ→Prop} {r:Res AV} {f:Addr→Option γ} (P:Ok C (refR r f)):∃ D,r=.ok (.ref D)∧Ok C (f D):=by
  cases r with
  | exc i=>exact P.elim
  | ok a=>cases a with
    | ref D=>exact ⟨D,rfl,P⟩
    | _=>exact P.elim
section
variable {g:Gd}
theorem fr_local {rd:Rd} {c:Cc} {f:Frm} {outs:List Out} {lm:Str→Option Value} {as:AS} {A:Around} {s:Shared} (I:Inv g rd c f outs lm as A s):(f.env.scope.kind == .class || (f.env.scope.kind == .module && f.env.locals != f.env.globals))=false:=by
  have:=(I.hp.fok ⟨f.env,lm⟩ (.head _)).2
  have e:f.env.scope.kind=.function:=this
  rw [e];rfl
theorem nameGoes_ok {rd:Rd} {c:Cc} {f:Frm} {outs:List Out} {lm:Str→Option Value} {as:AS} {A:Around} {s:Shared} {n:Str} {pos:Pos} {E:Value→Shared→Prop} {Q:Unit→Shared→Prop} (I:Inv g rd c f outs lm as A s)
    (hn:lk rd.sc.names n=some .local) (k:∀ lm' s',Inv g rd c f outs lm' {as with ls:=delL as.ls n} A s'→Q () s'):wpAny (model g.prog g.w) A (do bindName f.env n .none;unbindBehindTheSuite f.env n pos) Q E s:=by
  rw [lk_eq,← I.sc] at hn
  refine wpAny_nameGoes_keeps hn (I.hp.st.fr _ (.head _)) (fr_local I) fun h' v hn' hs=>?_
  exact k (fun x=>if x=n then v else lm x) _ ⟨I.hp.store hs hn',fun y b hy=>let ⟨h1,h2⟩:=lk_delL hy;let ⟨v',p,z⟩:=I.ls y b h1;⟨v',(if_neg h2).trans p,z⟩,I.sc,I.room⟩
theorem Inv.setσ {rd:Rd} {c c':Cc} {f:Frm} {outs:List Out} {lm:Str→Option Value} {as:AS} {σ':List AObj} {A A':Around} {s s':Shared} {hnd':Option Nat} (I:Inv g rd c f outs lm as A s) (x:Ext c c') (H:Hp g hnd' rd.dep c' σ' (⟨f.env,lm⟩::outs) A' s') :
    Inv g ⟨rd.sc,hnd',rd.dep,rd.off⟩ c' f outs lm {as with σ:=σ'} A' s':=⟨H,fun y v hy=>let ⟨v',p,z⟩:=I.ls y v hy;⟨v',p,z.mono x⟩,I.sc,I.room⟩
theorem S_try {tab:List (Addr × Addr × Str)} (ht:∀ p∈tab,ExcAttr g.K p.1 p.2.1 p.2.2) {b:List Stmt} {t:Expr} {n:Str} {b₀:Stmt} {suite:List Stmt} {hpos pos:Pos} {mb:EM AFlow} {mt:EM AV} {mh:EM AFlow}
    (hb:SS g mb b) (hmt:SE g mt t) (hh:SS g mh (b₀::suite)):SS1 g (tryE tab mb mt n mh) (.Try b [.ExceptHandler (some t) (some n) (b₀::suite) hpos] [] [] pos):=fun c₀=>.q fun rd as c f outs lm A s Q E C x I ob kk P=>by
  rw [arm_exec_Try]
  refine wpAny_bind (wpAny_standAt (wpAny_tryStmt_except ?_))
  refine (hb c).run (.refl c) I (fun _ _ P=>tryK_mo.obl P ob) (fun r as1 c1 lm1 s1' P x1 I1=>?_) (EOk.run P)
  cases r with
  | ok fl =>
    intro fl' hfl
    have K:=kk _ _ c1 lm1 s1' P x1 I1 fl' hfl
    cases hfl with
    | next=>exact wpAny_pure K
    | ret hv=>exact K
  | exc i =>
    refine fun ev hev _=>Ok.exnO P fun D d t hi P=>?_
    obtain ⟨r2,s2,e2,P⟩:=EOk.get (EOk.run P)
    obtain ⟨C9,er,P⟩:=refR_ok P
    have er:r2=.ok (.ref C9):=er
    rw [er] at e2
    have P:EOk C (suiteO tab n mh rd i s2 C9):=P
    have o3:=suiteO_mo.obl P ob
    refine Ok.exnO P fun C2 d2 tr2 hi2 P=>P.gdO fun hC P=>P.gdO fun hmem P=>P.gdO fun hloc P=>?_
    obtain ⟨p9,hm9,hC9⟩:=memP_iff.mp hmem
    obtain ⟨_,_,_,_,_,_,_,h8⟩:=ht _ hm9
    rw [Nat.eq_of_beq_eq_true hC9,Nat.eq_of_beq_eq_true hC] at h8
    rw [Nat.eq_of_beq_eq_true hC] at hi2
    have P:=EOk.run P
    obtain ⟨ed,hl,_,_⟩:=h8
    refine noteFrame_ok (o:=⟨f.env,lm1⟩) I1.hp hev hi fun c2 s2' x2 H2=>?_
    have hev2:=x2.r _ _ hev
    refine setFlight_ok (C:=D) (d:=d) H2 hev2 ⟨true,set_self' hi⟩ fun s3' H3=>handle_own (C:=C9) ?_
    have J3:Inv g (rd.under i) c2 f outs lm1 {as1 with σ:=as1.σ.set i (.exc D d true)} (A.mark (some (.ref ev))) s3':=I1.setσ x2 (H3.mark hev2)
    refine hmt c2 (rd.under i) _ _ _ e2 c2 f outs lm1 _ s3' _ _ (.refl c2) J3 o3 fun c4 lm4 s4' x4 I4=>?_
    refine fun cv hcv=>hcv.elim (G:=fun cv=>cv=.ref C9∧_) ?_
    obtain ⟨oe,hoe,hcl,_⟩:=I4.hp.st.at (x4.r _ _ hev2) hi2
    refine ⟨rfl,⟨ed,I4.hp.K _ _ hl⟩,⟨oe,hoe,hcl⟩,?_⟩
    refine setFlight_ok (C:=C9) (d:=d2) I4.hp (x4.r _ _ hev2) ⟨tr2,hi2⟩ fun s5' H5=>?_
    have hloc':f.env.scope.names.lookup n=some .local:=by rw [show f.env.scope=rd.sc from I4.sc];exact isLoc_ok hloc
    refine wpAny_storeName_local hloc' (H5.st.fr _ (.head _)) (fun h' hn hs=>?_) (fr_local I4)
    have I5:Inv g (rd.under i) c4 f outs (fun y=>if y=n then some (.ref ev) else lm4 y) {s2 with ls:=(n,.mut i)::s2.ls} (A.mark (some (.ref ev))) {s5' with heap:=h',toks:=s5'.toks+1}:=⟨H5.store hs hn,ls_put (.mut (x4.r _ _ hev2)) I4.ls,I4.sc,I4.room⟩
    have hlk:lk rd.sc.names n=some .local:=(lk_eq ..).trans (isLoc_ok hloc)
    refine (hh c4).run (.refl c4) I5 (fun _ _ P=>leaveR_mo.obl P ob) (fun r3 s3 c6 lm6 s6' P x6 I6=>?_) P
    have X:Ext c c6:=(x1.trans x2).trans (x4.trans x6)
    have x46:=x4.trans x6
    cases r3 with
    | ok fl =>
      refine fun fl' hfl=>nameGoes_ok (I6.setσ (.refl c6) (H3.unmark x46 I6.hp):Inv g rd c6 f outs lm6 s3 A s6') hlk fun lm7 s7 I7'=>kk (.ok fl) _ c6 lm7 s7 P X I7' fl' hfl
    | exc j =>
      refine fun ev3 hev3 _=>Ok.exnO P fun C3 d3 tr3 hj P=>noteFrame_ok (o:=⟨f.env,lm6⟩) I6.hp hev3 hj fun c7 s7' x7 H7=>?_
      have I7:Inv g (rd.under i) c7 f outs lm6 {s3 with σ:=s3.σ.set j (.exc C3 d3 true)} (A.mark (some (.ref ev))) s7':=I6.setσ x7 H7
      have hev7:=x7.r _ _ hev3
      refine nameGoes_ok I7 hlk fun lm8 s8 I8=>passOn_ok (α:=Flow) (what := "try.except-as") (o:=⟨f.env,lm8⟩) (i:=j) (e:=ev3) (C:=C3) (d:=d3) I8.hp hev7 (set_self' hj) fun s9 H9=>?_
      refine noted_E (A:=A) (A':=A.mark (some (.ref ev))) (hnd:=rd.hnd) (hnd':=some i) (o:=⟨f.env,lm8⟩) (os:=outs) (C:=C3) (d:=d3) (tr:=true) (i:=j) H9 (fun _ _ _ x' h=>H3.unmark (x46.trans (x7.trans x')) h) hev7 (set_self' hj) fun c10 s10 x10 H10=>?_
      rw [List.set_set] at H10
      exact kk (.exc j) _ c10 lm8 s10 P ((X.trans x7).trans x10) (I8.setσ x10 H10:Inv g rd c10 f outs lm8 {s3 with ls:=delL s3.ls n,σ:=s3.σ.set j (.exc C3 d3 true)} A s10) ev3 (x10.r _ _ hev7) ⟨C3,d3,true,set_self' hj⟩
end
noncomputable def nextR {γ:Type} (r:Res AFlow) (x:Option γ):Option γ:=match r with
  | .ok f=>(match f with
    | .next=>x
    | .ret _=>none)
  | .exc _=>none
noncomputable def finK (mf:EM AFlow) (rd:Rd) (r:Res AFlow) (s:AS):Option (Res AFlow × AS):=match r with
  | .ok f=>obn (mf.run rd s) fun q=>nextR q.1 (some (.ok f,q.2))
  | .exc i=>exnO s.σ[i]? fun C d _=>obn (mf.run (rd.under i) {s with σ:=s.σ.set i (.exc C d true)}) fun q=>nextR q.1 (exnO q.2.σ[i]? fun _ _ t=>gdO t (some (.exc i,q.2)))
theorem nextR_ok {γ:Type} {C:Option γ→Prop} (h0:C none) {r:Res AFlow} {x:Option γ} (h:r=.ok .next→C x):C (nextR r x):=by
  cases r with
  | exc i=>exact h0
  | ok f=>cases f with
    | next=>exact h rfl
    | ret v=>exact h0
theorem finK_mo {mf:EM AFlow} {rd:Rd} {r:Res AFlow} {s:AS}:Mo s (finK mf rd r s):=match r with
  | .ok _=>Mo.run rfl fun p=>nextR_ok (C:=Mo p.2) Mo.no fun _=>Mo.yes rfl
  | .exc _=>Mo.exc fun _ _ _=>Mo.run rfl fun p=>nextR_ok (C:=Mo p.2) Mo.no fun _=>Mo.exc fun _ _ _=>Mo.gd (Mo.yes rfl)
noncomputable def finE (mb mf:EM AFlow):EM AFlow:=⟨fun rd s=>obn (mb.run rd s) fun p=>finK mf rd p.1 p.2,fun _ as r as'=>(Mo.run rfl fun _=>finK_mo:Mo as _) (r,as')⟩
theorem nextR_get {γ:Type} {C:γ→Prop} {G:Prop} {r:Res AFlow} {x:Option γ} (P:Ok C (nextR r x)) (h:r=.ok .next→Ok C x→G):G:=nextR_ok (C:=fun o=>Ok C o→G) Ok.no h P
section
variable {g:Gd}
theorem S_fin {b:List Stmt} {f₀:Stmt} {fs:List Stmt} {pos:Pos} {mb mf:EM AFlow} (hb:SS g mb b) (hf:SS g mf (f₀::fs)):SS1 g (finE mb mf) (.Try b [] [] (f₀::fs) pos):=fun c₀=>.q fun rd as c f outs lm A s Q E C x I ob kk P=>by
  refine wpAny_Try_finally ?_
  refine (hb c).run (.refl c) I (fun _ _ P=>finK_mo.obl P ob) (fun r as1 c1 lm1 s1' P x1 I1=>?_) (EOk.run P)
  cases r with
  | ok fl =>
    intro fl' hfl
    have main:∀ E',wpAny (model g.prog g.w) A (execs (f₀::fs) f.env) (fun g s'=>match g with | .next=>Q fl' s' | g=>Q g s') E' s1':=fun E'=>by
      obtain ⟨r2,s2,e2,P⟩:=EOk.get (EOk.run P)
      refine nextR_get P fun er P=>?_
      rw [show r2=.ok .next from er] at e2
      refine hf c rd as1 _ _ e2 c1 f outs lm1 A s1' _ _ x1 I1 (ob _ _ P) fun c2 lm2 s2' x2 I2 g' hg'=>?_
      cases hg'
      exact kk _ _ c2 lm2 s2' P (x1.trans x2) I2 fl' (hfl.mono x2)
    cases hfl with
    | next=>exact wpAny_pure (main _)
    | ret hv=>exact main _
  | exc i =>
    refine fun ev hev _=>Ok.exnO P fun D d t hi P=>?_
    obtain ⟨r2,s2,e2,P⟩:=EOk.get (EOk.run P)
    refine nextR_get P fun er P=>P.exnO fun C2 d2 t2 hi2 P=>P.gdO fun ht P=>?_
    rw [show r2=.ok .next from er] at e2
    rw [ht] at hi2
    refine noteFrame_ok (o:=⟨f.env,lm1⟩) I1.hp hev hi fun c2 s2' x2 H2=>⟨(fun z=>nomatch z),?_⟩
    have hev2:=x2.r _ _ hev
    refine noteFrame_ok (o:=⟨f.env,lm1⟩) H2 hev2 (set_self' hi) fun c3 s3' x3 H3=>?_
    rw [List.set_set] at H3
    have hev3:=x3.r _ _ hev2
    refine setFlight_ok (C:=D) (d:=d) H3 hev3 ⟨true,set_self' hi⟩ fun s4 H4=>?_
    have J4:Inv g (rd.under i) c3 f outs lm1 {as1 with σ:=as1.σ.set i (.exc D d true)} (A.mark (some (.ref ev))) s4:=I1.setσ (x2.trans x3) (H4.mark hev3)
    refine hf c3 (rd.under i) _ _ _ e2 c3 f outs lm1 _ s4 _ _ (.refl c3) J4 (ob _ _ P) fun c5 lm5 s5 x5 I5 g' hg'=>?_
    cases hg'
    refine passOn_ok (α:=Flow) (what := "try.finally") (o:=⟨f.env,lm5⟩) (i:=i) (e:=ev) (C:=C2) (d:=d2) (H4.unmark x5 I5.hp) (x5.r _ _ hev3) hi2 fun s9 H9=>?_
    exact kk _ _ c5 lm5 s9 P ((x1.trans x2).trans (x3.trans x5)) (I5.setσ (.refl c5) H9:Inv g rd c5 f outs lm5 s2 A s9) ev (x5.r _ _ hev3) ⟨C2,d2,true,hi2⟩
end
end T
namespace T
noncomputable def intOf:AV→Option (Bool × Int)
  | .int i=>some (true,i)
  | .si i=>some (false,i)
  | _=>none
noncomputable def strOf:AV→Option (Bool × Str)
  | .str i=>some (true,i)
  | .ss i=>some (false,i)
  | _=>none
noncomputable def mkI:Bool→Int→AV
  | true,i=>.int i
  | false,i=>.si i
noncomputable def mkS:Bool→Str→AV
  | true,i=>.str i
  | false,i=>.ss i
theorem intOf_ok {c:Cc} {a:AV} {v:Value} {l:Bool} {i:Int} (h:VRel c a v):intOf a=some (l,i)→∃ t,v=.int i t:=by
  refine VRel.casesOn (motive_1:=fun a v _=>intOf a=some (l,i)→∃ t,v=.int i t) h ?_ ?_ (fun i t e=>⟨t,congrArg (Value.int · t) (congrArg Prod.snd (Option.some.inj e))⟩) (fun i t e=>⟨t,congrArg (Value.int · t) (congrArg Prod.snd (Option.some.inj e))⟩) ?_ ?_ ?_ ?_ ?_ ?_ ?_ ?_ ?_ ?_ ?_ ?_ ?_ ?_ ?_<;>(intros;exact no_some ‹_›)
theorem strOf_ok {c:Cc} {a:AV} {v:Value} {l:Bool} {i:Str} (h:VRel c a v):strOf a=some (l,i)→∃ t,v=.str i t:=by
  refine VRel.casesOn (motive_1:=fun a v _=>strOf a=some (l,i)→∃ t,v=.str i t) h ?_ ?_ ?_ ?_ (fun i t e=>⟨t,congrArg (Value.str · t) (congrArg Prod.snd (Option.some.inj e))⟩) (fun i t e=>⟨t,congrArg (Value.str · t) (congrArg Prod.snd (Option.some.inj e))⟩) ?_ ?_ ?_ ?_ ?_ ?_ ?_ ?_ ?_ ?_ ?_ ?_ ?_<;>(intros;exact no_some ‹_›)
noncomputable def intO {γ:Type} (a:AV) (f:Bool→Int→Option γ) (d:Option γ):Option γ:=match intOf a with
  | some p=>f p.1 p.2
  | none=>d
noncomputable def strO {γ:Type} (a:AV) (f:Bool→Str→Option γ) (d:Option γ):Option γ:=match strOf a with
  | some p=>f p.1 p.2
  | none=>d
noncomputable def int2 {γ:Type} (a b:AV) (f:Bool→Int→Int→Option γ) (d:Option γ):Option γ:=intO a (fun l i=>intO b (fun m j=>f (l && m) i j) d) d
noncomputable def str2 {γ:Type} (a b:AV) (f:Bool→Str→Str→Option γ) (d:Option γ):Option γ:=strO a (fun l i=>strO b (fun m j=>f (l && m) i j) d) d
noncomputable def litO {γ:Type} (a:AV) (f:Int→Option γ):Option γ:=match a with
  | .int i=>f i
  | _=>none
theorem Ok.litO {γ:Type} {C:γ→Prop} {c:Cc} {G:Value→Prop} {a:AV} {v:Value} {f:Int→Option γ} (P:Ok C (T.litO a f)) (hv:VRel c a v) (h:∀ i t,Ok C (f i)→G (.int i t)):G v:=by
  cases a with
  | int i=>exact hv.elim fun t=>h i t P
  | _=>exact P.no
section
variable {γ:Type} {C:γ→Prop} {c:Cc} {a b:AV} {v w:Value} {d:Option γ}
theorem Ok.intO {G:Value→Prop} {f:Bool→Int→Option γ} (P:Ok C (T.intO a f d)) (hv:VRel c a v) (h:∀ l i t,intOf a=some (l,i)→Ok C (f l i)→G (.int i t)) (hd:Ok C d→G v):G v:=by
  unfold T.intO at P
  cases e:intOf a with
  | none=>rw [e] at P;exact hd P
  | some p=>rw [e] at P;obtain ⟨t,q⟩:=intOf_ok hv e;rw [q];exact h _ _ t e P
theorem Ok.strO {G:Value→Prop} {f:Bool→Str→Option γ} (P:Ok C (T.strO a f d)) (hv:VRel c a v) (h:∀ l i t,strOf a=some (l,i)→Ok C (f l i)→G (.str i t)) (hd:Ok C d→G v):G v:=by
  unfold T.strO at P
  cases e:strOf a with
  | none=>rw [e] at P;exact hd P
  | some p=>rw [e] at P;obtain ⟨t,q⟩:=strOf_ok hv e;rw [q];exact h _ _ t e P
theorem Ok.int2 {G:Value→Value→Prop} {f:Bool→Int→Int→Option γ} (P:Ok C (T.int2 a b f d)) (hv:VRel c a v) (hw:VRel c b w) (h:∀ l i j t u,Ok C (f l i j)→G (.int i t) (.int j u)) (hd:Ok C d→G v w):G v w :=
  (show Ok C d∨¬ Ok C d from Classical.em _).elim hd fun n=>Ok.intO (G:=fun v=>G v w) P hv (fun _ _ t _ P=>Ok.intO (G:=G (.int _ t)) P hw (fun _ _ u _ P=>h _ _ _ t u P) fun P=>absurd P n) fun P=>absurd P n
theorem Ok.str2 {G:Value→Value→Prop} {f:Bool→Str→Str→Option γ} (P:Ok C (T.str2 a b f d)) (hv:VRel c a v) (hw:VRel c b w) (h:∀ l i j t u,Ok C (f l i j)→G (.str i t) (.str j u)) (hd:Ok C d→G v w):G v w :=
  (show Ok C d∨¬ Ok C d from Classical.em _).elim hd fun n=>Ok.strO (G:=fun v=>G v w) P hv (fun _ _ t _ P=>Ok.strO (G:=G (.str _ t)) P hw (fun _ _ u _ P=>h _ _ _ t u P) fun P=>absurd P n) fun P=>absurd P n
end
theorem mkI_ok (c:Cc) (l:Bool) (i:Int) (t:Tok):VRel c (mkI l i) (.int i t):=by
  cases l
  · exact .si _ _
  · exact .int _ _
theorem mkS_ok (c:Cc) (l:Bool) (i:Str) (t:Tok):VRel c (mkS l i) (.str i t):=by
  cases l
  · exact .ss _ _
  · exact .str _ _
noncomputable def cat (x y:Str):Str:=⟨⟨x.cps.toList++y.cps.toList⟩⟩
theorem cat_eq (x y:Str):x++y=cat x y:=by
  obtain ⟨⟨x⟩⟩:=x
  obtain ⟨⟨y⟩⟩:=y
  show Str.append _ _=_
  simp [Str.append,cat]
noncomputable def slen (x:Str):Nat:=x.cps.toList.length
theorem slen_eq (x:Str):x.length=slen x:=by
  obtain ⟨⟨x⟩⟩:=x;rfl
noncomputable def small (i:Int):Bool:=Nat.blt i.natAbs 1000000000000
theorem small_mul {a b:Int} (h:small a=true):IntMulOk a b:=by
  have:=Nat.le_of_ble_eq_true h
  exact .of_left (intBits_le_64 (by omega) (by omega))
noncomputable def posI (j:Int) (f:Nat→Option Int):Option Int:=match j with
  | .ofNat m=>(match m with
    | 0=>none
    | n+1=>f n)
  | .negSucc _=>none
noncomputable def natI {γ:Type} (j:Int) (f:Nat→Option γ):Option γ:=match j with
  | .ofNat n=>f n
  | .negSucc _=>none
noncomputable def gd0 {γ:Type} (b:Bool) (x:γ):Option γ:=match b with
  | true=>some x
  | false=>none
noncomputable def intBin (op:Operator) (i j:Int):Option Int:=match op with
  | .Add=>some (i+j)
  | .Sub=>some (i - j)
  | .Mult=>gd0 (small i) (i * j)
  | .FloorDiv=>posI j fun n=>gd0 (Nat.blt n 100000000000) (i.fdiv j)
  | .Mod=>posI j fun _=>some (i.fmod j)
  | .Pow=>natI j fun n=>gd0 (pk (decide (i=8)) (Nat.blt n 21) false) (.ofNat (8 ^ n))
  | _=>none
noncomputable def strBin (op:Operator) (a b:AV) (orc:List Orc) (σ:List AObj):Option (AR AV):=match op with
  | .Add=>str2 a b (fun l x y=>pk l (gdO (Nat.blt (slen x+slen y) 100000) (some (.str (cat x y),σ,[],orc))) (some (.ss (cat x y),σ,[slen x+slen y≤sizeLine],orc))) none
  | _=>none
noncomputable def opBin (op:Operator) (a b:AV):Rd→List Orc→List AObj→Option (AR AV):=fun _ orc σ=>int2 a b (fun l i j=>obn (intBin op i j) fun k=>some (mkI l k,σ,[],orc))
  (strBin op a b orc σ)
theorem sizeLine_big:100000≤sizeLine:=by decide
theorem gd0_ok {γ:Type} {b:Bool} {x y:γ} (e:gd0 b x=some y):b=true∧x=y:=by
  cases b with
  | true=>exact ⟨rfl,Option.some.inj e⟩
  | false=>exact no_some e
theorem natI_ok {γ:Type} {j:Int} {f:Nat→Option γ} {y:γ} (e:natI j f=some y):∃ n:Nat,j=(n:Int)∧f n=some y:=by
  cases j with
  | ofNat n=>exact ⟨n,rfl,e⟩
  | negSucc n=>exact no_some e
theorem posI_ok {j:Int} {f:Nat→Option Int} {y:Int} (e:posI j f=some y):∃ n:Nat,j=(n:Int)+1∧f n=some y:=by
  cases j with
  | ofNat n=>cases n with
    | zero=>exact no_some e
    | succ n=>exact ⟨n,rfl,e⟩
  | negSucc n=>exact no_some e
theorem nz1 (n:Nat):¬ ((n:Int)+1 == 0)=true:=by simp;omega
theorem small8:∀ m:Nat,m < 21→¬ Builtin.Int.intTooBig (((Builtin.Int.intBits 8:Nat):Int) * (m:Nat))=true:=by decide +kernel
theorem pow8 (n:Nat):Int.ofNat (8 ^ n)=(8:Int) ^ ((n:Int)).toNat:=by show ((8 ^ n:Nat):Int)=_;rw [Int.natCast_pow];rfl
theorem plong (i:Int) {n:Nat} (h:n < 100000000000):¬ Builtin.divisionGoesByPylong i ((n:Int)+1)=true:=by
  rw [PyProof.noPylong_of_log2]
  · simp
  · show Nat.log2 (n+1) < 9000
    exact Nat.lt_of_lt_of_le ((Nat.log2_lt (k:=64) (by omega)).mpr (by omega)) (by decide)
section
variable {prog:Program} {w:World} {A:Around} {Q:Value→Shared→Prop} {E:Value→Shared→Prop} {s:Shared} {i j k:Int} {t u:Tok}
theorem div_ok (e:intBin .FloorDiv i j=some k) (fin:(Made.int k).post Q s):wpAny (model prog w) A (binaryOp .FloorDiv (.int i t) (.int j u)) Q E s:=by
  obtain ⟨n,h1,e⟩:=posI_ok e
  obtain ⟨e,h2⟩:=gd0_ok e
  rw [← h2] at fin
  rw [h1] at fin ⊢
  exact AutoIntOps.floordiv_1 (nz1 n) (plong i (Nat.le_of_ble_eq_true e)) fin
theorem mod_ok (e:intBin .Mod i j=some k) (fin:(Made.int k).post Q s):wpAny (model prog w) A (binaryOp .Mod (.int i t) (.int j u)) Q E s:=by
  obtain ⟨n,h1,e⟩:=posI_ok e
  rw [← Option.some.inj e] at fin
  rw [h1] at fin ⊢
  exact AutoIntOps.mod_1 (nz1 n) fin
theorem pow_ok (e:intBin .Pow i j=some k) (fin:(Made.int k).post Q s):wpAny (model prog w) A (binaryOp .Pow (.int i t) (.int j u)) Q E s:=by
  obtain ⟨n,h1,e⟩:=natI_ok e
  obtain ⟨e,h2⟩:=gd0_ok e
  rw [← h2,pow8] at fin
  rw [h1]
  cases q:decide (i=8) with
  | false=>rw [q] at e;cases e
  | true =>
    rw [q] at e
    rw [of_decide_eq_true q]
    cases n with
    | zero=>exact AutoIntOps.pow_0 (by decide) (by decide) fin
    | succ m=>exact AutoIntOps.pow_4 (Int.natCast_nonneg _) (nz1 m) (by decide) (by decide) (small8 _ (Nat.le_of_ble_eq_true e)) fin
theorem intBin_ok {op:Operator} (e:intBin op i j=some k) (fin:(Made.int k).post Q s):wpAny (model prog w) A (binaryOp op (.int i t) (.int j u)) Q E s:=by
  cases op with
  | Add=>exact AutoIntOps.add_0 (Option.some.inj e▸fin)
  | Sub=>exact AutoIntOps.sub_0 (Option.some.inj e▸fin)
  | Mult=>exact AutoIntOps.mul_0 ((gd0_ok e).2▸fin) (small_mul (gd0_ok e).1)
  | FloorDiv=>exact div_ok e fin
  | Mod=>exact mod_ok e fin
  | Pow=>exact pow_ok e fin
  | _=>exact no_some e
end
theorem strBin_ok {C:AR AV→Prop} {G:Operator→Prop} {a b:AV} {orc:List Orc} {σ:List AObj}:∀ {op:Operator},Ok C (strBin op a b orc σ)→(Ok C (str2 a b (fun l x y=>pk l (gdO (Nat.blt (slen x+slen y) 100000) (some (.str (cat x y),σ,[],orc))) (some (.ss (cat x y),σ,[slen x+slen y≤sizeLine],orc))) none)→G .Add)→G op:=by
  intro op P h
  cases op with
  | Add=>exact h P
  | _=>exact P.no
theorem leaf_bin {g:Gd} {c₀:Cc} {op:Operator} {a b:AV} {a' b':Value} (ha:VRel c₀ a a') (hb:VRel c₀ b b'):LeafN g c₀ (opBin op a b) (binaryOp op a' b') VRel :=
  .q fun rd orc σ c fs A s Q E C x H k o P=>P.int2 (G:=fun a b=>wpAny (model g.prog g.w) A (binaryOp op a b) Q E s) ha hb
    (fun _ _ _ _ _ P=>P.obn fun _ e P=>intBin_ok e (k _ _ _ _ c _ _ P (.refl c) (H.tick _) (mkI_ok ..))) fun P=>strBin_ok (G:=fun op=>wpAny (model g.prog g.w) A (binaryOp op a' b') Q E s) P fun P=>P.str2 (G:=fun a b=>wpAny (model g.prog g.w) A (binaryOp .Add a b) Q E s) ha hb
      (fun _ y1 y2 _ _ P=>P.pk (fun _ P=>P.gdO fun e3 P=>PyProof.Rows.add_str (fun _ _=>k _ _ _ _ c _ _ P (.refl c) (H.tick _) (cat_eq y1 y2▸.str _ _)) (by rw [slen_eq,slen_eq];exact Nat.le_trans (Nat.le_of_lt (Nat.le_of_ble_eq_true e3)) sizeLine_big))
        fun _ P=>PyProof.Rows.add_str (fun _ _=>k _ _ _ _ c _ _ P (.refl c) (H.tick _) (cat_eq y1 y2▸.ss _ _)) (by rw [slen_eq,slen_eq];exact (o _ P).1)) Ok.no
end T
namespace T
noncomputable def intCmp (op:CmpOp) (i j:Int):Option Bool:=match op with
  | .Eq=>some (i == j)
  | .NotEq=>some (i != j)
  | .Lt=>some (decide (i < j))
  | .LtE=>some (decide (i≤j))
  | .Gt=>some (decide (i > j))
  | .GtE=>some (decide (i ≥ j))
  | _=>none
noncomputable def strCmp (op:CmpOp) (x y:Str):Option Bool:=match op with
  | .Eq=>some (seq x y)
  | .NotEq=>some (!(seq x y))
  | _=>none
inductive Pw (R:AV→AV→Prop):List AV→List AV→Prop
  | nil:Pw R [] []
  | cons {a b as bs}:R a b→Pw R as bs→Pw R (a::as) (b::bs)
inductive AEq0:AV→AV→Prop
  | int {a b l1 l2 i}:intOf a=some (l1,i)→intOf b=some (l2,i)→AEq0 a b
  | str {a b l1 l2 x}:strOf a=some (l1,x)→strOf b=some (l2,x)→AEq0 a b
  | bool (b):AEq0 (.bool b) (.bool b)
  | none:AEq0 .none .none
noncomputable abbrev AEq0s:=Pw AEq0
inductive AEq:AV→AV→Prop
  | sc {a b}:AEq0 a b→AEq a b
  | tup {vs ws}:AEq0s vs ws→AEq (.tup vs) (.tup ws)
noncomputable abbrev AEqs:=Pw AEq
theorem AEq0.at {c:Cc} {a b:AV} {x y:Value} (h:AEq0 a b) (hx:VRel c a x) (hy:VRel c b y) (A:Around) (s:Shared):SeqAt.EqAt A s x y true:=by
  cases h with
  | @int _ _ _ _ i e1 e2 =>
    obtain ⟨t,e1⟩:=intOf_ok hx e1
    obtain ⟨u,e2⟩:=intOf_ok hy e2
    rw [e1,e2,← beq_self_eq_true i]
    exact SeqAt.EqAt.int_int i t i u
  | @str _ _ _ _ y e1 e2 =>
    obtain ⟨t,e1⟩:=strOf_ok hx e1
    obtain ⟨u,e2⟩:=strOf_ok hy e2
    rw [e1,e2,← beq_self_eq_true y]
    exact SeqAt.EqAt.str_str y t y u
  | bool b=>rw [bool_rel hx,bool_rel hy];exact SeqAt.EqAt.same _
  | none=>rw [one_rel hx,one_rel hy];exact SeqAt.EqAt.same _
noncomputable def EqL (A:Around) (s:Shared) (x y:List Value):Prop:=x.length=y.length∧∀ (j:Nat) (h1:j < x.length) (h2:j < y.length),SeqAt.EqAt A s x[j] y[j] true
theorem EqL.cons {A:Around} {s:Shared} {a b:Value} {x y:List Value} (h:SeqAt.EqAt A s a b true) (t:EqL A s x y):EqL A s (a::x) (b::y) :=
  ⟨congrArg (·+1) t.1,fun j=>Nat.casesOn j (fun _ _=>h) fun j h1 h2=>t.2 j (Nat.lt_of_succ_lt_succ h1) (Nat.lt_of_succ_lt_succ h2)⟩
theorem Pw.at {c:Cc} {R:AV→AV→Prop} {A:Around} {s:Shared} (hR:∀ {a b x y},R a b→VRel c a x→VRel c b y→SeqAt.EqAt A s x y true) {as bs:List AV} (h:Pw R as bs):∀ {xs ys:List Value},VRels c as xs→VRels c bs ys→EqL A s xs ys:=by
  induction h with
  | nil=>intro xs ys hx hy;cases hx;cases hy;exact ⟨rfl,fun j h=>absurd h (Nat.not_lt_zero j)⟩
  | cons r _ ih=>intro xs ys hx hy;cases hx with | cons hx tx=>cases hy with | cons hy ty=>exact (ih tx ty).cons (hR r hx hy)
theorem all_true (n:Nat):(List.range n).all (fun _=>true)=true:=by simp
theorem isTuple_of {g:Gd} {hnd:Option Nat} {dep:Nat} {c:Cc} {σ:List AObj} {fs:List Out} {A:Around} {s:Shared} (H:Hp g hnd dep c σ fs A s) {vs:List AV} {x:Value} (h:VRel c (.tup vs) x) :
    ∃ (a:Addr) (vals:List Value),x=.ref a∧VRels c vs vals∧s.heap.IsTuple a vals.toArray :=
  h.elim (G:=fun x=>∃ (a:Addr) (vals:List Value),x=.ref a∧VRels c vs vals∧s.heap.IsTuple a vals.toArray) fun a vals g q=>⟨a,vals.toList,rfl,q,_,H.st.keep _ _ (.inl g),rfl,0,rfl⟩
theorem EqL.tup {A:Around} {s:Shared} {x y:List Value} (q:EqL A s x y):((List.range (min x.toArray.size y.toArray.size)).all (fun _=>true) && x.toArray.size == y.toArray.size)=true:=by
  rw [all_true,show x.toArray.size=y.toArray.size from q.1,beq_self_eq_true];rfl
theorem AEq.at {g:Gd} {hnd:Option Nat} {dep:Nat} {c:Cc} {σ:List AObj} {fs:List Out} {A:Around} {s:Shared} (H:Hp g hnd dep c σ fs A s) {A':Around} (hu:A'.units < cLine) {a b:AV} {x y:Value} (h:AEq a b) (hx:VRel c a x) (hy:VRel c b y) :
    SeqAt.EqAt A' s x y true:=by
  cases h with
  | sc h=>exact h.at hx hy A' s
  | tup h =>
    obtain ⟨p,v1,rfl,q1,t1⟩:=isTuple_of H hx
    obtain ⟨p',v2,rfl,q2,t2⟩:=isTuple_of H hy
    have q:EqL A'.in1 s v1 v2:=h.at (fun h hx hy=>h.at hx hy A'.in1 s) q1 q2
    by_cases e:p=p'
    · rw [e];exact SeqAt.EqAt.same _
    · refine SeqAt.EqAt.of_refs e ?_
      rw [← q.tup]
      exact SeqAt.RcAt.tuples t1 t2 hu fun j h1 h2=>q.2 j h1 h2
noncomputable def isNone:AV→Option Bool
  | .none=>some true
  | .any=>none
  | .op _=>none
  | .bi _=>none
  | _=>some false
noncomputable def btC {γ:Type} (a:AV) (fb:Bool→Option γ) (ft:List AV→Option γ) (d:Option γ):Option γ:=match a with
  | .bool b=>fb b
  | .tup vs=>ft vs
  | _=>d
noncomputable def cmpR (op:CmpOp) (a b:AV) (rd:Rd) (orc:List Orc) (σ:List AObj):Option (AR AV):=match op with
  | .Is=>noneO b (obn (isNone a) fun k=>some (.bool k,σ,[],orc))
  | .IsNot=>noneO b (obn (isNone a) fun k=>some (.bool (!k),σ,[],orc))
  | .NotEq=>btC a (fun p=>btC b (fun q=>some (.bool (xor p q),σ,[],orc)) (fun _=>none) none) (fun vs=>btC b (fun _=>none) (fun ws=>some (.bool false,σ,[AEq0s vs ws,rd.dep≤600],orc)) none)
      (lsO σ a fun vs=>lsO σ b fun ws=>some (.bool false,σ,[AEqs vs ws,rd.dep≤600],orc))
  | .Eq=>lsO σ a fun vs=>lsO σ b fun ws=>some (.bool true,σ,[AEqs vs ws,rd.dep≤600],orc)
  | _=>none
noncomputable def opCmp (op:CmpOp) (a b:AV):Rd→List Orc→List AObj→Option (AR AV):=fun rd orc σ=>int2 a b (fun l i j=>obn (intCmp op i j) fun k=>ansN false k l orc σ)
  (str2 a b (fun l x y=>obn (strCmp op x y) fun k=>ansN false k l orc σ) (cmpR op a b rd orc σ))
section
variable {γ:Type} {C:γ→Prop} {c:Cc} {a:AV} {v:Value} {G:Value→Prop}
theorem Ok.btC {fb:Bool→Option γ} {ft:List AV→Option γ} {d:Option γ} (P:Ok C (T.btC a fb ft d)) (hv:VRel c a v) (h:∀ b,Ok C (fb b)→G (.bool b)) (ht:∀ vs,VRel c (.tup vs) v→Ok C (ft vs)→G v) (hd:Ok C d→G v):G v:=by
  revert hv P
  cases a with
  | bool b=>exact fun P hv=>bool_rel hv▸h b P
  | tup vs=>exact fun P hv=>ht vs hv P
  | _=>exact fun P _=>hd P
end
theorem seq_addr {c:Cc} {σ:List AObj} {v:AV} {v':Value} {vs:List AV} (hv:VRel c v v') (e:seqOf σ v=some vs):∃ x,v'=.ref x:=by
  revert e
  refine VRel.casesOn (motive_1:=fun v v' _=>seqOf σ v=some vs→∃ x,v'=.ref x) hv ?_ ?_ ?_ ?_ ?_ ?_ ?_ ?_ ?_ (fun _ _=>⟨_,rfl⟩) ?_ (fun _ _ _=>⟨_,rfl⟩) (fun _ _ _=>⟨_,rfl⟩) ?_ ?_ ?_ (fun _ _ _ _=>⟨_,rfl⟩) ?_ ?_<;>(intros;exact no_some ‹_›)
theorem units_ok {g:Gd} {hnd:Option Nat} {dep:Nat} {c:Cc} {σ:List AObj} {fs:List Out} {A:Around} {s:Shared} (H:Hp g hnd dep c σ fs A s) (hd:dep≤600):A.units < cLine∧A.in1.units < cLine:=by
  have h:=H.units
  have e1:A.in1.units=A.units+1:=rfl
  unfold cLine
  constructor
  · omega
  · rw [e1];omega
theorem none_rel {c:Cc} {a:AV} {v:Value} {k:Bool} (h:VRel c a v):isNone a=some k→plainIs v .none=true∧(v == .none)=k:=by
  have f:some false=some k→false=k:=Option.some.inj
  refine VRel.casesOn (motive_1:=fun a v _=>isNone a=some k→plainIs v .none=true∧(v == .none)=k) h (fun e=>⟨rfl,Option.some.inj e⟩) ?_ ?_ ?_ ?_ ?_ ?_ ?_ (fun _ e=>no_some e) ?_ ?_ ?_ ?_ ?_ ?_ (fun _ e=>no_some e) ?_ (fun _ _ e=>no_some e) ?_<;>(intros;exact ⟨rfl,f ‹_›⟩)
section
variable {prog:Program} {w:World} {A:Around} {Q:Value→Shared→Prop} {E:Value→Shared→Prop} {s:Shared} {k:Bool} {op:CmpOp}
theorem intCmp_ok {i j:Int} {t u:Tok} (e:intCmp op i j=some k) (q:Q (.bool k) s):wpAny (model prog w) A (compareOp op (.int i t) (.int j u)) Q E s:=by
  cases op with
  | Eq=>exact P.eq_int (Option.some.inj e▸q)
  | NotEq=>exact P.ne_int (Option.some.inj e▸q)
  | Lt=>exact P.lt_int (Option.some.inj e▸q)
  | LtE=>exact P.le_int (Option.some.inj e▸q)
  | Gt=>exact P.gt_int (Option.some.inj e▸q)
  | GtE=>exact P.ge_int (Option.some.inj e▸q)
  | _=>exact no_some e
theorem strCmp_ok {x y:Str} {t u:Tok} (e:strCmp op x y=some k) (q:Q (.bool k) s):wpAny (model prog w) A (compareOp op (.str x t) (.str y u)) Q E s:=by
  have sb:(x.cps.toList == y.cps.toList)=seq x y:=by rw [seq_beq];exact SeqAt.str_beq x y
  cases op with
  | Eq=>exact P.eq_str (by rw [sb];exact Option.some.inj e▸q)
  | NotEq=>exact P.ne_str (by show Q (.bool (!(x.cps.toList == y.cps.toList))) s;rw [sb];exact Option.some.inj e▸q)
  | _=>exact no_some e
end
section
variable {g:Gd} {hnd:Option Nat} {dep:Nat} {c:Cc} {σ:List AObj} {fs:List Out} {A:Around} {E:Value→Shared→Prop} {s:Shared} {Q:Value→Shared→Prop}
theorem tup_ne (H:Hp g hnd dep c σ fs A s) {vs ws:List AV} {x y:Value} (hx:VRel c (.tup vs) x) (hy:VRel c (.tup ws) y) (h:AEq0s vs ws) (hd:dep≤600) (q:Q (.bool false) s):wpAny (model g.prog g.w) A (compareOp .NotEq x y) Q E s:=by
  obtain ⟨p,v1,rfl,q1,t1⟩:=isTuple_of H hx
  obtain ⟨p',v2,rfl,q2,t2⟩:=isTuple_of H hy
  have e:EqL A.in1 s v1 v2:=h.at (fun h hx hy=>h.at hx hy A.in1 s) q1 q2
  have:=SeqAt.RcNeAt.tuples (e:=fun _=>true) t1 t2 (units_ok H hd).1 (fun j h1 h2=>e.2 j h1 h2)
  rw [e.tup] at this
  exact this g.prog g.w E Q q
theorem lst_ne (H:Hp g hnd dep c σ fs A s) {vs ws:List AV} {p p':Addr} {v1 v2:List Value} (q1:VRels c vs v1) (q2:VRels c ws v2) (t1:s.heap.IsList p v1.toArray) (t2:s.heap.IsList p' v2.toArray) (h:AEqs vs ws) (hd:dep≤600) (q:Q (.bool false) s) :
    wpAny (model g.prog g.w) A (compareOp .NotEq (.ref p) (.ref p')) Q E s:=by
  obtain ⟨hu,hu1⟩:=units_ok H hd
  have e:EqL A.in1 s v1 v2:=h.at (fun h hx hy=>h.at H hu1 hx hy) q1 q2
  have:=SeqAt.RcNeAt.lists (e:=fun _=>true) t1 t2 (show v1.toArray.size=v2.toArray.size from e.1) hu (fun j h1 h2=>e.2 j h1 h2)
  rw [all_true] at this
  exact this g.prog g.w E Q q
theorem lst_eq (H:Hp g hnd dep c σ fs A s) {vs ws:List AV} {p p':Addr} {v1 v2:List Value} (q1:VRels c vs v1) (q2:VRels c ws v2) (t1:s.heap.IsList p v1.toArray) (t2:s.heap.IsList p' v2.toArray) (h:AEqs vs ws) (hd:dep≤600) (q:Q (.bool true) s) :
    wpAny (model g.prog g.w) A (compareOp .Eq (.ref p) (.ref p')) Q E s:=by
  obtain ⟨hu,hu1⟩:=units_ok H hd
  have e:EqL A.in1 s v1 v2:=h.at (fun h hx hy=>h.at H hu1 hx hy) q1 q2
  have:=SeqAt.RcAt.lists (e:=fun _=>true) t1 t2 (show v1.toArray.size=v2.toArray.size from e.1) hu (fun j h1 h2=>e.2 j h1 h2)
  rw [all_true] at this
  exact this g.prog g.w E Q q
end
theorem xor_ne (p q:Bool):(!(p == q))=xor p q:=by revert p q;decide
theorem cmpR_ok {g:Gd} {c:Cc} {op:CmpOp} {a b:AV} {a' b':Value} {rd:Rd} {orc:List Orc} {σ:List AObj} {fs:List Out} {A:Around} {s:Shared} {Q:Value→Shared→Prop} {E:Value→Shared→Prop} {C:AR AV→Prop} (ha:VRel c a a') (hb:VRel c b b') (H:Hp g rd.hnd rd.dep c σ fs A s)
    (fin:∀ {b ps r},C (.bool b,σ,ps,r)→Q (.bool b) s) (o:∀ y,C y→AllP y.2.2.1) (P:Ok C (cmpR op a b rd orc σ)):wpAny (model g.prog g.w) A (compareOp op a' b') Q E s:=by
  cases op with
  | Is=>exact Ok.noneO (G:=fun b=>wpAny (model g.prog g.w) A (compareOp .Is a' b) Q E s) P hb fun P=>P.obn fun _ e P=>wpAny_is_plain (none_rel ha e).1 ((none_rel ha e).2▸fin P)
  | IsNot=>exact Ok.noneO (G:=fun b=>wpAny (model g.prog g.w) A (compareOp .IsNot a' b) Q E s) P hb fun P=>P.obn fun _ e P=>wpAny_isNot_plain (none_rel ha e).1 ((none_rel ha e).2▸fin P)
  | NotEq=>exact Ok.btC (G:=fun a=>wpAny (model g.prog g.w) A (compareOp .NotEq a b') Q E s) P ha (fun p P=>P.btC (G:=fun b=>wpAny (model g.prog g.w) A (compareOp .NotEq (.bool p) b) Q E s) hb (fun q P=>SeqAt.RcNeAt.bool_bool (A:=A) (s:=s) _ _ g.prog g.w E Q (xor_ne p q▸fin P)) (fun _ _ P=>P.no) Ok.no)
                       (fun _ ha P=>P.btC (G:=fun b=>wpAny (model g.prog g.w) A (compareOp .NotEq a' b) Q E s) hb (fun _ P=>P.no) (fun _ hb P=>tup_ne H ha hb (o _ P).1 (o _ P).2.1 (fin P)) Ok.no)
                       fun P=>P.lsO (G:=fun a=>wpAny (model g.prog g.w) A (compareOp .NotEq a b') Q E s) H ha fun x _ _ q1 t1 P=>P.lsO (G:=fun b=>wpAny (model g.prog g.w) A (compareOp .NotEq (.ref x) b) Q E s) H hb fun _ _ _ q2 t2 P=>lst_ne H q1 q2 t1 t2 (o _ P).1 (o _ P).2.1 (fin P)
  | Eq=>exact Ok.lsO (G:=fun a=>wpAny (model g.prog g.w) A (compareOp .Eq a b') Q E s) P H ha fun x _ _ q1 t1 P=>P.lsO (G:=fun b=>wpAny (model g.prog g.w) A (compareOp .Eq (.ref x) b) Q E s) H hb fun _ _ _ q2 t2 P=>lst_eq H q1 q2 t1 t2 (o _ P).1 (o _ P).2.1 (fin P)
  | _=>exact P.no
theorem bool_f (c:Cc) (k:Bool):VRel c (.bool (xor false k)) (.bool k):=by rw [xor_f];exact .bool k
theorem leaf_cmp {g:Gd} {c₀:Cc} {op:CmpOp} {a b:AV} {a' b':Value} (ha:VRel c₀ a a') (hb:VRel c₀ b b'):LeafN g c₀ (opCmp op a b) (compareOp op a' b') VRel :=
  .q fun rd orc σ c fs A s Q E C x H k o P=>P.int2 (G:=fun a b=>wpAny (model g.prog g.w) A (compareOp op a b) Q E s) ha hb
    (fun _ _ _ _ _ P=>P.obn fun _ e P=>ansN_ok o P fun _ _ P=>intCmp_ok e (k _ _ _ _ c _ _ P (.refl c) H (bool_f _ _))) fun P=>P.str2 (G:=fun a b=>wpAny (model g.prog g.w) A (compareOp op a b) Q E s) ha hb
    (fun _ _ _ _ _ P=>P.obn fun _ e P=>ansN_ok o P fun _ _ P=>strCmp_ok e (k _ _ _ _ c _ _ P (.refl c) H (bool_f _ _)))
    fun P=>cmpR_ok (ha.mono x) (hb.mono x) H (fun P=>k _ _ _ _ c _ _ P (.refl c) H (.bool _)) o P
end T
namespace T
section
variable {g:Gd} {hnd:Option Nat} {dep:Nat} {c:Cc} {σ:List AObj} {fs:List Out} {A:Around} {E:Value→Shared→Prop} {s:Shared}
theorem VRels.snoc {c:Cc} {a:List AV} {x:List Value} {b:AV} {v:Value} (h:VRels c a x) (hb:VRel c b v):VRels c (a++[b]) (x++[v]):=h.app (.cons hb .nil)
theorem VRels.unsnoc {c:Cc} {b:AV}:∀ {a:List AV} {x:List Value},VRels c (a++[b]) x→∃ y v,x=y++[v]∧VRels c a y∧VRel c b v:=by
  intro a
  induction a with
  | nil=>exact fun {x} h=>h.consE (G:=fun x=>∃ y v,x=y++[v]∧VRels c [] y∧VRel c b v) fun v xs h t=>t.nilE (G:=fun xs=>∃ y w,v::xs=y++[w]∧VRels c [] y∧VRel c b w) ⟨[],v,rfl,.nil,h⟩
  | cons a r ih=>exact fun {x} h=>h.consE (G:=fun x=>∃ y v,x=y++[v]∧VRels c (a::r) y∧VRel c b v) fun w _ h t=>let ⟨y,v,e,h1,h2⟩:=ih t;⟨w::y,v,congrArg (w::·) e,.cons h h1,h2⟩
theorem upd_list {l:Addr} {vals:Array Value} {n:Nat} {h:Heap} (f:Array Value→Array Value) (ho:h.get? l=some (listObj vals n)):∃ m,(h.update l (Obj.mapSeq f)).get? l=some (listObj (f vals) m) :=
  ⟨_,Heap.get?_update_self _ ho rfl⟩
theorem le4 {n:Nat} (h:Nat.ble n 10000=true):n≤sizeLine:=Nat.le_trans (Nat.le_of_ble_eq_true h) (Nat.le_trans (by decide) sizeLine_big)
theorem le4' {n:Nat} (h:Nat.ble n 10000=true):n≤4611686018427387904:=Nat.le_trans (Nat.le_of_ble_eq_true h) (by decide)
theorem VRels.sizeA {c:Cc} {vs:List AV} {vals:Array Value} (h:VRels c vs vals.toList):vals.size=vs.length:=h.length.symm▸Array.length_toList.symm
theorem Hp.lst (H:Hp g hnd dep c σ fs A s) {i:Nat} {l:Addr} {sy:Bool} {ws:List AV} (hi:c.r[i]?=some l) (e:σ[i]?=some (.list sy ws)):∃ vals n,s.heap.get? l=some (listObj vals n)∧VRels c ws vals.toList∧(sy=true→∀ v∈ws,Cl v) :=
  let ⟨_,p,vals,n,e,q,hcl⟩:=H.st.at hi e;⟨vals,n,p.trans (congrArg some e),q,hcl⟩
theorem Hp.setLst (H:Hp g hnd dep c σ fs A s) {i:Nat} {l:Addr} {sy:Bool} {ws:List AV} {vals:Array Value} {n tk:Nat} {f:Array Value→Array Value} (hi:c.r[i]?=some l) (p:s.heap.get? l=some (listObj vals n)) (q:VRels c ws (f vals).toList) (hc:sy=true→∀ v∈ws,Cl v) :
    Hp g hnd dep c (σ.set i (.list sy ws)) fs A {s with heap:=s.heap.update l (Obj.mapSeq f),toks:=tk} :=
  let ⟨_,hm⟩:=upd_list f p;H.upd (.refl c) (H.st.upd hi (Heap.SameBut.update ..) hm ⟨_,_,rfl,q,hc⟩)
theorem append_ok (H:Hp g hnd dep c σ fs A s) {Q:Value→Shared→Prop} {i:Nat} {l:Addr} {sy:Bool} {ws:List AV} {b:AV} {w:Value} (hi:c.r[i]?=some l) (e:σ[i]?=some (.list sy ws)) (hb:VRel c b w) (hz:ws.length≤sizeLine) (hc:sy=true→Cl b)
    (k:∀ s',Hp g hnd dep c (σ.set i (.list sy (ws++[b]))) fs A s'→Q .none s'):wpAny (model g.prog g.w) A (call (.builtin "list.append") [.ref l,w] []) Q E s:=by
  obtain ⟨vals,n,p,q,hcl⟩:=H.lst hi e
  have hT:s.TypeIs (.ref l) "list" := ⟨_,p,rfl⟩
  refine wpAny_call_entry slot_list_append hT entry_list_append ?_ (args_list_append _ _)
  show wpAny _ _ (updateSeq l (·.push w)>>=fun _=>PySem.ret .none) _ _ s
  refine wpAny_bind (wpAny_updateSeq p rfl (wpAny_pure ⟨.none,rfl,k _ (H.setLst (tk:=s.toks) hi p ?_ fun z w hw=>?_)⟩) (hz:=q.sizeA▸hz) (_hz':=by rw [Array.size_push];exact Nat.succ_le_succ (q.sizeA▸hz)))
  · rw [Array.toList_push];exact q.snoc hb
  · exact (List.mem_append.mp hw).elim (hcl z w) fun hw=>List.mem_singleton.mp hw▸hc z
noncomputable def opAppend (as:List AV):Rd→List Orc→List AObj→Option (AR AV):=fun _ orc σ=>twoA as fun l v=>mutO l fun i=>lstC σ[i]? fun sy vs =>
  pk sy (gdO (clF 6 v) (some (.none,σ.set i (.list sy (vs++[v])),[vs.length≤sizeLine],orc))) (gdO (Nat.ble vs.length 10000) (some (.none,σ.set i (.list sy (vs++[v])),[],orc)))
theorem leaf_append {c₀:Cc} {as:List AV} {vs:List Value} (hv:VRels c₀ as vs):LeafN g c₀ (opAppend as) (call (.builtin "list.append") vs []) VRel :=
  .q fun rd orc σ c fs A s Q E C x H k o P=>P.twoA (G:=fun vs=>wpAny (model g.prog g.w) A (call (.builtin "list.append") vs []) Q E s) (hv.mono x) fun _ _ _ w h1 h2 P=>P.mutO (G:=fun l=>wpAny (model g.prog g.w) A (call (.builtin "list.append") [l,w] []) Q E s) h1 fun _ _ hi P =>
    P.lstC fun _ _ e P=>P.pk (fun _ P=>P.gdO fun e2 P=>append_ok H hi e h2 (o _ P).1 (fun _=>⟨6,e2⟩) fun s' H'=>k _ _ _ _ c s' _ P (.refl c) H' .none)
      fun q P=>P.gdO fun e2 P=>append_ok H hi e h2 (le4 e2) (fun z=>by rw [q] at z;cases z) fun s' H'=>k _ _ _ _ c s' _ P (.refl c) H' .none
noncomputable def popL:List AV→Option (List AV × AV)
  | []=>none
  | a::r=>some (match popL r with
    | none=>([],a)
    | some p=>(a::p.1,p.2))
theorem popL_nil {r:List AV} (e:popL r=none):r=[]:=by
  cases r with
  | nil=>rfl
  | cons a r=>cases e
theorem popL_ok {vs:List AV}:∀ {p:List AV × AV},popL vs=some p→vs=p.1++[p.2]:=by
  induction vs with
  | nil=>exact fun e=>no_some e
  | cons a r ih =>
    intro p e
    rw [← Option.some.inj e]
    cases q:popL r with
    | none=>rw [popL_nil q];rfl
    | some p=>exact congrArg (a::·) (ih q)
theorem pop_ok (H:Hp g hnd dep c σ fs A s) {Q:Value→Shared→Prop} {i:Nat} {l:Addr} {sy:Bool} {vs ws:List AV} {a:AV} (hi:c.r[i]?=some l) (e:σ[i]?=some (.list sy vs)) (e2:vs=ws++[a]) (hz:vs.length≤sizeLine)
    (k:∀ s' v,Hp g hnd dep c (σ.set i (.list sy ws)) fs A s'→VRel c a v→Q v s'):wpAny (model g.prog g.w) A (call (.builtin "list.pop") [.ref l] []) Q E s:=by
  obtain ⟨vals,n,p,q,hcl⟩:=H.lst hi e
  have hsz:=q.sizeA▸hz
  rw [e2] at q hcl
  obtain ⟨y,v,ey,q1,q2⟩:=q.unsnoc
  have hT:s.TypeIs (.ref l) "list" := ⟨_,p,rfl⟩
  obtain ⟨vals⟩:=vals
  have ey:vals=y++[v]:=ey
  subst ey
  have hl:(y++[v]).toArray.size - 1=y.length:=by simp
  refine call_meets F.slot_list_pop hT F.entry_list_pop (F.args_list_pop_1 _) (MeetsSeq.list_pop_last l _ n v (by rw [hl];simp) hsz) ⟨p,?_⟩
  refine k _ _ (H.setLst (tk:=s.toks) hi p ?_ fun z w hw=>hcl z w (List.mem_append_left _ hw)) q2
  rw [hl,show (y++[v]).toArray.eraseIdxIfInBounds y.length=y.toArray from by simp [Array.eraseIdxIfInBounds,List.eraseIdx_append_of_length_le]]
  exact q1
noncomputable def opPop (as:List AV):Rd→List Orc→List AObj→Option (AR AV):=fun _ orc σ=>oneA as fun l=>mutO l fun i=>lstC σ[i]? fun sy vs =>
  pk sy (askVs orc fun ws r=>askV r fun a r=>some (a,σ.set i (.list sy ws),[vs=ws++[a],vs.length≤sizeLine],r)) (gdO (Nat.ble vs.length 10000) (obn (popL vs) fun p=>some (p.2,σ.set i (.list sy p.1),[],orc)))
theorem leaf_pop {c₀:Cc} {as:List AV} {vs:List Value} (hv:VRels c₀ as vs):LeafN g c₀ (opPop as) (call (.builtin "list.pop") vs []) VRel :=
  .q fun rd orc σ c fs A s Q E C x H k o P=>P.oneA (G:=fun vs=>wpAny (model g.prog g.w) A (call (.builtin "list.pop") vs []) Q E s) (hv.mono x) fun _ _ h1 P=>P.mutO (G:=fun l=>wpAny (model g.prog g.w) A (call (.builtin "list.pop") [l] []) Q E s) h1 fun _ _ hi P =>
    P.lstC fun _ _ e P=>P.pk (fun _ P=>P.askVs fun _ _ P=>P.askV fun _ _ P=>pop_ok H hi e (o _ P).1 (o _ P).2.1 fun s' v H' r=>k _ _ _ _ c s' v P (.refl c) H' r)
      fun _ P=>P.gdO fun e2 P=>P.obn fun _ e3 P=>pop_ok H hi e (popL_ok e3) (le4 e2) fun s' v H' r=>k _ _ _ _ c s' v P (.refl c) H' r
noncomputable def told (σ:List AObj):AV→Bool
  | .sl _=>false
  | .mut i=>match σ[i]? with
    | none=>true
    | some o=>match o with
      | .list b _=>not b
      | _=>true
  | _=>true
theorem len_ok {Q:Value→Shared→Prop} {x:Addr} {vs:List AV} {vals:List Value} (q:VRels c vs vals) (t:s.heap.IsList x vals.toArray) (hz:vs.length≤4611686018427387904) (h:Q (.int vs.length (s.toks+1)) {s with toks:=s.toks+1+1}) :
    wpAny (model g.prog g.w) A (call (.builtin "len") [.ref x] []) Q E s:=by
  rw [q.length] at h hz
  refine Calls.call_len_list t ?_ ?_
  · show ((vals.length:Nat):Int) < _;omega
  · exact h
noncomputable def opLen (as:List AV):Rd→List Orc→List AObj→Option (AR AV):=fun _ orc σ=>oneA as fun v=>lsO σ v fun vs =>
  pk (told σ v) (gdO (Nat.ble vs.length 10000) (some (.int vs.length,σ,[],orc))) (some (.si vs.length,σ,[vs.length≤4611686018427387904],orc))
theorem leaf_len {c₀:Cc} {as:List AV} {vs:List Value} (hv:VRels c₀ as vs):LeafN g c₀ (opLen as) (call (.builtin "len") vs []) VRel :=
  .q fun rd orc σ c fs A s Q E C x H k o P=>P.oneA (G:=fun vs=>wpAny (model g.prog g.w) A (call (.builtin "len") vs []) Q E s) (hv.mono x) fun _ _ h1 P=>P.lsO (G:=fun l=>wpAny (model g.prog g.w) A (call (.builtin "len") [l] []) Q E s) H h1 fun _ _ _ q t P =>
    P.pk (fun _ P=>P.gdO fun e P=>len_ok q t (le4' e) (k _ _ _ _ c _ _ P (.refl c) (H.tick _) (.int _ _))) fun _ P=>len_ok q t (o _ P).1 (k _ _ _ _ c _ _ P (.refl c) (H.tick _) (.si _ _))
noncomputable def strIdx:List AV→Str→Option Nat
  | [],_=>none
  | a::r,x=>match a with
    | .str y=>cond (seq y x) (some 0) (Option.map (·+1) (strIdx r x))
    | _=>none
noncomputable def IdxAt (vals:List Value) (x:Str) (j:Nat):Prop:=∃ h:j < vals.length,(∃ t,vals[j]=.str x t)∧∀ m (hm:m < vals.length),m < j→∃ y t,vals[m]=.str y t∧seq y x=false
theorem strIdx_ok {c:Cc} {x:Str}:∀ {vs:List AV} {vals:List Value},VRels c vs vals→∀ {j:Nat},strIdx vs x=some j→IdxAt vals x j :=
  VRels.ind (P:=fun vs vals=>∀ {j:Nat},strIdx vs x=some j→IdxAt vals x j) (fun e=>no_some e) fun a as v vals h t ih j e=>by
    cases a with
    | str y =>
      refine h.elim (G:=fun v=>IdxAt (v::vals) x j) fun tk=>?_
      have e:cond (seq y x) (some 0) (Option.map (·+1) (strIdx as x))=some j:=e
      cases e1:seq y x with
      | true =>
        rw [e1] at e
        rw [← Option.some.inj e,seq_iff.mp e1]
        exact ⟨Nat.zero_lt_succ _,⟨tk,rfl⟩,fun m _ hm=>absurd hm (Nat.not_lt_zero m)⟩
      | false =>
        rw [e1] at e
        obtain ⟨n,e2,e3⟩:=Option.map_eq_some_iff.mp e
        rw [← e3]
        obtain ⟨h1,h2,h3⟩:=ih e2
        exact ⟨Nat.succ_lt_succ h1,h2,fun m=>Nat.casesOn m (fun _ _=>⟨y,tk,rfl,e1⟩) fun m hm hmj=>h3 m (Nat.lt_of_succ_lt_succ hm) (Nat.lt_of_succ_lt_succ hmj)⟩
    | _=>exact no_some e
noncomputable def isS:AV→Bool
  | .str _=>true
  | .ss _=>true
  | _=>false
noncomputable def flO {γ:Type} (v:AV) (f:List AV→Option γ):Option γ:=match v with
  | .fl vs=>f vs
  | _=>none
theorem Ok.flO {γ:Type} {C:γ→Prop} {G:Value→Prop} {f:List AV→Option γ} {a:AV} {v:Value} (P:Ok C (T.flO a f)) (hv:VRel c a v) (h:∀ x vs vals n,c.G x=some (listObj vals n)→VRels c vs vals.toList→Ok C (f vs)→G (.ref x)):G v:=by
  cases a with
  | fl vs=>exact hv.elim fun x vals n g q=>h x vs vals n g q P
  | _=>exact P.no
noncomputable def opIndex (as:List AV):Rd→List Orc→List AObj→Option (AR AV):=fun _ orc σ=>twoA as fun l k=>flO l fun vs=>gdO (allF isS vs) (strO k (fun lit x =>
  pk lit (obn (strIdx vs x) fun j=>gdO (Nat.blt j 1000) (some (.int (.ofNat j),σ,[],orc))) (askV orc fun a r=>some (a,σ,[∃ j,strIdx vs x=some j∧j < 1000∧(a=.int (.ofNat j)∨a=.si (.ofNat j))],r))) none)
noncomputable def IsStrV (v:Value):Prop:=∃ y t,v=.str y t
theorem isS_rel {c:Cc} {a:AV} {v:Value} (h:VRel c a v) (e:isS a=true):IsStrV v:=by
  cases a with
  | str y=>exact h.elim (G:=IsStrV) fun t=>⟨y,t,rfl⟩
  | ss y=>exact h.elim (G:=IsStrV) fun t=>⟨y,t,rfl⟩
  | _=>exact no_tf e
theorem isS_all {c:Cc}:∀ {vs:List AV} {vals:List Value},VRels c vs vals→(∀ a∈vs,isS a=true)→∀ v∈vals,IsStrV v :=
  VRels.ind (P:=fun vs vals=>(∀ a∈vs,isS a=true)→∀ v∈vals,IsStrV v) (fun _ v m=>(nomatch m)) fun _ _ _ _ h _ ih e v m=>(List.mem_cons.mp m).elim (fun q=>q▸isS_rel h (e _ (.head _))) (ih (fun a ha=>e a (.tail _ ha)) v)
noncomputable def strEq (y:Str):Value→Bool
  | .str z _=>seq z y
  | _=>false
theorem index_ok (H:Hp g hnd dep c σ fs A s) {Q:Value→Shared→Prop} {l:Addr} {vs:List AV} {vals:Array Value} {n j:Nat} {y:Str} {t:Tok} (g1:c.G l=some (listObj vals n)) (g2:VRels c vs vals.toList) (ha:allF isS vs=true) (e:strIdx vs y=some j) (hj:j < 1000)
    (k:Q (.int (.ofNat j) s.toks) {s with toks:=s.toks+1}):wpAny (model g.prog g.w) A (call (.builtin "list.index") [.ref l,.str y t] []) Q E s:=by
  have hl:=H.st.keep _ _ (.inl g1)
  obtain ⟨i1,⟨t1,i2⟩,i3⟩:=strIdx_ok g2 e
  obtain ⟨vals⟩:=vals
  have heq:∀ v,v∈vals.toArray→SeqAt.EqAt A.in1 s v (.str y t) (strEq y v):=fun v hv=>by
    obtain ⟨z,tz,e⟩:=isS_all g2 (allF_iff.mp ha) v (by simpa using hv)
    rw [e]
    show SeqAt.EqAt A.in1 s (.str z tz) (.str y t) (seq z y)
    rw [seq_beq]
    exact SeqAt.EqAt.str_str z tz y t
  refine call_meets F.slot_list_index (⟨_,hl,rfl⟩:s.TypeIs (.ref l) "list") F.entry_list_index (F.args_list_index_2 _ _) (SeqAt.list_indexAt l _ n none #[] (.str y t) (strEq y) j i1 (by omega) ?_ ?_) ⟨hl,heq,k⟩
  · exact (congrArg (strEq y) i2).trans (seq_iff.mpr rfl)
  · intro m hm hmj
    obtain ⟨z,t2,i4,i5⟩:=i3 m hm hmj
    exact (congrArg (strEq y) i4).trans i5
theorem leaf_index {c₀:Cc} {as:List AV} {vs:List Value} (hv:VRels c₀ as vs):LeafN g c₀ (opIndex as) (call (.builtin "list.index") vs []) VRel :=
  .q fun rd orc σ c fs A s Q E C x H k o P=>P.twoA (G:=fun vs=>wpAny (model g.prog g.w) A (call (.builtin "list.index") vs []) Q E s) (hv.mono x) fun _ _ _ w h1 h2 P=>P.flO (G:=fun l=>wpAny (model g.prog g.w) A (call (.builtin "list.index") [l,w] []) Q E s) h1 fun l _ _ _ g1 g2 P=>P.gdO fun ha P =>
    P.strO (G:=fun w=>wpAny (model g.prog g.w) A (call (.builtin "list.index") [.ref l,w] []) Q E s) h2 (fun _ _ _ _ P=>P.pk (fun _ P=>P.obn fun _ e P=>P.gdO fun hj P=>index_ok H g1 g2 ha e (Nat.le_of_ble_eq_true hj) (k _ _ _ _ c _ _ P (.refl c) (H.tick _) (.int _ _)))
      fun _ P=>P.askV fun a _ P=>let ⟨_,p1,p2,p3⟩:=(o _ P).1;index_ok H g1 g2 ha p1 p2 (k _ _ _ _ c _ _ P (.refl c) (H.tick _) (p3.elim (fun e=>e▸.int _ _) fun e=>e▸.si _ _))) Ok.no
end
end T
namespace T
section
variable {hb:World→BK→Int} {c:Cc} {σ:List AObj} {fs:List Fm} {h h':Heap}
theorem St.newImmAt (S:St hb c σ fs h) {a:Addr} {o:Obj} (k:∀ b o,h.get? b=some o→h'.get? b=some o) (ho:h'.get? a=some o) (hf:h.get? a=none):St hb (c.addG a o) σ fs h'∧c.free a:=by
  have no:∀ {o:Obj},h.get? a ≠ some o:=fun e=>no_some (hf.symm.trans e)
  have fr:c.free a:=⟨Option.eq_none_iff_forall_ne_some.mpr fun o e=>no (S.keep a o (.inl e)),Option.eq_none_iff_forall_ne_some.mpr fun o e=>no (S.keep a o (.inr e))⟩
  refine ⟨(S.grow k).claimG (fun m=>?_) (fun m=>let ⟨_,_,_,_,e,_⟩:=S.tbs a m;no e) fr ho,fr⟩
  rcases List.mem_append.mp m with m | m
  · obtain ⟨f,hf',e⟩:=List.mem_map.mp m
    obtain ⟨o,es,ep,p,_⟩:=S.fr f hf'
    exact no (e▸p)
  · obtain ⟨i,hi⟩:=List.mem_iff_getElem?.mp m
    exact no (S.mem i a hi).choose_spec.1
end
section
variable {g:Gd} {hnd:Option Nat} {dep:Nat} {c:Cc} {σ:List AObj} {fs:List Out} {A:Around} {E:Value→Shared→Prop} {s:Shared}
theorem Hp.immAt (H:Hp g hnd dep c σ fs A s) {a:Addr} {o:Obj} {h':Heap} {tk:Nat} (k:∀ b o,s.heap.get? b=some o→h'.get? b=some o) (ho:h'.get? a=some o) (hf:s.heap.get? a=none) :
    Ext c (c.addG a o)∧Hp g hnd dep (c.addG a o) σ fs A {s with heap:=h',toks:=tk}:=by
  obtain ⟨S,fr⟩:=H.st.newImmAt k ho hf
  exact ⟨Ext.addG o fr,H.upd (Ext.addG o fr) S⟩
theorem ints_two {a b:Int} {l:List Value} (h:IntsAre l [a,b]):∃ t1 t2,l=[.int a t1,.int b t2]:=by
  cases h with
  | cons _ t1 h2=>cases h2 with
    | cons _ t2 h3=>cases h3;exact ⟨t1,t2,rfl⟩
theorem perm_two {a b:Int} {l:List Int} (h:l.Perm [a,b]) (hs:l.Pairwise (·≤·)):(a≤b→l=[a,b])∧(¬ a≤b→l=[b,a]):=by
  have hl:=h.length_eq
  match l,hl with
  | [p,q],_ =>
    have hpq:p≤q:=(List.pairwise_cons.mp hs).1 q (.head _)
    have hp:p∈[a,b]:=h.mem_iff.mp (.head _)
    rcases List.mem_cons.mp hp with rfl | hp
    · have:[q].Perm [b]:=(List.perm_cons p).mp h
      have e:q=b:=by simpa using this.mem_iff.mp (.head _)
      subst e
      exact ⟨fun _=>rfl,fun n=>absurd hpq n⟩
    · rw [List.mem_singleton.mp hp] at h hpq ⊢
      have h2:[b,q].Perm [b,a]:=h.trans (List.Perm.swap b a [])
      have:[q].Perm [a]:=(List.perm_cons b).mp h2
      have e:q=a:=by simpa using this.mem_iff.mp (.head _)
      subst e
      refine ⟨fun n=>?_,fun _=>rfl⟩
      have:b=q:=by omega
      rw [this]
noncomputable def lit2 {γ:Type} (vs:List AV) (f:Int→Int→Option γ):Option γ:=twoA vs fun x y=>litO x fun a=>litO y fun b=>f a b
noncomputable def opSorted (as:List AV):Rd→List Orc→List AObj→Option (AR AV):=fun _ orc σ=>oneA as fun l=>flO l fun vs=>lit2 vs fun a b=>some (pk (decide (a≤b)) (.fl [.int a,.int b]) (.fl [.int b,.int a]),σ,[],orc)
theorem Ok.lit2 {γ:Type} {C:γ→Prop} {c:Cc} {G:List Value→Prop} {vs:List AV} {vals:List Value} {f:Int→Int→Option γ} (P:Ok C (T.lit2 vs f)) (h:VRels c vs vals) (k:∀ a b t u,Ok C (f a b)→G [.int a t,.int b u]):G vals :=
  Ok.twoA P h fun _ _ _ w h1 h2 P=>P.litO (G:=fun v=>G [v,w]) h1 fun a t P=>P.litO (G:=fun w=>G [.int a t,w]) h2 fun b u P=>k a b t u P
theorem sorted_ok (H:Hp g hnd dep c σ fs A s) {Q:Value→Shared→Prop} {l:Addr} {vals:Array Value} {n:Nat} {a b:Int} {t u:Tok} (g1:c.G l=some (listObj vals n)) (ev:vals.toList=[.int a t,.int b u])
    (k:∀ c' s' v,Ext c c'→Hp g hnd dep c' σ fs A s'→VRel c' (pk (decide (a≤b)) (.fl [.int a,.int b]) (.fl [.int b,.int a])) v→Q v s'):wpAny (model g.prog g.w) A (call (.builtin "sorted") [.ref l] []) Q E s:=by
  have hl:s.heap.IsList l vals.toList.toArray:=⟨_,H.st.keep _ _ (.inl g1),rfl,n,rfl⟩
  refine sorted_ints (ns:=[a,b]) hl (ev▸.cons _ _ (.cons _ _ .nil)) (by rw [ev];show 2 < 64;decide) fun out ns' o1 o2 o3=>?_
  obtain ⟨ee,he⟩:=sortedAll_at s.heap vals.toList out
  obtain ⟨X,H'⟩:=H.immAt (tk:=s.toks) (fun b o e=>sortedAll_old e) he (Heap.get?_none_of_le (Nat.le_succ _))
  obtain ⟨p1,p2⟩:=perm_two o2 o3
  have two:∀ {p q:Int},ns'=[p,q]→VRel (c.addG (s.heap.objs.size+1) (seqObj "list" out ee)) (.fl [.int p,.int q]) (.ref (s.heap.objs.size+1)):=fun e=>by
    rw [e] at o1
    obtain ⟨t1,t2,eo⟩:=ints_two o1
    refine .fl (vals:=out) (n:=ee) (addG_at ..) ?_
    rw [eo]
    exact .cons (.int _ _) (.cons (.int _ _) .nil)
  refine k _ _ _ X H' ?_
  cases e1:decide (a≤b) with
  | true=>exact two (p1 (of_decide_eq_true e1))
  | false=>exact two (p2 (of_decide_eq_false e1))
theorem leaf_sorted {c₀:Cc} {as:List AV} {vs:List Value} (hv:VRels c₀ as vs):LeafN g c₀ (opSorted as) (call (.builtin "sorted") vs []) VRel :=
  .q fun rd orc σ c fs A s Q E C x H k o P=>P.oneA (G:=fun vs=>wpAny (model g.prog g.w) A (call (.builtin "sorted") vs []) Q E s) (hv.mono x) fun _ _ h1 P=>P.flO (G:=fun v=>wpAny (model g.prog g.w) A (call (.builtin "sorted") [v] []) Q E s) h1 fun l vs vals n g1 g2 P =>
    (P.lit2 (G:=fun ev=>vals.toList=ev→wpAny (model g.prog g.w) A (call (.builtin "sorted") [.ref l] []) Q E s) g2 fun a b t u P ev=>sorted_ok H g1 ev fun c' s' v X H' r=>k _ _ _ _ c' s' v P X H' r) rfl
noncomputable def noHnd {γ:Type} (h:Option Nat) (x:Option γ):Option γ:=match h with
  | none=>x
  | some _=>none
noncomputable def maxI (a b:Int):Int:=if b > a then b else a
noncomputable def opMax (as:List AV):Rd→List Orc→List AObj→Option (AR AV):=fun rd orc σ=>noHnd rd.hnd (twoA as fun x y=>int2 x y (fun l a b=>pk l (some (.int (maxI a b),σ,[],orc)) (askV orc fun m r=>some (m,σ,[∃ l,intOf m=some (l,if b > a then b else a)],r))) none)
theorem ofInt_rel {c:Cc} {m:AV} {l:Bool} {i:Int} (e:intOf m=some (l,i)) (t:Tok):VRel c m (.int i t):=by
  cases m with
  | int j=>exact (Prod.mk.inj (Option.some.inj e)).2▸.int _ _
  | si j=>exact (Prod.mk.inj (Option.some.inj e)).2▸.si _ _
  | _=>exact no_some e
theorem max_ok (H:Hp g hnd dep c σ fs A s) (hh:A.handled=none) {Q:Value→Shared→Prop} {a b:Int} {t u:Tok} (k:∀ s' t,Hp g hnd dep c σ fs A s'→Q (.int (maxI a b) t) s'):wpAny (model g.prog g.w) A (call (.builtin "max") [.int a t,.int b u] []) Q E s:=by
  refine max_two_ints hh fun h' tk hk=>?_
  by_cases hba:b > a
  · have:=k _ u (H.more (tk:=tk) hk)
    rw [maxI,if_pos hba] at this
    rw [if_pos hba];exact this
  · have:=k _ t (H.more (tk:=tk) hk)
    rw [maxI,if_neg hba] at this
    rw [if_neg hba];exact this
theorem Ok.noHnd {γ:Type} {C:γ→Prop} {G:Prop} {h:Option Nat} {x:Option γ} (P:Ok C (T.noHnd h x)) (k:h=none→Ok C x→G):G:=by
  cases h with
  | none=>exact k rfl P
  | some _=>exact P.no
theorem leaf_max {c₀:Cc} {as:List AV} {vs:List Value} (hv:VRels c₀ as vs):LeafN g c₀ (opMax as) (call (.builtin "max") vs []) VRel :=
  .q fun rd orc σ c fs A s Q E C x H k o P=>P.noHnd fun hn P=>P.twoA (G:=fun vs=>wpAny (model g.prog g.w) A (call (.builtin "max") vs []) Q E s) (hv.mono x) fun _ _ _ _ h1 h2 P =>
    have hh:=H.hN hn
    P.int2 (G:=fun x y=>wpAny (model g.prog g.w) A (call (.builtin "max") [x,y] []) Q E s) h1 h2 (fun _ _ _ _ _ P=>P.pk (fun _ P=>max_ok H hh fun s' t H'=>k _ _ _ _ c s' _ P (.refl c) H' (.int _ _))
      fun _ P=>P.askV fun _ _ P=>let ⟨_,e⟩:=(o _ P).1;max_ok H hh fun s' t H'=>k _ _ _ _ c s' _ P (.refl c) H' (ofInt_rel e t)) Ok.no
noncomputable def digS:Nat→Option Str
  | 0=>some ⟨⟨[48]⟩⟩
  | 1=>some ⟨⟨[49]⟩⟩
  | 2=>some ⟨⟨[50]⟩⟩
  | 3=>some ⟨⟨[51]⟩⟩
  | 4=>some ⟨⟨[52]⟩⟩
  | 5=>some ⟨⟨[53]⟩⟩
  | 6=>some ⟨⟨[54]⟩⟩
  | 7=>some ⟨⟨[55]⟩⟩
  | 8=>some ⟨⟨[56]⟩⟩
  | 9=>some ⟨⟨[57]⟩⟩
  | 10=>some ⟨⟨[49,48]⟩⟩
  | _=>none
noncomputable def intS (i:Int):Str:=Str.ofString (toString i)
theorem digS_all:∀ n:Nat,n < 11→digS n=some (intS (.ofNat n)):=by decide +kernel
theorem digS_ok {n:Nat} {x:Str} (h:digS n=some x):n < 11∧x=intS (.ofNat n):=by
  have l:n < 11:=Nat.lt_of_not_le fun l=>by
    obtain ⟨m,e⟩:=Nat.le.dest l
    rw [← e,Nat.add_comm] at h
    exact no_some h
  exact ⟨l,Option.some.inj (h.symm.trans (digS_all n l))⟩
noncomputable def natO {γ:Type} (a:AV) (f:Nat→Option γ):Option γ:=litO a fun i=>natI i f
noncomputable def opStr (as:List AV):Rd→List Orc→List AObj→Option (AR AV):=fun _ orc σ=>oneA as fun a=>intO a (fun l i=>pk l (natI i fun n=>obn (digS n) fun x=>some (.str x,σ,[],orc)) (some (.ss (intS i),σ,[i.natAbs < 1000000],orc))) none
theorem Ok.natI {γ:Type} {C:γ→Prop} {G:Int→Prop} {i:Int} {f:Nat→Option γ} (P:Ok C (T.natI i f)) (h:∀ n:Nat,Ok C (f n)→G (.ofNat n)):G i:=by
  cases i with
  | ofNat n=>exact h n P
  | negSucc n=>exact P.no
theorem str_ok {Q:Value→Shared→Prop} {i:Int} {t:Tok} (hi:i.natAbs < 1000000) (k:∀ t tk,Q (.str (intS i) t) {s with toks:=tk}):wpAny (model g.prog g.w) A (call (.type "str") [.int i t] []) Q E s :=
  str_of_int_fit (N:=1000000) (by split<;>omega) (by decide) fun _=>k _ _
theorem leaf_str {c₀:Cc} {as:List AV} {vs:List Value} (hv:VRels c₀ as vs):LeafN g c₀ (opStr as) (call (.type "str") vs []) VRel :=
  .q fun rd orc σ c fs A s Q E C x H k o P=>P.oneA (G:=fun vs=>wpAny (model g.prog g.w) A (call (.type "str") vs []) Q E s) (hv.mono x) fun _ _ h1 P=>P.intO (G:=fun v=>wpAny (model g.prog g.w) A (call (.type "str") [v] []) Q E s) h1 (fun _ i t _ P =>
    P.pk (fun _ P=>P.natI (G:=fun i=>wpAny (model g.prog g.w) A (call (.type "str") [.int i t] []) Q E s) fun n P=>P.obn fun y e P=>let ⟨l,e⟩:=digS_ok e;str_ok (Nat.lt_trans l (by decide)) fun _ tk=>k _ _ _ _ c _ _ P (.refl c) (H.tick tk) (e▸.str _ _))
      fun _ P=>str_ok (o _ P).1 fun _ tk=>k _ _ _ _ c _ _ P (.refl c) (H.tick tk) (.ss _ _)) Ok.no
noncomputable def onetwo {γ:Type} (as:List AV) (f:AV→Option γ) (h:AV→AV→Option γ):Option γ:=consA as fun a r=>match r with
  | []=>f a
  | _::_=>oneA r (h a)
noncomputable def opRange (as:List AV):Rd→List Orc→List AObj→Option (AR AV):=fun _ orc σ=>onetwo as (fun a=>natO a fun n=>some (.rg 0 n,σ,[],orc)) fun x y=>litO x fun a=>litO y fun b=>natI (b - a) fun n=>some (.rg a n,σ,[],orc)
theorem Ok.onetwo {γ:Type} {C:γ→Prop} {c:Cc} {G:List Value→Prop} {as:List AV} {vs:List Value} {f:AV→Option γ} {h:AV→AV→Option γ} (P:Ok C (T.onetwo as f h)) (hv:VRels c as vs) (h1:∀ a x,VRel c a x→Ok C (f a)→G [x]) (h2:∀ a x b y,VRel c a x→VRel c b y→Ok C (h a b)→G [x,y]):G vs :=
  Ok.consA P hv fun a x as xs r t P=>by
    cases t with
    | nil=>exact h1 a x r P
    | cons r2 t=>exact Ok.oneA (G:=fun xs=>G (x::xs)) P (.cons r2 t) fun b y r2 P=>h2 a x b y r r2 P
theorem range_ok (H:Hp g hnd dep c σ fs A s) {Q:Value→Shared→Prop} {a b:Int} {ta tb tc:Tok} {tk:Nat} {n:Nat} (e:b - a=(n:Int)) (k:∀ c' s' v,Ext c c'→Hp g hnd dep c' σ fs A s'→VRel c' (.rg a n) v→Q v s') :
    Q (.ref s.heap.objs.size) {s with heap:=s.heap.push {cls:=.type "range",data:=.fields #[.int a ta,.int b tb,.int 1 tc]},toks:=tk}:=by
  refine k _ _ _ (Ext.addG _ H.st.gNone) (H.allocI (o:={cls:=.type "range",data:=.fields #[.int a ta,.int b tb,.int 1 tc]}) (tk:=tk) rfl) (.rg (t:=ta) (u:=tb) (v:=tc) ?_)
  rw [addG_at,← e,show a+(b - a)=b by omega]
theorem leaf_range {c₀:Cc} {as:List AV} {vs:List Value} (hv:VRels c₀ as vs):LeafN g c₀ (opRange as) (call (.type "range") vs []) VRel :=
  .q fun rd orc σ c fs A s Q E C x H k o P=>P.onetwo (G:=fun vs=>wpAny (model g.prog g.w) A (call (.type "range") vs []) Q E s) (hv.mono x)
    (fun _ _ h1 P=>P.litO (G:=fun v=>wpAny (model g.prog g.w) A (call (.type "range") [v] []) Q E s) h1 fun i t P=>P.natI (G:=fun i=>wpAny (model g.prog g.w) A (call (.type "range") [.int i t] []) Q E s) fun n P=>call_range_1 (range_ok H (n:=n) (Int.sub_zero _) fun c' s' v X H' r=>k _ _ _ _ c' s' v P X H' r))
    fun _ _ _ w h1 h2 P=>P.litO (G:=fun v=>wpAny (model g.prog g.w) A (call (.type "range") [v,w] []) Q E s) h1 fun a t P=>P.litO (G:=fun v=>wpAny (model g.prog g.w) A (call (.type "range") [.int a t,v] []) Q E s) h2 fun b u P =>
      (P.natI (G:=fun i=>b - a=i→wpAny (model g.prog g.w) A (call (.type "range") [.int a t,.int b u] []) Q E s) fun n P e=>call_range_2 (range_ok H e fun c' s' v X H' r=>k _ _ _ _ c' s' v P X H' r)) rfl
end
end T
namespace T
section
variable {g:Gd} {hnd:Option Nat} {dep:Nat} {c:Cc} {σ:List AObj} {fs:List Out} {A:Around} {E:Value→Shared→Prop} {s:Shared}
noncomputable def strsOf:List AV→Option (List Str)
  | []=>some []
  | a::r=>obn (strOf a) fun p=>Option.map (p.2::·) (strsOf r)
theorem strsOf_ok {c:Cc} {vs:List AV} {vals:List Value} (h:VRels c vs vals):∀ {ys:List Str},strsOf vs=some ys→StrsAre vals ys :=
  h.ind (P:=fun vs vals=>∀ {ys:List Str},strsOf vs=some ys→StrsAre vals ys) (fun e=>Option.some.inj e▸.nil) fun a as x xs h _ ih ys e=>by
    obtain ⟨p,e1,e⟩:=obn_some e
    obtain ⟨zs,e2,e3⟩:=Option.map_eq_some_iff.mp e
    obtain ⟨tk,e4⟩:=strOf_ok (l:=p.1) h e1
    rw [← e3,e4]
    exact .cons _ _ (ih e2)
noncomputable def joinE (ys:List Str):Str:=Txt.join Str.empty ys
noncomputable def emptyS {γ:Type} (a:AV) (x:Option γ):Option γ:=match a with
  | .str y=>(match y.cps.toList with
    | []=>x
    | _::_=>none)
  | _=>none
theorem Ok.emptyS {γ:Type} {C:γ→Prop} {c:Cc} {G:Value→Prop} {a:AV} {v:Value} {x:Option γ} (P:Ok C (T.emptyS a x)) (hv:VRel c a v) (h:∀ t,Ok C x→G (.str Str.empty t)):G v:=by
  cases a with
  | str y =>
    obtain ⟨⟨l⟩⟩:=y
    cases l with
    | nil=>exact hv.elim fun t=>h t P
    | cons=>exact P.no
  | _=>exact P.no
noncomputable def opJoin (as:List AV):Rd→List Orc→List AObj→Option (AR AV):=fun _ orc σ=>twoA as fun x v=>emptyS x (lsO σ v fun vs=>askV orc fun a r=>some (a,σ,[∃ ys,strsOf vs=some ys∧(ys.map slen).sum≤16000000∧a=.ss (joinE ys)],r))
theorem sum_slen (ys:List Str):(ys.map (·.length))=ys.map slen:=List.map_congr_left fun z _=>slen_eq z
theorem leaf_join {c₀:Cc} {as:List AV} {vs:List Value} (hv:VRels c₀ as vs):LeafN g c₀ (opJoin as) (call (.builtin "str.join") vs []) VRel :=
  .q fun rd orc σ c fs A s Q E C x H k o P=>P.twoA (G:=fun vs=>wpAny (model g.prog g.w) A (call (.builtin "str.join") vs []) Q E s) (hv.mono x) fun _ _ _ w h1 h2 P=>P.emptyS (G:=fun v=>wpAny (model g.prog g.w) A (call (.builtin "str.join") [v,w] []) Q E s) h1 fun t P =>
    P.lsO (G:=fun w=>wpAny (model g.prog g.w) A (call (.builtin "str.join") [.str Str.empty t,w] []) Q E s) H h2 fun _ _ vals q1 q2 P=>P.askV fun _ _ P=>by
      obtain ⟨ys,p1,p2,p3⟩:=(o _ P).1
      refine join_list q2 (strsOf_ok q1 p1) ?_ fun t' tk=>k _ _ _ _ c _ _ P (.refl c) (H.tick _) (p3▸.ss _ _)
      rw [sum_slen,show Str.empty.length=0 from rfl,Nat.mul_zero]
      exact Nat.le_trans p2 (by decide)
noncomputable def Weak (b a:AV):Prop:=∀ c v,VRel c b v→VRel c a v
noncomputable def idxO (vs:List AV) (k:Int) (σ:List AObj) (orc:List Orc):Option (AR AV):=match k with
  | .ofNat n=>gdO (Nat.blt n 10000) (obn vs[n]? fun a=>some (a,σ,[],orc))
  | .negSucc n=>gdO (cond (Nat.blt n vs.length) (Nat.blt vs.length 10000) false) (obn vs[vs.length - (n+1)]? fun a=>some (a,σ,[],orc))
noncomputable def opIdx (v key:AV):Rd→List Orc→List AObj→Option (AR AV):=fun _ orc σ=>obn (seqOf σ v) fun vs=>intO key (fun l k=>pk (told σ v && l) (idxO vs k σ orc)
  (askV orc fun a r=>some (a,σ,[∃ n b,k=.ofNat n∧n < 1000000∧vs[n]?=some b∧Weak b a],r))) none
theorem read_ok {Q:Value→Shared→Prop} {a:Addr} {vals:List Value} {b:Bool} {kk:Int} {t:Tok} {y:Value} {j:Nat} (q:SqAt s.heap a vals b) (hj:seqIndex? kk vals.length=some j) (hlo:-(2 ^ 63)≤kk) (hhi:kk < 2 ^ 63) (hy:vals[j]?=some y) (hQ:Q y s) :
    wpAny (model g.prog g.w) A (subT (.ref a) (.int kk t)) Q E s:=by
  delta subT getitemInPython
  cases q with
  | tup q2 =>
    obtain ⟨o,ho,hc,n,hd⟩:=id q2
    refine wpAny_bind (wpAny_bind (wpAny_specialOf (⟨o,ho,hc⟩:s.TypeIs (.ref a) "tuple") F.slot_tuple_getitem.lookup (wpAny_pure (wpAny_operate' ?_))))
    exact PyProof.Rows.getItem_tuple (s:=s) (items:=vals.toArray) (show IsTup _ _ _ from q2) hlo hhi hj (List.getElem?_toArray.trans hy) hQ
  | lst q2 =>
    refine wpAny_bind (wpAny_bind (wpAny_specialOf q2.typeIs slot_list_getitem.lookup (wpAny_pure (wpAny_operate' ?_))))
    have hy:vals.toArray[j]?=some y:=List.getElem?_toArray.trans hy
    by_cases h0:0≤kk
    · have hn:kk < vals.length:=by
        delta seqIndex? at hj
        simp only [Int.not_lt.mpr h0,if_false] at hj
        split at hj
        · rename_i z;simp at z;omega
        · exact no_some hj
      rw [seqIndex_of h0 hn] at hj
      exact wpAny_getItem_list q2 h0 hhi (Option.some.inj hj▸hy) hQ
    · have h0:kk < 0:=Int.not_le.mp h0
      have h1:-(vals.length:Int)≤kk:=by
        delta seqIndex? at hj
        simp only [h0,if_true] at hj
        split at hj
        · rename_i z;simp at z;omega
        · exact no_some hj
      rw [PySem.seqIndex_neg h0 h1] at hj
      exact wpAny_getItem_list_neg q2 h0 h1 hlo (Option.some.inj hj▸hy) hQ
theorem read_nat {Q:Value→Shared→Prop} {a:Addr} {vs:List AV} {vals:List Value} {b:Bool} {n:Nat} {t:Tok} {x:AV} (q:SqAt s.heap a vals b) (r:VRels c vs vals) (hn:n < 1000000) (e:vs[n]?=some x) (k:∀ y,VRel c x y→Q y s):wpAny (model g.prog g.w) A (subT (.ref a) (.int (.ofNat n) t)) Q E s:=by
  obtain ⟨y,y1,y2⟩:=(e▸r.nth n:Found c vals[n]? (some x))
  have hl:n < vals.length:=(List.getElem?_eq_some_iff.mp y1).1
  exact read_ok q (seqIndex_of (Int.natCast_nonneg n) (Int.ofNat_lt.mpr hl)) (by show _≤((n:Nat):Int);omega) (by show ((n:Nat):Int) < _;omega) y1 (k y y2)
theorem idxO_ok {Q:Value→Shared→Prop} {a:Addr} {vs:List AV} {vals:List Value} {b:Bool} {t:Tok} {kk:Int} {orc:List Orc} {C:AR AV→Prop} (q:SqAt s.heap a vals b) (r:VRels c vs vals) (P:Ok C (idxO vs kk σ orc)) (k:∀ x y,C (x,σ,[],orc)→VRel c x y→Q y s) :
    wpAny (model g.prog g.w) A (subT (.ref a) (.int kk t)) Q E s:=by
  cases kk with
  | ofNat n=>exact Ok.gdO P fun e3 P=>P.obn fun x e P=>read_nat q r (Nat.lt_trans (Nat.le_of_ble_eq_true e3) (by decide)) e fun y h=>k x y P h
  | negSucc n =>
    refine Ok.gdO P fun e3 P=>P.obn fun x e P=>?_
    obtain ⟨e3,e4⟩:=cond_ff e3
    have e3:n < vs.length:=Nat.le_of_ble_eq_true e3
    have e4:vs.length < 10000:=Nat.le_of_ble_eq_true e4
    obtain ⟨y,y1,y2⟩:=(e▸r.nth _:Found c vals[vs.length - (n+1)]? (some x))
    refine read_ok q ?_ (by omega) (by omega) y1 (k x y P y2)
    rw [← r.length,PySem.seqIndex_neg (by omega) (by omega)]
    congr 1
    omega
theorem leaf_idx {c₀:Cc} {v key:AV} {v' key':Value} (hv:VRel c₀ v v') (hk:VRel c₀ key key'):LeafN g c₀ (opIdx v key) (subT v' key') VRel :=
  .q fun rd orc σ c fs A s Q E C x H k o P=>P.obn fun vs e P=>seq_val (G:=fun v'=>wpAny (model g.prog g.w) A (subT v' key') Q E s) H (hv.mono x) e fun a vals r q=>P.intO (G:=fun key'=>wpAny (model g.prog g.w) A (subT (.ref a) key') Q E s) hk
    (fun _ kk t _ P=>P.pk (fun _ P=>idxO_ok q r P fun x y P h=>k _ _ _ _ c s y P (.refl c) H h) fun _ P=>P.askV fun _ _ P=>by
      obtain ⟨n,b,e1,e2,e3,e4⟩:=(o _ P).1
      rw [e1]
      exact read_nat q r e2 e3 fun y h=>k _ _ _ _ c s y P (.refl c) H (e4 _ _ h)) Ok.no
end
end T
namespace T
section
variable {g:Gd} {hnd:Option Nat} {dep:Nat} {c:Cc} {σ:List AObj} {fs:List Out} {A:Around} {E:Value→Shared→Prop} {s:Shared}
theorem Hp.fOut (H:Hp g hnd dep c σ fs A s) {it:Addr} {o:Obj} (hF:c.F it=some o):it ∉ (fs.map fun o=>(o.env.locals,o.m)).map (·.1)++c.r∧it ∉ c.tb∧(c.setF it none).free it :=
  ⟨fun m=>no_some ((H.st.sep it m).2.symm.trans hF),fun m=>no_some ((H.st.tbs it m).2.1.2.symm.trans hF),Option.eq_none_iff_forall_ne_some.mpr fun x q=>no_some ((H.st.disj it x q).symm.trans hF),setF_at ..⟩
theorem Hp.settleG (H:Hp g hnd dep c σ fs A s) {it:Addr} {o o':Obj} (hF:c.F it=some o) {h':Heap} {tk:Nat} (hx:Heap.ExtBut it s.heap h') (ho:h'.get? it=some o') :
    Hp g hnd dep ((c.setF it none).addG it o') σ fs A {s with heap:=h',toks:=tk}∧Ext (c.setF it none) ((c.setF it none).addG it o') :=
  let ⟨n1,n3,fr⟩:=H.fOut hF
  have H1:=H.turnF (tk:=tk) (o':=none) hF hx fun o1 z=>no_some z
  ⟨H1.upd (Ext.addG o' fr) (H1.st.claimG n1 n3 fr ho),Ext.addG o' fr⟩
theorem Hp.settleR (H:Hp g hnd dep c σ fs A s) {it:Addr} {o o':Obj} {b:AObj} (hF:c.F it=some o) {h':Heap} {tk:Nat} (hx:Heap.ExtBut it s.heap h') (ho:h'.get? it=some o') (hl:1 < it) (r:ORel g.hb ((c.setF it none).addR it) b o') :
    Hp g hnd dep ((c.setF it none).addR it) (σ++[b]) fs A {s with heap:=h',toks:=tk}∧Ext (c.setF it none) ((c.setF it none).addR it) :=
  let ⟨n1,n3,fr⟩:=H.fOut hF
  have H1:=H.turnF (tk:=tk) (o':=none) hF hx fun o1 z=>no_some z
  ⟨H1.upd (Ext.addR _ it) (H1.st.claimR n1 n3 fr ho r) fun a m=>(List.mem_append.mp (show a∈c.r++[it] from m)).elim (H.low a) fun m=>List.mem_singleton.mp m▸hl,Ext.addR _ it⟩
end
inductive PPR (c:Cc):List (AV × AV)→List (Value × Value)→Prop
  | nil:PPR c [] []
  | cons {p q r t}:VRel c p.1 q.1→VRel c p.2 q.2→PPR c r t→PPR c (p::r) (q::t)
theorem PPR.mono {c c':Cc} (x:Ext c c') {a:List (AV × AV)} {b:List (Value × Value)} (h:PPR c a b):PPR c' a b:=by
  induction h with
  | nil=>exact .nil
  | cons h1 h2 _ ih=>exact .cons (h1.mono x) (h2.mono x) ih
noncomputable def pairsE (ex:Expr→EM AV):List (Option Expr)→List Expr→EM (List (AV × AV))
  | [],_=>ret []
  | k::ks,vs=>match k with
    | none=>flt
    | some k=>(match vs with
      | []=>flt
      | v::vs=>bnd (ex k) fun a=>bnd (ex v) fun b=>bnd (pairsE ex ks vs) fun r=>ret ((a,b)::r))
noncomputable def pairsT (pos:Pos) (env:Env):List (Option Expr)→List Expr→List (Sem Value × Sem Value)
  | [],_=>[]
  | k::ks,vs=>match k with
    | none=>[]
    | some k=>(match vs with
      | []=>[]
      | v::vs=>(eval k env,do let x ← eval v env;standAt pos;pure x)::pairsT pos env ks vs)
noncomputable def allSome:List (Option Expr)→List Expr→Bool
  | [],vs=>vs.isEmpty
  | k::ks,vs=>match k with
    | none=>false
    | some _=>(match vs with
      | []=>false
      | _::vs=>allSome ks vs)
theorem pairs_shape (pos:Pos) (env:Env) (ks:List (Option Expr)):∀ (vs:List Expr),allSome ks vs=true →
    (evalEachOpt ks env).zip ((evalEach vs env).map fun v=>do let x ← v;standAt pos;pure x)=(pairsT pos env ks vs).map (fun p=>(some p.1,p.2))∧(pairsT pos env ks vs).length=vs.length:=by
  induction ks with
  | nil =>
    intro vs h
    cases vs with
    | nil=>exact ⟨rfl,rfl⟩
    | cons=>exact no_tf h
  | cons k ks ih =>
    intro vs h
    cases k with
    | none=>exact no_tf h
    | some k=>cases vs with
      | nil=>exact no_tf h
      | cons v vs =>
        obtain ⟨h1,h2⟩:=ih vs h
        exact ⟨congrArg (fun z=>(some (eval k env),(eval v env>>=fun x=>standAt pos>>=fun _=>pure x))::z) h1,congrArg (·+1) h2⟩
section
variable {g:Gd}
theorem S_pairs {ex:Expr→EM AV} (hex:∀ e,SE g (ex e) e) (pos:Pos) (ks:List (Option Expr)):∀ (vs:List Expr) (c:Cc),Snd g c (pairsE ex ks vs) (fun env=>evalPairs (pairsT pos env ks vs)) PPR:=by
  induction ks with
  | nil=>exact fun _ _=>.pure fun _ _=>.nil
  | cons k ks ih =>
    intro vs c
    cases k with
    | none=>exact .flt
    | some k=>cases vs with
      | nil=>exact .flt
      | cons v vs =>
        have mid:∀ (a':Value) c1,Snd g c1 (ex v) (fun env=>holding [a'] (eval v env>>=fun x=>standAt pos>>=fun _=>pure x)) VRel:=fun a' c1 =>
          .hold (vs:=fun _=>[a']) (.after (post:=fun _ x=>standAt pos>>=fun _=>pure x) (hex v c1) fun _ _ _ _ _ _ q=>wpAny_bind (wpAny_standAt (wpAny_pure q)))
        show Snd g c (bnd (ex k) fun a=>bnd (ex v) fun b=>bnd (pairsE ex ks vs) fun r=>ret ((a,b)::r))
          (fun env=>eval k env>>=fun kv=>holding [kv] (eval v env>>=fun x=>standAt pos>>=fun _=>pure x)>>=fun vv=>holding [kv,vv] (evalPairs (pairsT pos env ks vs))>>=fun r=>pure ((kv,vv)::r)) PPR
        exact .bind (hex k c) fun a a' c1 x1 ha=>.bind (mid a' c1) fun b b' c2 x2 hb=>.bind (.hold (vs:=fun _=>[a',b']) (ih vs c2)) fun r r' c3 x3 hr=>.pure fun _ x=>.cons (ha.mono (x2.trans (x3.trans x))) (hb.mono (x3.trans x)) (hr.mono x)
noncomputable def storeL:List (AV × AV)→List (Str × AV)→Option (List (Str × AV))
  | [],es=>some es
  | p::r,es=>obn (strOf p.1) fun q=>gdO q.1 (storeL r (putS es q.2 p.2))
theorem storeAll_ok {A:Around} {E:Value→Shared→Prop} {c:Cc} {d:Addr} {ps:List (AV × AV)} {vs:List (Value × Value)} (hp:PPR c ps vs):∀ (es0 es:List (Str × AV)) (s:Shared) (Q:PUnit→Shared→Prop),storeL ps es0=some es→es0.length+ps.length≤1000 →
    DAt s.heap c (strKind g.prog g.w) d es0→(∀ h' tk,Heap.SameBut d s.heap h'→DAt h' c (strKind g.prog g.w) d es→Q PUnit.unit {s with heap:=h',toks:=tk}) →
    wpAny (model g.prog g.w) A (forIn vs PUnit.unit fun (x:Value × Value) (_:PUnit)=>(do dictSet d x.1 x.2;pure (ForInStep.yield PUnit.unit):Sem (ForInStep PUnit))) Q E s:=by
  induction hp with
  | nil =>
    intro es0 es s Q e _ D k
    rw [List.forIn_nil]
    exact wpAny_pure (k _ _ (Heap.SameBut.refl _ _) (Option.some.inj e▸D))
  | @cons p v ps vs h1 h2 _ ih =>
    intro es0 es s Q e hz D k
    obtain ⟨q,e1,e⟩:=obn_some e
    obtain ⟨_,e⟩:=gdO_ok e
    rw [List.forIn_cons]
    have hk:(strKind g.prog g.w).is q.2 v.1=true:=by
      obtain ⟨t,e2⟩:=strOf_ok (l:=q.1) h1 e1
      rw [e2];exact beq_self_eq_true q.2
    rw [List.length_cons] at hz
    refine wpAny_bind (wpAny_bind (d_setRaw hk D h2 (by omega) fun h1 hs1 D1=>wpAny_pure (ih _ es _ Q e ?_ (putD_putS es0 q.2 p.2▸D1) fun h' tk hs D'=>k h' tk (hs1.trans hs) D')))
    have:=putS_length es0 q.2 p.2
    omega
noncomputable def dictR (im:Bool) (es:List (Str × AV)) (σ:List AObj):AV × List AObj:=match im with
  | true=>(.fd es,σ)
  | false=>(.mut σ.length,σ++[.sd false es])
noncomputable def dictE (im:Bool) (ex:Expr→EM AV) (ks:List (Option Expr)) (vs:List Expr):EM AV:=pk (cond (allSome ks vs) (cond vs.isEmpty false (Nat.ble vs.length 15)) false)
  (bnd (pairsE ex ks vs) fun ps=>sop fun _ σ=>obn (storeL ps []) fun es=>gdO (Nat.ble ps.length 500) (some (dictR im es σ))) flt
theorem S_dict {im:Bool} {ex:Expr→EM AV} (hex:∀ e,SE g (ex e) e) {ks:List (Option Expr)} {vs:List Expr} {pos:Pos}:SE g (dictE im ex ks vs) (.Dict ks vs pos):=by
  intro c₀
  delta dictE
  cases hg:cond (allSome ks vs) (cond vs.isEmpty false (Nat.ble vs.length 15)) false with
  | false=>exact .flt
  | true =>
  obtain ⟨hall,hg⟩:=cond_ff hg
  obtain ⟨hemp,hlen⟩:=cond_ft hg
  have hlen:=Nat.le_of_ble_eq_true hlen
  refine .q fun rd as c f outs lm A s Q E C x I ob kk P=>?_
  obtain ⟨sh,ln⟩:=pairs_shape pos f.env ks _ hall
  rw [arm_eval_Dict,sh,dictDisplay_pairs _ (fun z=>by rw [z] at ln;rw [List.length_eq_zero_iff.mp ln.symm] at hemp;cases hemp) (by rw [ln];omega)]
  refine wpAny_bind (wpAny_standAt (wpAny_bind ?_))
  delta subDict
  refine wpAny_bind (wpAny_alloc (wpAny_bind (wpAny_holding ?_)))
  rw [if_pos (by rw [ln];omega)]
  have hn:c.F s.heap.objs.size=none:=I.hp.st.gNone.2
  have hlow:1 < s.heap.objs.size:=I.hp.size
  have I1:Inv g rd (c.setF s.heap.objs.size (some emptyDict)) f outs lm as A {s with heap:=s.heap.push emptyDict}:=I.sub (Sub.setF ..) (I.hp.fresh emptyDict rfl (tk:=s.toks))
  generalize hd:s.heap.objs.size=d at *
  refine wpAny_bind ((S_pairs hex pos ks vs _).step (.refl _) I1 ob P (fun ps as2 c2 lm2 s2 pv P x2 I2 hpv=>?_) fun i as' c' lm' s' e P x' I' he hi=>kk (.exc i) as' (c'.setF d none) lm' s' P (x'.dropF hn) (I'.dropF (x'.F▸setF_at ..)) e he hi)
  have hF:c2.F d=some emptyDict:=x2.F▸setF_at ..
  refine wpAny_holding (wpAny_bind (P.sop1.obn fun es e3 P=>P.gdO fun e4 P=>storeAll_ok hpv [] es s2 _ e3 ?_ ⟨#[],0,I2.hp.st.keep _ _ (.inr hF),.nil⟩ fun h' tk hs D'=>wpAny_pure (wpAny_pure (wpAny_pure ?_))))
  · exact (Nat.zero_add _).symm▸Nat.le_trans (Nat.le_of_ble_eq_true e4) (by decide)
  obtain ⟨ens,n,g1,g2⟩:=D'
  have g2:=SRels.ofDr I2.hp.w g2
  cases im with
  | true =>
    obtain ⟨H3,X3⟩:=I2.hp.settleG (tk:=tk) hF hs.extBut g1
    have sb:=Sub.trans' (Sub.setF c2 d none) X3.sub
    exact kk _ _ _ lm2 _ P ((x2.dropF hn).trans X3) (I2.sub sb H3) _ (.fd (addG_at ..) (g2.sub sb) (beq_eq_false_iff_ne.mpr fun z=>by rw [z] at hlow;exact absurd hlow (by decide)))
  | false =>
    obtain ⟨H3,X3⟩:=I2.hp.settleR (b:=.sd false es) (tk:=tk) hF hs.extBut g1 hlow ⟨ens,n,rfl,g2.sub (Sub.trans' (Sub.setF ..) (Ext.addR _ _).sub)⟩
    exact kk _ _ _ lm2 _ P ((x2.dropF hn).trans X3) ⟨H3,fun y v hy=>let ⟨v',p,z⟩:=I2.ls y v hy;⟨v',p,z.sub (Sub.trans' (Sub.setF ..) X3.sub)⟩,I2.sc,I2.room⟩ _ (.mut (I2.hp.st.len▸List.getElem?_concat_length))
end
end T
namespace T
section
variable {g:Gd}
theorem VRels.size {c:Cc} {a:List AV} {b:List Value} (h:VRels c a b) {n:Nat} (e:Nat.ble a.length n=true):b.length≤n:=by
  rw [← h.length];exact Nat.le_of_ble_eq_true e
noncomputable def tupE (ex:Expr→EM AV) (es:List Expr):EM AV:=bnd (evs ex es) fun vs=>sop fun _ σ=>gdO (Nat.ble vs.length 1000) (some (.tup vs,σ))
theorem sz1000 {n:Nat} (h:n≤1000):n≤sizeLine:=Nat.le_trans h (Nat.le_trans (by decide) sizeLine_big)
theorem S_tup {ex:Expr→EM AV} (hex:∀ e,SE g (ex e) e) {es:List Expr} {n:Nat} {pos:Pos}:SE g (tupE ex es) (.Tuple es n pos):=by
  intro c
  show Snd g c (tupE ex es) (fun env=>standAt pos>>=fun _=>spliced (backTo pos (starEach es env))>>=fun vs=>newTuple vs) VRel
  exact .stand (p:=fun _=>pos) (.bind (S_evs hex pos es c) fun as vs c1 x1 h1=>.leaf fun _=>.s fun rd σ c2 fs A s Q E C x H k P=>P.gdO fun e1 P =>
    wpAny_newTuple (k _ _ _ _ _ P (Ext.addG _ H.st.gNone) (H.allocI (o:=tupObj vs.toArray) (tk:=s.toks) rfl) (.tup (addG_at ..) ((h1.mono x).mono (Ext.addG (tupObj vs.toArray) H.st.gNone)))) (sz1000 (h1.size e1)))
noncomputable def listE (im:Bool) (ex:Expr→EM AV) (es:List Expr):EM AV:=bnd (evs ex es) fun vs=>sop fun _ σ=>gdO (Nat.ble vs.length 1000) (pk im (some (.fl vs,σ)) (some (.mut σ.length,σ++[.list false vs])))
theorem Hp.newLst {hnd:Option Nat} {dep:Nat} {c:Cc} {σ:List AObj} {fs:List Out} {A:Around} {s:Shared} (H:Hp g hnd dep c σ fs A s):(c.addR s.heap.objs.size).r[σ.length]?=some s.heap.objs.size:=H.st.len▸List.getElem?_concat_length
theorem S_list {im:Bool} {ex:Expr→EM AV} (hex:∀ e,SE g (ex e) e) {es:List Expr} {pos:Pos}:SE g (listE im ex es) (.List es pos):=by
  intro c
  show Snd g c (listE im ex es) (fun env=>standAt pos>>=fun _=>spliced (backTo pos (starEach es env))>>=fun vs=>newList vs) VRel
  exact .stand (p:=fun _=>pos) (.bind (S_evs hex pos es c) fun as vs c1 x1 h1=>.leaf fun _=>.s fun rd σ c2 fs A s Q E C x H k P=>P.gdO fun e1 P =>
    P.pk (fun _ P=>wpAny_newList (k _ _ _ _ _ P (Ext.addG _ H.st.gNone) (H.allocI (o:=listObj vs.toArray 0) (tk:=s.toks) rfl) (.fl (addG_at ..) ((h1.mono x).mono (Ext.addG (listObj vs.toArray 0) H.st.gNone)))) (sz1000 (h1.size e1)))
      fun _ P=>wpAny_newList (k _ _ _ _ _ P (Ext.addR c2 _) (H.alloc (o:=listObj vs.toArray 0) (b:=.list false as) (tk:=s.toks) rfl ⟨_,0,rfl,(h1.mono x).mono (Ext.addR c2 _),fun z=>by cases z⟩) (.mut H.newLst)) (sz1000 (h1.size e1)))
end
section
variable {g:Gd} {hnd:Option Nat} {dep:Nat} {c:Cc} {σ:List AObj} {fs:List Out} {A:Around} {E:Value→Shared→Prop} {s:Shared}
theorem setAt_rel {c:Cc} {b:AV} {v:Value} (hb:VRel c b v) {a:List AV} {x:List Value} (h:VRels c a x):∀ n:Nat,VRels c (a.set n b) (x.set n v) :=
  h.ind (P:=fun a x=>∀ n:Nat,VRels c (a.set n b) (x.set n v)) (fun _=>.nil) fun _ _ _ _ h t ih n=>Nat.casesOn n (.cons hb t) fun n=>.cons h (ih n)
noncomputable def opSetI (v key b:AV):Rd→List Orc→List AObj→Option (AR Unit):=fun _ orc σ=>mutO v fun i=>intO key (fun l k=>lstC σ[i]? fun sy vs =>
  pk sy (gdO (clF 6 b) (askN orc fun n r=>some ((),σ.set i (.list sy (vs.set n b)),[k=.ofNat n,n < vs.length,vs.length≤sizeLine],r)))
    (gdO l (natI k fun n=>gdO (cond (Nat.blt n vs.length) (Nat.ble vs.length 10000) false) (some ((),σ.set i (.list sy (vs.set n b)),[],orc))))) none
theorem setI_ok (H:Hp g hnd dep c σ fs A s) {Q:Unit→Shared→Prop} {i:Nat} {a:Addr} {sy:Bool} {vs:List AV} {n:Nat} {kk:Int} {b:AV} {v:Value} {t:Tok} (hk:kk=((n:Nat):Int)) (hi:c.r[i]?=some a) (e1:σ[i]?=some (.list sy vs)) (hb:VRel c b v) (hn:n < vs.length) (hz:vs.length≤sizeLine) (hc:sy=true→Cl b)
    (k:∀ s',Hp g hnd dep c (σ.set i (.list sy (vs.set n b))) fs A s'→Q () s'):wpAny (model g.prog g.w) A (setItem (.ref a) (.int kk t) v) Q E s:=by
  obtain ⟨vals,m,p,q,hcl⟩:=H.lst hi e1
  have hl:=q.sizeA
  have hT:s.TypeIs (.ref a) "list" := ⟨_,p,rfl⟩
  have sb:sizeLine=16777216:=sizeLine_eq
  have lt:n < vals.size:=hl▸hn
  have f1:0≤kk:=by omega
  have f2:kk < 2 ^ 63:=by omega
  clear sb hz
  have fin:=k _ (H.setLst (tk:=s.toks) (f:=(·.setIfInBounds n v)) hi p (by rw [Array.toList_setIfInBounds];exact setAt_rel hb q n) fun z w hw=>(List.mem_or_eq_of_mem_set hw).elim (hcl z w) fun e=>e▸hc z)
  clear hcl q
  delta setItem
  refine wpAny_holding (wpAny_bind (wpAny_sequenceKey hT (by decide) ?_))
  refine wpAny_bind (wpAny_callSpecial?_slot (name:=Str.ofString "__setitem__") hT slot_list_setitem (wpAny_call_entry slot_list_setitem hT entry_list_setitem ?_ (args_list_setitem _ _ _)))
  show wpAny _ _ (Builtin.List.listSubscript? (.int kk t)>>=_) _ _ s
  refine wpAny_bind (wpAny_listSubscript_int (fitsIndex_of f1 f2) ?_)
  clear f1 f2
  subst hk
  show wpAny _ _ ((seqItemAt a n>>=fun r=>pure (r.map (n,·)))>>=_) _ _ s
  refine wpAny_bind (wpAny_bind (wpAny_seqItemAt p rfl (wpAny_pure ?_)))
  rw [Array.getElem?_eq_getElem lt]
  show wpAny _ _ (setSeqItemAt a n v>>=_) _ _ s
  refine wpAny_bind (wpAny_setSeqItemAt p rfl ?_)
  first
    | exact wpAny_bind (wpAny_pure (wpAny_pure ⟨.none,rfl,wpAny_pure fin⟩))
    | exact wpAny_pure ⟨.none,rfl,wpAny_pure fin⟩
theorem leaf_setI {c₀:Cc} {v key b:AV} {v' key' b':Value} (hv:VRel c₀ v v') (hk:VRel c₀ key key') (hb:VRel c₀ b b'):LeafN g c₀ (opSetI v key b) (setItem v' key' b') (fun _ _ _=>True) :=
  .q fun rd orc σ c fs A s Q E C x H k o P=>P.mutO (G:=fun v'=>wpAny (model g.prog g.w) A (setItem v' key' b') Q E s) (hv.mono x) fun i a hi P=>P.intO (G:=fun key'=>wpAny (model g.prog g.w) A (setItem (.ref a) key' b') Q E s) hk (fun l kk t _ P=>P.lstC fun sy vs e1 P =>
    P.pk (fun _ P=>P.gdO fun e3 P=>P.askN fun n _ P=>setI_ok H (o _ P).1 hi e1 (hb.mono x) (o _ P).2.1 (o _ P).2.2.1 (fun _=>⟨6,e3⟩) fun s' H'=>k _ _ _ _ c s' () P (.refl c) H' trivial)
      fun q P=>P.gdO fun _ P=>P.natI (G:=fun kk=>wpAny (model g.prog g.w) A (setItem (.ref a) (.int kk t) b') Q E s) fun n P=>P.gdO fun e P =>
        setI_ok H rfl hi e1 (hb.mono x) (Nat.le_of_ble_eq_true (cond_ff e).1) (le4 (cond_ff e).2) (fun z=>by rw [q] at z;cases z) fun s' H'=>k _ _ _ _ c s' () P (.refl c) H' trivial) Ok.no
end
end T
namespace T
section
variable {g:Gd} {hnd:Option Nat} {dep:Nat} {c:Cc} {σ:List AObj} {fs:List Out} {A:Around} {E:Value→Shared→Prop} {s:Shared}
theorem sub_dict {d:Addr} {k:Value} {Q:Value→Shared→Prop} (hT:s.TypeIs (.ref d) "dict") (h:wpAny (model g.prog g.w) A (getItem (.ref d) k) Q E s):wpAny (model g.prog g.w) A (subT (.ref d) k) Q E s:=by
  unfold subT getitemInPython
  exact wpAny_bind (wpAny_bind (wpAny_specialOf hT slot_dict_getitem.lookup (wpAny_pure (wpAny_operate' h))))
theorem leaf_subD {c₀:Cc} {key v:AV} {key' v':Value} (hk:VRel c₀ key key') (hv:VRel c₀ v v'):LeafN g c₀ (opItemD v key) (subT v' key') VRel :=
  .q fun rd orc σ c fs A s Q E C x H k o P=>P.mutO (G:=fun v'=>wpAny (model g.prog g.w) A (subT v' key') Q E s) (hv.mono x) fun i d hr P =>
    have fin:=fun a ps r v hC h=>k a σ ps r c _ v hC (.refl c) (H.tick _) h
    P.objC (fun _ P=>P.no) (fun sy es e P=>P.keyO (g:=g) hk (fun y sk q _ P=>have D:=H.sd hr e
        P.pk (fun _ P=>P.obn fun a e3 P=>sub_dict D.ty (d_item q D ((lkD_lk ..).trans e3) fun v h=>fin a _ _ v P h)) fun _ P=>P.askV fun a r P=>sub_dict D.ty (d_item q D ((lkD_lk ..).trans (o _ P).1) fun v h=>fin a _ _ v P h)) fun _ _ P=>P.no)
      (fun ks tab e P=>P.keyO (g:=g) hk (fun y sk q _ P=>have D:=H.kd hr e
        P.pk (fun _ P=>P.askV fun a r P=>sub_dict D.ty (d_item q D (by rw [lkD_lk,lk_kdE,(o _ P).1,(o _ P).2.1];rfl) fun v h=>fin a _ _ v P h)) fun _ P=>P.obn fun a e3 P=>sub_dict D.ty (d_item q D (by rw [lkD_lk,lk_kdE,(o _ P).1,e3];rfl) fun v h=>fin a _ _ v P h)) fun _ _ P=>P.no)
      fun es e P=>P.keyO (g:=g) hk (fun _ _ _ _ P=>P.no) fun y q P=>P.askV fun a r P=>have D:=H.nd hr e;sub_dict D.ty (d_item q D (o _ P).1 fun v h=>fin a _ _ v P h)
noncomputable def fixC {γ:Type} (v:AV) (fd:List (Str × AV)→Option γ) (fl:List AV→Option γ) (ft:List AV→Option γ):Option γ:=match v with
  | .fd es=>fd es
  | .fl vs=>fl vs
  | .tup vs=>ft vs
  | _=>none
theorem Ok.fixC {γ:Type} {C:γ→Prop} {G:Value→Prop} {fd:List (Str × AV)→Option γ} {fl:List AV→Option γ} {ft:List AV→Option γ} {a:AV} {v:Value} (P:Ok C (T.fixC a fd fl ft)) (H:Hp g hnd dep c σ fs A s) (hv:VRel c a v)
    (h1:∀ d es,(d == sysModules)=false→DAt s.heap c (strKind g.prog g.w) d es→Ok C (fd es)→G (.ref d)) (h2:∀ x vs vals,VRels c vs vals.toList→s.heap.IsList x vals→Ok C (fl vs)→G (.ref x)) (h3:∀ x vs vals,VRels c vs vals.toList→s.heap.IsTuple x vals→Ok C (ft vs)→G (.ref x)):G v:=by
  cases a with
  | fd es=>exact hv.elim fun d ens n g1 g2 g3=>h1 d es g3 ⟨ens,n,H.st.keep _ _ (.inl g1),g2.dr H.w⟩ P
  | fl vs=>exact hv.elim fun x vals n g1 g2=>h2 x vs vals g2 ⟨_,H.st.keep _ _ (.inl g1),rfl,n,rfl⟩ P
  | tup vs=>exact hv.elim fun x vals g1 g2=>h3 x vs vals g2 ⟨_,H.st.keep _ _ (.inl g1),rfl,0,rfl⟩ P
  | _=>exact P.no
noncomputable def no1 {γ:Type} (_:List AV):Option γ:=none
noncomputable def opItemF (v key:AV):Rd→List Orc→List AObj→Option (AR AV):=fun _ orc σ=>fixC v (fun es=>strO key (fun l k=>gdO l (obn (lk es k) fun a=>some (a,σ,[],orc))) none) no1 no1
theorem key_is {k:Str} {t:Tok}:(strKind g.prog g.w).is k (.str k t)=true:=beq_self_eq_true k
theorem leaf_itemF {c₀:Cc} {key v:AV} {key' v':Value} (hk:VRel c₀ key key') (hv:VRel c₀ v v'):LeafN g c₀ (opItemF v key) (subT v' key') VRel :=
  .q fun rd orc σ c fs A s Q E C x H k o P=>P.fixC (G:=fun v'=>wpAny (model g.prog g.w) A (subT v' key') Q E s) H (hv.mono x) (fun d es _ D P=>P.strO (G:=fun key'=>wpAny (model g.prog g.w) A (subT (.ref d) key') Q E s) hk
    (fun _ y t _ P=>P.gdO fun _ P=>P.obn fun _ e P=>sub_dict D.ty (d_item key_is D ((lkD_lk ..).trans e) fun v h=>k _ _ _ _ c _ v P (.refl c) (H.tick _) h)) Ok.no) (fun _ _ _ _ _ P=>P.no) fun _ _ _ _ _ P=>P.no
noncomputable def strL {γ:Type} (a:AV) (f:Str→Option γ):Option γ:=match a with
  | .str x=>f x
  | _=>none
theorem Ok.strL {γ:Type} {C:γ→Prop} {G:Value→Prop} {a:AV} {v:Value} {f:Str→Option γ} (P:Ok C (T.strL a f)) (hv:VRel c a v) (h:∀ i t,Ok C (f i)→G (.str i t)):G v:=by
  cases a with
  | str i=>exact hv.elim fun t=>h i t P
  | _=>exact P.no
noncomputable def sameA (a k:AV):Option Bool:=match a with
  | .int i=>litO k fun j=>some (decide (i=j))
  | .str x=>strL k fun y=>some (seq x y)
  | _=>none
noncomputable def inLit:List AV→AV→Option Bool
  | [],_=>some false
  | a::r,k=>obn (sameA a k) fun b=>Option.map (b || ·) (inLit r k)
noncomputable def opInF (neg:Bool) (key v:AV):Rd→List Orc→List AObj→Option (AR AV):=fun _ orc σ=>fixC v (fun es=>strO key (fun l k=>gdO l (some (.bool (xor neg (lk es k).isSome),σ,[],orc))) none)
  (fun vs=>obn (inLit vs key) fun b=>some (.bool (xor neg b),σ,[],orc)) (fun vs=>obn (inLit vs key) fun b=>some (.bool (xor neg b),σ,[],orc))
noncomputable def sameV:Value→Value→Bool
  | .int i _,.int j _=>i == j
  | .str x _,.str y _=>x == y
  | _,_=>false
noncomputable def Same (kv v:Value) (b:Bool):Prop:=sameV v kv=b∧∀ (A:Around) (s:Shared),SeqAt.EqAt A s v kv (sameV v kv)
theorem sameA_ok {c:Cc} {a k:AV} {v kv:Value} {b:Bool} (h:VRel c a v) (hk:VRel c k kv) (e:sameA a k=some b):Same kv v b:=by
  have e:Ok (fun x=>x=b) (sameA a k):=e▸rfl
  cases a with
  | int i=>exact h.elim (G:=fun v=>Same kv v b) fun t=>Ok.litO (G:=fun kv=>Same kv (.int i t) b) e hk fun j u e=>⟨(show (i == j)=decide (i=j) from rfl).trans e,fun A s=>SeqAt.EqAt.int_int i t j u⟩
  | str y=>exact h.elim (G:=fun v=>Same kv v b) fun t=>Ok.strL (G:=fun kv=>Same kv (.str y t) b) e hk fun z u e=>⟨(seq_beq y z).symm.trans e,fun A s=>SeqAt.EqAt.str_str y t z u⟩
  | _=>exact e.no
noncomputable def AnyS (kv:Value) (vals:List Value) (b:Bool):Prop:=(vals.any fun v=>sameV v kv)=b∧∀ v∈vals,∀ (A:Around) (s:Shared),SeqAt.EqAt A s v kv (sameV v kv)
theorem inLit_ok {c:Cc} {k:AV} {kv:Value} (hk:VRel c k kv) {vs:List AV} {vals:List Value} (h:VRels c vs vals):∀ {b:Bool},inLit vs k=some b→AnyS kv vals b :=
  h.ind (P:=fun vs vals=>∀ {b:Bool},inLit vs k=some b→AnyS kv vals b) (fun e=>⟨Option.some.inj e,fun v m=>nomatch m⟩) fun a as x xs h _ ih b e=>by
    obtain ⟨b1,e1,e⟩:=obn_some e
    obtain ⟨b2,e2,e3⟩:=Option.map_eq_some_iff.mp e
    have p:=sameA_ok h hk e1
    have q:=ih e2
    exact ⟨by rw [List.any_cons,p.1,q.1];exact e3,fun v m=>(List.mem_cons.mp m).elim (fun z=>z▸p.2) (q.2 v)⟩
theorem any_arr {kv:Value} {vals:Array Value} {b:Bool} (h:AnyS kv vals.toList b):(vals.any fun v=>sameV v kv)=b∧∀ v∈vals,∀ (A:Around) (s:Shared),SeqAt.EqAt A s v kv (sameV v kv) :=
  ⟨Array.any_toList.symm.trans h.1,fun v m=>h.2 v (Array.mem_toList_iff.mpr m)⟩
theorem in_lst {Q:Value→Shared→Prop} {neg b:Bool} {x:Addr} {vals:Array Value} {kv:Value} (hl:s.heap.IsList x vals) (h:AnyS kv vals.toList b) (k:Q (.bool (xor neg b)) s):wpAny (model g.prog g.w) A (compareOp (if neg then .NotIn else .In) kv (.ref x)) Q E s:=by
  obtain ⟨p,q⟩:=any_arr h
  cases neg with
  | true=>exact SeqAt.notIn_listAt (fun v=>sameV v kv) hl (fun y hy=>q y hy _ _) (by rw [p,← xor_t];exact k)
  | false=>exact SeqAt.in_listAt (fun v=>sameV v kv) hl (fun y hy=>q y hy _ _) (by rw [p,← xor_f b];exact k)
theorem in_tup {Q:Value→Shared→Prop} {neg b:Bool} {x:Addr} {vals:Array Value} {kv:Value} (hl:s.heap.IsTuple x vals) (h:AnyS kv vals.toList b) (k:Q (.bool (xor neg b)) s):wpAny (model g.prog g.w) A (compareOp (if neg then .NotIn else .In) kv (.ref x)) Q E s:=by
  obtain ⟨p,q⟩:=any_arr h
  cases neg with
  | true=>exact SeqAt.notIn_tupleAt (fun v=>sameV v kv) hl (fun y hy=>q y hy _ _) (by rw [p,← xor_t];exact k)
  | false=>exact SeqAt.in_tupleAt (fun v=>sameV v kv) hl (fun y hy=>q y hy _ _) (by rw [p,← xor_f b];exact k)
theorem leaf_inF {c₀:Cc} {neg:Bool} {key v:AV} {key' v':Value} (hk:VRel c₀ key key') (hv:VRel c₀ v v'):LeafN g c₀ (opInF neg key v) (compareOp (if neg then .NotIn else .In) key' v') VRel :=
  .q fun rd orc σ c fs A s Q E C x H k o P=>P.fixC (G:=fun v'=>wpAny (model g.prog g.w) A (compareOp (if neg then .NotIn else .In) key' v') Q E s) H (hv.mono x)
    (fun d es hm D P=>P.strO (G:=fun key'=>wpAny (model g.prog g.w) A (compareOp (if neg then .NotIn else .In) key' (.ref d)) Q E s) hk (fun _ y t _ P=>P.gdO fun _ P=>d_inN key_is hm D (by rw [lkD_lk]) (k _ _ _ _ c _ _ P (.refl c) (H.tick _) (.bool _))) Ok.no)
    (fun _ _ _ q t P=>P.obn fun _ e P=>in_lst t (inLit_ok (hk.mono x) q e) (k _ _ _ _ c s _ P (.refl c) H (.bool _))) fun _ _ _ q t P=>P.obn fun _ e P=>in_tup t (inLit_ok (hk.mono x) q e) (k _ _ _ _ c s _ P (.refl c) H (.bool _))
noncomputable def slcC {γ:Type} (l u:AV) (f1 f2 f3:Int→Option γ):Option γ:=match l with
  | .none=>(match u with
    | .int i=>f1 i
    | .si k=>f2 k
    | _=>none)
  | .si k=>noneO u (f3 k)
  | _=>none
theorem Ok.slcC {γ:Type} {C:γ→Prop} {G:Value→Value→Prop} {f1 f2 f3:Int→Option γ} {l u:AV} {l' u':Value} (P:Ok C (T.slcC l u f1 f2 f3)) (hl:VRel c l l') (hu:VRel c u u') (h1:∀ i t,Ok C (f1 i)→G .none (.int i t)) (h2:∀ i t,Ok C (f2 i)→G .none (.int i t)) (h3:∀ i t,Ok C (f3 i)→G (.int i t) .none):G l' u':=by
  cases l with
  | none =>
    refine hl.elim (G:=fun l'=>G l' u') ?_
    cases u with
    | int i=>exact hu.elim (G:=G .none) fun t=>h1 i t P
    | si i=>exact hu.elim (G:=G .none) fun t=>h2 i t P
    | _=>exact P.no
  | si i=>exact hl.elim (G:=fun l'=>G l' u') fun t=>Ok.noneO (G:=G (.int i t)) P hu (h3 i t)
  | _=>exact P.no
noncomputable def opSlcL (a l u:AV):Rd→List Orc→List AObj→Option (AR AV):=fun _ orc σ=>lsO σ a fun vs=>slcC l u
  (fun i=>natI i fun n=>pk (told σ a) (gdO (Nat.ble vs.length 10000) (some (.mut σ.length,σ++[.list false (vs.take n)],[],orc))) (askVs orc fun ws r=>some (.mut σ.length,σ++[.list true ws],[vs.take n=ws,vs.length≤sizeLine,∀ v∈vs,Cl v],r)))
  (fun k=>askVs orc fun ws r=>some (.mut σ.length,σ++[.list true ws],[∃ n,k=.ofNat n∧vs.take n=ws,vs.length≤sizeLine,∀ v∈vs,Cl v],r))
  (fun k=>askVs orc fun ws r=>some (.sl ws,σ,[∃ n,k=.ofNat n∧vs.drop n=ws,vs.length≤sizeLine,∀ v∈vs,Cl v],r))
theorem VRels.take {c:Cc} (n:Nat):∀ {a:List AV} {x:List Value},VRels c a x→VRels c (a.take n) (x.take n):=by
  induction n with
  | zero=>exact fun _=>.nil
  | succ n ih=>exact fun h=>VRels.casesOn (motive_2:=fun a x _=>VRels c (a.take (n+1)) (x.take (n+1))) h .nil fun h t=>.cons h (ih t)
noncomputable abbrev slcObj (l u:Value):Obj:={cls:=.type "slice",data:=.fields [l,u,.none].toArray}
theorem slc_ok {Q:Value→Shared→Prop} {pos:Pos} {ad:Addr} {vals:List Value} {l u:Value} {lo hi:Option Int} {out:List Value} (t:s.heap.IsList ad vals.toArray) (pl:IsPart l lo) (pu:IsPart u hi) (hpick:slicePick vals.toArray lo hi none=out.toArray) (hz:vals.length≤sizeLine)
    (k:Q (.ref (s.heap.push (slcObj l u)).objs.size) {s with heap:=(s.heap.push (slcObj l u)).push (listObj out.toArray 0)}):wpAny (model g.prog g.w) A (slcT pos (.ref ad) l u) Q E s:=by
  have q2:({s with heap:=s.heap.push (slcObj l u)}:Shared).heap.IsList ad vals.toArray:=let ⟨o,p,r⟩:=t;⟨o,Heap.get?_push_of_some _ p,r⟩
  delta slcT newFields
  refine wpAny_bind (wpAny_newObj_type (wpAny_bind (wpAny_standAt ?_)) (by size_fits))
  delta getitemInPython
  refine wpAny_bind (wpAny_bind (wpAny_specialOf q2.typeIs slot_list_getitem.lookup (wpAny_pure (wpAny_operate' ?_))))
  refine wpAny_getItem_list_slice q2 ⟨_,Heap.get?_push_size _ rfl,rfl,rfl⟩ pl pu .none (by simp) ?_ hz
  rw [hpick]
  exact k
theorem slc_mut (H:Hp g hnd dep c σ fs A s) {Q:Value→Shared→Prop} {pos:Pos} {ad:Addr} {vals:List Value} {l u:Value} {lo hi:Option Int} {out:List Value} {sy:Bool} {ws:List AV} (t:s.heap.IsList ad vals.toArray) (pl:IsPart l lo) (pu:IsPart u hi) (hpick:slicePick vals.toArray lo hi none=out.toArray) (hz:vals.length≤sizeLine)
    (hw:VRels c ws out) (hcl:sy=true→∀ v∈ws,Cl v) (k:∀ c' s' v,Ext c c'→Hp g hnd dep c' (σ++[.list sy ws]) fs A s'→VRel c' (.mut σ.length) v→Q v s'):wpAny (model g.prog g.w) A (slcT pos (.ref ad) l u) Q E s :=
  have H1:=H.allocI (o:=slcObj l u) (tk:=s.toks) rfl
  have X1:=Ext.addG (slcObj l u) H.st.gNone
  slc_ok t pl pu hpick hz (k _ _ _ (X1.trans (Ext.addR _ _)) (H1.alloc (o:=listObj out.toArray 0) (b:=.list sy ws) (tk:=s.toks) rfl ⟨_,0,rfl,(hw.mono X1).mono (Ext.addR _ _),hcl⟩) (.mut H1.newLst))
theorem slc_imm (H:Hp g hnd dep c σ fs A s) {Q:Value→Shared→Prop} {pos:Pos} {ad:Addr} {vals:List Value} {l u:Value} {lo hi:Option Int} {out:List Value} {ws:List AV} (t:s.heap.IsList ad vals.toArray) (pl:IsPart l lo) (pu:IsPart u hi) (hpick:slicePick vals.toArray lo hi none=out.toArray) (hz:vals.length≤sizeLine)
    (hw:VRels c ws out) (hcl:∀ v∈ws,Cl v) (k:∀ c' s' v,Ext c c'→Hp g hnd dep c' σ fs A s'→VRel c' (.sl ws) v→Q v s'):wpAny (model g.prog g.w) A (slcT pos (.ref ad) l u) Q E s :=
  have H1:=H.allocI (o:=slcObj l u) (tk:=s.toks) rfl
  have X1:=Ext.addG (slcObj l u) H.st.gNone
  have X2:=Ext.addG (listObj out.toArray 0) H1.st.gNone
  slc_ok t pl pu hpick hz (k _ _ _ (X1.trans X2) (H1.allocI (o:=listObj out.toArray 0) (tk:=s.toks) rfl) (.sl (n:=0) (addG_at ..) ((hw.mono X1).mono X2) hcl))
theorem leaf_slcL {c₀:Cc} {pos:Pos} {a l u:AV} {a' l' u':Value} (ha:VRel c₀ a a') (hl:VRel c₀ l l') (hu:VRel c₀ u u'):LeafN g c₀ (opSlcL a l u) (slcT pos a' l' u') VRel :=
  .q fun rd orc σ c fs A s Q E C x H k o P=>P.lsO (G:=fun a'=>wpAny (model g.prog g.w) A (slcT pos a' l' u') Q E s) H (ha.mono x) fun ad vs vals q t P=>P.slcC (G:=fun l' u'=>wpAny (model g.prog g.w) A (slcT pos (.ref ad) l' u') Q E s) hl hu
    (fun i tk P=>P.natI (G:=fun i=>wpAny (model g.prog g.w) A (slcT pos (.ref ad) .none (.int i tk)) Q E s) fun n P=>P.pk (fun _ P=>P.gdO fun e4 P=>slc_mut H t .none (.int _ _) (slicePick_upto' ..) (q.length▸le4 e4) (q.take n) (fun z=>by cases z) fun c' s' v X H' r=>k _ _ _ _ c' s' v P X H' r)
      fun _ P=>P.askVs fun ws _ P=>slc_mut H t .none (.int _ _) (slicePick_upto' ..) (q.length▸(o _ P).2.1) ((o _ P).1▸q.take n) (fun _ v hv=>(o _ P).2.2.1 v (List.mem_of_mem_take (by rw [(o _ P).1];exact hv))) fun c' s' v X H' r=>k _ _ _ _ c' s' v P X H' r)
    (fun i tk P=>P.askVs fun ws _ P=>by
      obtain ⟨⟨n,e,p1⟩,p2,p3,_⟩:=o _ P
      rw [e]
      exact slc_mut H t .none (.int _ _) (slicePick_upto' ..) (q.length▸p2) (p1▸q.take n) (fun _ v hv=>p3 v (List.mem_of_mem_take (by rw [p1];exact hv))) fun c' s' v X H' r=>k _ _ _ _ c' s' v P X H' r)
    fun i tk P=>P.askVs fun ws _ P=>by
      obtain ⟨⟨n,e,p1⟩,p2,p3,_⟩:=o _ P
      rw [e]
      exact slc_imm H t (.int _ _) .none (slicePick_from' ..) (q.length▸p2) (p1▸q.drop n) (fun v hv=>p3 v (List.mem_of_mem_drop (by rw [p1];exact hv))) fun c' s' v X H' r=>k _ _ _ _ c' s' v P X H' r
noncomputable def opSlcS (a l u:AV):Rd→List Orc→List AObj→Option (AR AV):=fun _ orc σ=>strO a (fun _ x=>litO l fun i=>gdO (decide (i=1)) (noneO u (some (.ss (Txt.slice x (some 1) none),σ,[slen x≤sizeLine],orc)))) none
theorem slcS_ok (H:Hp g hnd dep c σ fs A s) {Q:Value→Shared→Prop} {pos:Pos} {y:Str} {t tl:Tok} (hz:slen y≤sizeLine) (k:∀ c' s' t,Ext c c'→Hp g hnd dep c' σ fs A s'→Q (.str (Txt.slice y (some 1) none) t) s'):wpAny (model g.prog g.w) A (slcT pos (.str y t) (.int 1 tl) .none) Q E s:=by
  delta slcT newFields
  refine wpAny_bind (wpAny_newObj_type (wpAny_bind (wpAny_standAt ?_)) (by size_fits))
  delta getitemInPython
  refine wpAny_bind (wpAny_bind (wpAny_specialOf (typeIs_str _ _ _) F.slot_str_getitem.lookup (wpAny_pure (wpAny_operate' ?_))))
  exact wpAny_getItem_str_slice (l:=some (1,tl)) (u:=none) (st:=none) ⟨_,Heap.get?_push_size _ rfl,rfl,rfl⟩ rfl (post_val_or_str ⟨Nat.le_trans (Txt.slice_le y (some 1) none) (by rw [slen_eq];exact hz),fun t' tk=>k _ _ _ (Ext.addG (slcObj (.int 1 tl) .none) H.st.gNone) ((H.allocI (o:=slcObj (.int 1 tl) .none) (tk:=s.toks) rfl).tick tk)⟩)
theorem leaf_slcS {c₀:Cc} {pos:Pos} {a l u:AV} {a' l' u':Value} (ha:VRel c₀ a a') (hl:VRel c₀ l l') (hu:VRel c₀ u u'):LeafN g c₀ (opSlcS a l u) (slcT pos a' l' u') VRel :=
  .q fun rd orc σ c fs A s Q E C x H k o P=>P.strO (G:=fun a'=>wpAny (model g.prog g.w) A (slcT pos a' l' u') Q E s) ha (fun _ y t _ P=>P.litO (G:=fun l'=>wpAny (model g.prog g.w) A (slcT pos (.str y t) l' u') Q E s) hl fun i tl P=>P.gdO fun e P =>
    P.noneO (G:=fun u'=>wpAny (model g.prog g.w) A (slcT pos (.str y t) (.int i tl) u') Q E s) hu fun P=>(of_decide_eq_true e).symm▸slcS_ok H (o _ P).1 fun c' s' t X H'=>k _ _ _ _ c' s' _ P X H' (.ss _ _)) Ok.no
end
end T
namespace T
noncomputable abbrev MK:=Str ⊕ Bool
noncomputable def MK.is:MK→Value→Bool
  | .inl x,v=>Value.isStrOf x v
  | .inr b,.bool b'=>b == b'
  | .inr _,_=>false
noncomputable def MK.of:Value→Option MK
  | .str x _=>some (.inl x)
  | .bool b=>some (.inr b)
  | _=>none
theorem MK.el {G:MK→Value→Prop} {k:MK} {v:Value} (h:k.is v=true) (h1:∀ x t,G (.inl x) (.str x t)) (h2:∀ b,G (.inr b) (.bool b)):G k v:=by
  cases k with
  | inl x=>obtain ⟨t,e⟩:=Value.isStrOf_shape h;rw [e];exact h1 x t
  | inr b=>cases v with
    | bool b'=>exact (beq_iff_eq.mp h:b=b')▸h2 b
    | _=>exact no_tf h
theorem MK.of_is {k:MK} {v:Value} (h:k.is v=true):MK.of v=some k:=MK.el (G:=fun k v=>MK.of v=some k) h (fun _ _=>rfl) fun _=>rfl
noncomputable def boolHash (b:Bool):Int:=hashInt (if b then 1 else 0)
section
variable {prog:Program} {w:World} {A:Around} {E:Value→Shared→Prop} {s:Shared}
theorem pyHash_bool {b:Bool} {Q:Int→Shared→Prop} (h:Q (boolHash b) {s with toks:=s.toks+1}):wpAny (model prog w) A (pyHash (.bool b)) Q E s:=by
  have hT:s.TypeIs (.bool b) "bool" := rfl
  unfold pyHash
  have hv:[Value.bool b].any Value.onHeap=false:=rfl
  refine wpAny_bind ?_
  rw [cRoomFor,if_neg (by rw [hv];exact Bool.false_ne_true)]
  refine wpAny_pure ?_
  refine wpAny_bind (wpAny_specialOf hT F.slot_bool_hash.lookup ?_)
  show wpAny _ _ (if (some (Value.builtin "int.__hash__") == some Value.none)=true then _ else _) Q E s
  rw [if_neg (by decide +kernel)]
  refine wpAny_bind (wpAny_specialOf hT F.slot_bool_hash.lookup ?_)
  show wpAny _ _ (callSpecialIfBoundUnlessNone? (.bool b) "__hash__" _>>=_) Q E s
  refine wpAny_bind (wpAny_callSpecialIfBoundUnlessNone?_slot hT F.slot_bool_hash
    (wpAny_call_entry F.slot_bool_hash hT F.entry_int_hash ?_ (F.args_int_hash_1 _)))
  cases b
  · show wpAny _ _ (mkInt 0>>=fun i=>PySem.ret i) _ _ s
    refine wpAny_bind (wpAny_mkInt (wpAny_pure ⟨_,rfl,wpAny_pure ?_⟩))
    exact h
  · show wpAny _ _ (mkInt 1>>=fun i=>PySem.ret i) _ _ s
    refine wpAny_bind (wpAny_mkInt (wpAny_pure ⟨_,rfl,wpAny_pure ?_⟩))
    exact h
end
section
variable {prog:Program} {w:World} {A:Around} {E:Value→Shared→Prop} {s:Shared} {a b:MK} {u v:Value} {Q:Bool→Shared→Prop}
theorem mix_eq (hu:a.is u=true) (hv:b.is v=true):Q (decide (a=b)) s→wpAny (model prog w) A (eqBool u v) Q E s:=by
  refine MK.el (G:=fun a u=>Q (decide (a=b)) s→wpAny (model prog w) A (eqBool u v) Q E s) hu (fun x t=>?_) fun x=>?_
  · refine MK.el (G:=fun b v=>Q (decide (Sum.inl x=b)) s→wpAny (model prog w) A (eqBool (.str x t) v) Q E s) hv (fun y t' h=>wpAny_eqBool_str ?_) fun y h=>SeqAt.EqAt.str_bool x t y prog w E Q ?_
    · rw [show decide (x=y)=decide (Sum.inl (β:=Bool) x=.inl y) by simp];exact h
    · rw [show decide (Sum.inl (β:=Bool) x=.inr y)=false by simp] at h;exact h
  · refine MK.el (G:=fun b v=>Q (decide (Sum.inr x=b)) s→wpAny (model prog w) A (eqBool (.bool x) v) Q E s) hv (fun y t' h=>SeqAt.EqAt.bool_str x y t' prog w E Q ?_) fun y h=>SeqAt.EqAt.bool_bool x y prog w E Q ?_
    · rw [show decide (Sum.inr (α:=Str) x=.inl y)=false by simp] at h;exact h
    · rw [show (x == y)=decide (Sum.inr (α:=Str) x=.inr y) by cases x<;>cases y<;>rfl];exact h
end
noncomputable def MK.hash (w:World):MK→Int
  | .inl x=>hashStr w x
  | .inr b=>boolHash b
noncomputable def mixKind (prog:Program) (w:World):PySem.KeyKind prog w MK where
  is:=MK.is
  hash:=MK.hash w
  inj:=fun _ _ _ ha hb=>Option.some.inj ((MK.of_is ha).symm.trans (MK.of_is hb))
  byValue:=fun _ _ h=>MK.el (G:=fun _ v=>carriedByValue v=true) h (fun _ _=>rfl) fun _=>rfl
  pyHash:=fun {A E s _ _ Q} hv=>MK.el (G:=fun k v=>Q (MK.hash w k) {s with toks:=s.toks+1}→wpAny (model prog w) A (PySem.pyHash v) Q E s) hv (fun _ _ h=>wpAny_pyHash_str h) fun _ h=>pyHash_bool h
  eqBool:=fun hu hv=>mix_eq hu hv
  «strs»:=fun k x t v h=>by
    rw [← Option.some.inj (MK.of_is h:some (Sum.inl x)=some k)]
    cases v<;>rfl
noncomputable def bkL (k:BK):List MK:=[.inl k.1,.inr k.2.1,.inl k.2.2]
theorem bkL_inj {a b:BK} (h:bkL a=bkL b):a=b:=by
  obtain ⟨a1,a2,a3⟩:=a
  obtain ⟨b1,b2,b3⟩:=b
  simp only [bkL,List.cons.injEq,Sum.inl.injEq,Sum.inr.injEq,and_true] at h
  obtain ⟨rfl,rfl,rfl⟩:=h
  rfl
noncomputable def HbOk (g:Gd):Prop:=∀ k,g.hb g.w k=tupleKeyHash (mixKind g.prog g.w) (bkL k)
section
variable {g:Gd} {hnd:Option Nat} {dep:Nat} {c:Cc} {σ:List AObj} {fs:List Out} {A:Around} {E:Value→Shared→Prop} {s:Shared}
noncomputable abbrev bkKind (g:Gd):=tupleKind (mixKind g.prog g.w)
inductive BXs (c:Cc):List (BK × AV)→List (List MK × Addr × Value)→Prop
  | nil:BXs c [] []
  | cons {k a v x vals t1 t2 es xs}:c.G x=some (tupObj vals)→vals.toList=[.str k.1 t1,.bool k.2.1,.str k.2.2 t2]→VRel c a v→BXs c es xs→BXs c ((k,a)::es) ((bkL k,x,v)::xs)
theorem BRels.xs (hb:HbOk g) {es:List (BK × AV)} {ens:List DictEntry} (h:BRels c (g.hb g.w) es ens):∃ xs,BXs c es xs∧ens=xs.map (entryOfKey (bkKind g)):=by
  induction h with
  | nil=>exact ⟨[],.nil,rfl⟩
  | @cons k a e es ens x vals t1 t2 h1 h2 h3 h4 h5 _ ih =>
    obtain ⟨xs,p,q⟩:=ih
    refine ⟨(bkL k,x,e.val)::xs,.cons h3 h4 h5 p,?_⟩
    have e0:e=entryOfKey (bkKind g) (bkL k,x,e.val):=by
      obtain ⟨eh,ek,ev⟩:=e
      exact congr (congr (congrArg DictEntry.mk (h1.trans (hb k))) h2) (Eq.refl ev)
    rw [q,List.map_cons,← e0]
theorem BXs.rels (hb:HbOk g) {es:List (BK × AV)} {xs:List (List MK × Addr × Value)} (h:BXs c es xs):BRels c (g.hb g.w) es (xs.map (entryOfKey (bkKind g))):=by
  induction h with
  | nil=>exact .nil
  | cons h1 h2 h3 _ ih=>exact .cons (by rw [hb];rfl) rfl h1 h2 h3 ih
theorem BXs.keys {es:List (BK × AV)} {xs:List (List MK × Addr × Value)} (h:BXs c es xs):xs.map (·.1)=es.map fun e=>bkL e.1:=by
  induction h with
  | nil=>rfl
  | cons _ _ _ _ ih=>rw [List.map_cons,List.map_cons,ih]
theorem key_at {k:BK} {x:Addr} {vals:Array Value} {t1 t2:Tok} {h:Heap} (h1:h.get? x=some (tupObj vals)) (h2:vals.toList=[.str k.1 t1,.bool k.2.1,.str k.2.2 t2]):(bkKind g).is h (bkL k) x:=by
  refine ⟨_,vals,0,h1,rfl,rfl,?_⟩
  rw [h2]
  exact .cons (beq_self_eq_true k.1) (.cons (beq_self_eq_true k.2.1) (.cons (beq_self_eq_true k.2.2) .nil))
theorem BXs.is (H:Hp g hnd dep c σ fs A s) {es:List (BK × AV)} {xs:List (List MK × Addr × Value)} (h:BXs c es xs):∀ x∈xs,(bkKind g).is s.heap x.1 x.2.1:=by
  induction h with
  | nil=>exact fun x m=>nomatch m
  | cons h1 h2 _ _ ih=>exact fun x m=>(List.mem_cons.mp m).elim (fun e=>e▸key_at (H.st.keep _ _ (.inl h1)) h2) (ih x)
theorem nodup_bkL {es:List (BK × AV)} (h:(es.map (·.1)).Nodup):(es.map fun e=>bkL e.1).Nodup:=by
  have:(es.map fun e=>bkL e.1)=(es.map (·.1)).map bkL:=by rw [List.map_map];rfl
  rw [this]
  exact List.Pairwise.map bkL (fun a b hab e=>hab (bkL_inj e)) h
theorem book_at (H:Hp g hnd dep c σ fs A s) (hb:HbOk g) {i:Nat} {d:Addr} {es:List (BK × AV)} (hi:c.r[i]?=some d) (e:σ[i]?=some (.bd es)) :
    ∃ xs,BXs c es xs∧s.heap.DictOfH (bkKind g) d xs∧(es.map (·.1)).Nodup∧∀ e∈es,Cl e.2:=by
  obtain ⟨o,p,ens,n,rfl,q,hcl,hnd⟩:=H.st.at hi e
  rw [H.w] at q
  obtain ⟨xs,x1,x2⟩:=q.xs hb
  exact ⟨xs,x1,⟨_,ens,n,p,⟨rfl,rfl,rfl⟩,rfl,x2,x1.is H,by rw [x1.keys];exact nodup_bkL hnd⟩,hnd,hcl⟩
theorem atKey_cons (k0 k:BK) (x:Addr) (v:Value) (xs:List (List MK × Addr × Value)):atKey ((bkL k0,x,v)::xs) (bkL k)=if k0=k then some (x,v) else atKey xs (bkL k):=by
  delta atKey
  rw [List.find?_cons]
  by_cases q:k0=k
  · rw [if_pos q,show decide (bkL k0=bkL k)=true from decide_eq_true (congrArg bkL q)];rfl
  · rw [if_neg q,show decide (bkL k0=bkL k)=false from decide_eq_false fun e=>q (bkL_inj e)]
inductive BLook (c:Cc):Option AV→Option (Addr × Value)→Prop
  | there {a p}:VRel c a p.2→BLook c (some a) (some p)
  | not:BLook c none none
theorem BXs.look {es:List (BK × AV)} {xs:List (List MK × Addr × Value)} (h:BXs c es xs) (k:BK):BLook c (lkD es k) (atKey xs (bkL k)):=by
  induction h with
  | nil=>exact .not
  | @cons k0 a v x vals t1 t2 es xs h1 h2 h3 _ ih =>
    rw [atKey_cons]
    show BLook c (if k0=k then some a else lkD es k) _
    by_cases q:k0=k
    · rw [if_pos q,if_pos q];exact .there h3
    · rw [if_neg q,if_neg q];exact ih
noncomputable def boolB {γ:Type} (v:AV) (f:Bool→Option γ):Option γ:=match v with
  | .bool b=>f b
  | _=>none
noncomputable def tupO {γ:Type} (v:AV) (f:List AV→Option γ):Option γ:=match v with
  | .tup vs=>f vs
  | _=>none
noncomputable def bkOf (key:AV):Option BK:=tupO key fun vs=>consA vs fun a r=>consA r fun b r=>consA r fun d r=>nilA r (boolB b fun b=>obn (strOf a) fun p=>obn (strOf d) fun q=>some (p.2,b,q.2))
theorem Ok.boolB {γ:Type} {C:γ→Prop} {G:Value→Prop} {f:Bool→Option γ} {a:AV} {v:Value} (P:Ok C (T.boolB a f)) (hv:VRel c a v) (h:∀ b,Ok C (f b)→G (.bool b)):G v:=by
  cases a with
  | bool b=>exact hv.elim (h b P)
  | _=>exact P.no
theorem Ok.tupO {γ:Type} {C:γ→Prop} {G:Value→Prop} {f:List AV→Option γ} {a:AV} {v:Value} (P:Ok C (T.tupO a f)) (hv:VRel c a v) (h:∀ x vals vs,c.G x=some (tupObj vals)→VRels c vs vals.toList→Ok C (f vs)→G (.ref x)):G v:=by
  cases a with
  | tup vs=>exact hv.elim fun x vals g q=>h x vals vs g q P
  | _=>exact P.no
theorem bkOf_ok {key:AV} {v:Value} {k:BK} {G:Value→Prop} (h:VRel c key v) (e:bkOf key=some k) (kk:∀ x vals t1 t2,c.G x=some (tupObj vals)→vals.toList=[.str k.1 t1,.bool k.2.1,.str k.2.2 t2]→G (.ref x)):G v :=
  Ok.tupO (C:=fun z=>z=k) (e▸rfl:Ok (fun z=>z=k) (bkOf key)) h fun x vals vs g q P=>by
    refine P.consA (G:=fun l=>vals.toList=l→G (.ref x)) q (fun a u as us h1 t P=>P.consA (G:=fun us=>vals.toList=u::us→G (.ref x)) t fun b w as ws h2 t P=>P.consA (G:=fun ws=>vals.toList=u::w::ws→G (.ref x)) t fun d y as ys h3 t P=>P.nilA (G:=fun ys=>vals.toList=u::w::y::ys→G (.ref x)) t fun P =>
      P.boolB (G:=fun w=>vals.toList=[u,w,y]→G (.ref x)) h2 fun b P=>P.obn fun p e1 P=>P.obn fun q e2 P el=>?_) rfl
    obtain ⟨t1,e1⟩:=strOf_ok (l:=p.1) h1 e1
    obtain ⟨t2,e2⟩:=strOf_ok (l:=q.1) h3 e2
    exact kk x vals t1 t2 g (by rw [el,e1,e2,← (P:(p.2,b,q.2)=k)])
noncomputable def bdC {γ:Type} (o:Option AObj) (ed:Option γ) (bd:List (BK × AV)→Option γ):Option γ:=match o with
  | none=>none
  | some x=>match x with
    | .ed=>ed
    | .bd es=>bd es
    | _=>none
theorem Ok.bdC {γ:Type} {C:γ→Prop} {G:Prop} {o:Option AObj} {ed:Option γ} {bd:List (BK × AV)→Option γ} (P:Ok C (T.bdC o ed bd)) (h1:o=some .ed→Ok C ed→G) (h2:∀ es,o=some (.bd es)→Ok C (bd es)→G):G:=by
  cases o with
  | none=>exact P.no
  | some x=>cases x with
    | ed=>exact h1 rfl P
    | bd es=>exact h2 es rfl P
    | _=>exact P.no
noncomputable def opGetB (as:List AV):Rd→List Orc→List AObj→Option (AR AV):=fun rd orc σ=>twoA as fun v key=>mutO v fun i=>obn (bkOf key) fun k=>bdC σ[i]? (some (.none,σ,[rd.dep≤600],orc)) fun es=>askV orc fun a r=>some (a,σ,[(lkD es k).getD .none=a,rd.dep≤600],r)
theorem ed_book (H:Hp g hnd dep c σ fs A s) {i:Nat} {d:Addr} (hi:c.r[i]?=some d) (e:σ[i]?=some .ed):s.heap.DictOfH (bkKind g) d []:=by
  obtain ⟨o,p,n,rfl⟩:=H.st.at hi e
  exact ⟨_,#[],n,p,⟨rfl,rfl,rfl⟩,rfl,rfl,(fun x m=>by cases m),List.nodup_nil⟩
theorem getB_ok (H:Hp g hnd dep c σ fs A s) {Q:Value→Shared→Prop} {d ka:Addr} {es:List (BK × AV)} {xs:List (List MK × Addr × Value)} {kk:BK} {vals:Array Value} {t1 t2:Tok} (hm:(d == sysModules)=false) (g1:c.G ka=some (tupObj vals)) (g2:vals.toList=[.str kk.1 t1,.bool kk.2.1,.str kk.2.2 t2]) (hx:BXs c es xs)
    (D:s.heap.DictOfH (bkKind g) d xs) (hd:dep≤600) (k:∀ v s',Hp g hnd dep c σ fs A s'→VRel c ((lkD es kk).getD .none) v→Q v s'):wpAny (model g.prog g.w) A (call (.builtin "dict.get") [.ref d,.ref ka] []) Q E s:=by
  refine call_meetsIn F.slot_dict_get D.typeIs F.entry_dict_get (F.args_dict_get_2 _ _) (meetsH_dict_get (bkKind g) d ka hm) ⟨(units_ok H hd).2,bkL kk,xs,key_at (H.st.keep _ _ (.inl g1)) g2,D,?_⟩
  have q:=hx.look kk
  generalize lkD es kk=o at q k
  generalize atKey xs (bkL kk)=o2 at q
  cases q with
  | there q=>exact k _ _ (H.tick _) q
  | not=>exact k _ _ (H.tick _) .none
theorem leaf_getB (hb:HbOk g) {c₀:Cc} {as:List AV} {vs:List Value} (hv:VRels c₀ as vs):LeafN g c₀ (opGetB as) (call (.builtin "dict.get") vs []) VRel :=
  .q fun rd orc σ c fs A s Q E C x H k o P=>P.twoA (G:=fun vs=>wpAny (model g.prog g.w) A (call (.builtin "dict.get") vs []) Q E s) (hv.mono x) fun _ _ key kv h1 h2 P=>P.mutO (G:=fun v=>wpAny (model g.prog g.w) A (call (.builtin "dict.get") [v,kv] []) Q E s) h1 fun i d hi P=>P.obn fun kk ek P =>
    bkOf_ok (G:=fun kv=>wpAny (model g.prog g.w) A (call (.builtin "dict.get") [.ref d,kv] []) Q E s) h2 ek fun ka vals t1 t2 g1 g2=>P.bdC (fun e P=>getB_ok H (H.notMods hi) g1 g2 .nil (ed_book H hi e) (o _ P).1 fun v s' H' r=>k _ _ _ _ c s' v P (.refl c) H' r)
      fun es e P=>P.askV fun a _ P=>let ⟨_,x1,x2,_⟩:=book_at H hb hi e;getB_ok H (H.notMods hi) g1 g2 x1 x2 (o _ P).2.1 fun v s' H' r=>k _ _ _ _ c s' v P (.refl c) H' ((o _ P).1▸r)
noncomputable def opSetB (v key b:AV):Rd→List Orc→List AObj→Option (AR Unit):=fun rd orc σ=>mutO v fun i=>obn (bkOf key) fun k=>gdO (clF 8 b) (bdC σ[i]? (some ((),σ.set i (.bd [(k,b)]),[rd.dep≤600],orc))
  fun es=>some ((),σ.set i (.bd (putD es k b)),[es.length≤1000000,rd.dep≤600],orc))
theorem BXs.mem {es:List (BK × AV)} {xs:List (List MK × Addr × Value)} (h:BXs c es xs) (k:BK):(atKey xs (bkL k)).isSome=true ↔ k∈es.map (·.1):=by
  induction h with
  | nil=>exact ⟨fun e=>no_tf e,fun m=>nomatch m⟩
  | @cons k0 a v x vals t1 t2 es xs h1 h2 h3 _ ih =>
    rw [atKey_cons,List.map_cons,List.mem_cons,← ih]
    by_cases q:k0=k
    · rw [if_pos q];exact ⟨fun _=>.inl q.symm,fun _=>rfl⟩
    · rw [if_neg q];exact ⟨.inr,fun o=>o.resolve_left fun e=>q e.symm⟩
theorem BXs.same (k:BK) (w:Value) {es:List (BK × AV)} {xs:List (List MK × Addr × Value)} (h:BXs c es xs):k ∉ es.map (·.1)→xs.map (putAt (bkL k) w)=xs:=by
  induction h with
  | nil=>exact fun _=>rfl
  | cons h1 h2 h3 _ ih =>
    intro n
    rw [List.map_cons,List.mem_cons,not_or] at n
    rw [List.map_cons,ih n.2,putAt,if_neg fun e=>n.1 (bkL_inj e).symm]
section
variable {k:BK} {a:AV} {v:Value} {x:Addr} {vals:Array Value} {t1 t2:Tok}
theorem BXs.putNew (g1:c.G x=some (tupObj vals)) (g2:vals.toList=[.str k.1 t1,.bool k.2.1,.str k.2.2 t2]) (ha:VRel c a v) {es:List (BK × AV)} {xs:List (List MK × Addr × Value)} (h:BXs c es xs):k ∉ es.map (·.1)→BXs c (putD es k a) (xs++[(bkL k,x,v)]):=by
  induction h with
  | nil=>exact fun _=>.cons g1 g2 ha .nil
  | cons h1 h2 h3 _ ih =>
    intro n
    rw [List.map_cons,List.mem_cons,not_or] at n
    rw [putD_cons,if_neg fun e=>n.1 e.symm]
    exact .cons h1 h2 h3 (ih n.2)
theorem BXs.putOld (ha:VRel c a v) {es:List (BK × AV)} {xs:List (List MK × Addr × Value)} (h:BXs c es xs):(es.map (·.1)).Nodup→k∈es.map (·.1)→BXs c (putD es k a) (xs.map (putAt (bkL k) v)):=by
  induction h with
  | nil=>exact fun _ m=>nomatch m
  | @cons k0 _ _ _ _ _ _ _ _ h1 h2 h3 h4 ih =>
    intro n m
    rw [List.map_cons,List.nodup_cons] at n
    rw [List.map_cons]
    by_cases q:k0=k
    · rw [putD_cons,if_pos q,h4.same k v (q▸n.1),putAt,if_pos (congrArg bkL q)]
      exact .cons h1 h2 ha h4
    · rw [putD_cons,if_neg q,putAt,if_neg fun e=>q (bkL_inj e)]
      rw [List.map_cons,List.mem_cons] at m
      exact .cons h1 h2 h3 (ih n.2 (m.resolve_left fun e=>q e.symm))
theorem BXs.put (g1:c.G x=some (tupObj vals)) (g2:vals.toList=[.str k.1 t1,.bool k.2.1,.str k.2.2 t2]) (ha:VRel c a v) {es:List (BK × AV)} {xs:List (List MK × Addr × Value)} (h:BXs c es xs) (n:(es.map (·.1)).Nodup):BXs c (putD es k a) (storedH xs (bkL k) x v):=by
  delta storedH
  by_cases m:k∈es.map (·.1)
  · rw [if_pos ((h.mem k).mpr m)]
    exact h.putOld ha n m
  · rw [if_neg fun e=>m ((h.mem k).mp e)]
    exact h.putNew g1 g2 ha m
end
theorem putD_keys (k:BK) (a:AV) (es:List (BK × AV)):(putD es k a).map (·.1)=if k∈es.map (·.1) then es.map (·.1) else es.map (·.1)++[k]:=by
  induction es with
  | nil=>rfl
  | cons p r ih =>
    rw [putD_cons]
    by_cases q:p.1=k
    · rw [if_pos q,List.map_cons,List.map_cons,if_pos (by rw [q];exact .head _)]
    · rw [if_neg q,List.map_cons,List.map_cons,ih]
      by_cases m:k∈r.map (·.1)
      · rw [if_pos m,if_pos (.tail _ m)]
      · rw [if_neg m,if_neg (by rw [List.mem_cons,not_or];exact ⟨fun e=>q e.symm,m⟩)];rfl
theorem putD_nodup {k:BK} {a:AV} {es:List (BK × AV)} (n:(es.map (·.1)).Nodup):((putD es k a).map (·.1)).Nodup:=by
  rw [putD_keys]
  by_cases m:k∈es.map (·.1)
  · rw [if_pos m];exact n
  · rw [if_neg m]
    exact List.nodup_append.mpr ⟨n,List.pairwise_singleton ..,fun x hx y hy e=>m (List.mem_singleton.mp hy▸e▸hx)⟩
theorem exact_dict {o:Obj} {ens:Array DictEntry} {n:Nat} (h:o.ExactDict) (d:o.data=.dict ens n):o=dictObj ens n:=by
  obtain ⟨cl,di,da,sl⟩:=o
  obtain ⟨h1,h2,h3⟩:=h
  cases h1;cases h2;cases h3;cases d;rfl
theorem setB_ok (H:Hp g hnd dep c σ fs A s) (hb:HbOk g) {Q:Unit→Shared→Prop} {i:Nat} {d ka:Addr} {es:List (BK × AV)} {xs:List (List MK × Addr × Value)} {kk:BK} {vals:Array Value} {t1 t2:Tok} {b:AV} {v:Value} (hi:c.r[i]?=some d) (g1:c.G ka=some (tupObj vals)) (g2:vals.toList=[.str kk.1 t1,.bool kk.2.1,.str kk.2.2 t2])
    (hx1:BXs c es xs) (D:s.heap.DictOfH (bkKind g) d xs) (hn:(es.map (·.1)).Nodup) (hcl:∀ e∈es,Cl e.2) (hz:es.length≤1000000) (hd:dep≤600) (hv:VRel c b v) (hcb:Cl b) (k:∀ s',Hp g hnd dep c (σ.set i (.bd (putD es kk b))) fs A s'→Q () s'):wpAny (model g.prog g.w) A (setItem (.ref d) (.ref ka) v) Q E s:=by
  have hl:xs.length=es.length:=(List.length_map Prod.fst (as:=xs)).symm.trans ((congrArg List.length hx1.keys).trans (List.length_map _))
  refine wpAny_setItem_heap (knd:=bkKind g) (tupleKind_room_in1 (units_ok H hd).2) (key_at (H.st.keep _ _ (.inl g1)) g2) D (fun h' hm' hs'=>?_) (by rw [hl];exact Nat.le_trans hz (by decide))
  obtain ⟨_,ens,n,q1,q2,q3,q4,q5,q6⟩:=hm'
  refine k _ (H.upd (.refl c) (H.st.upd hi hs' (o:=_) q1 ⟨ens,n,exact_dict q2 q3,?_,putD_all hcb hcl,putD_nodup hn⟩))
  rw [H.w,q4]
  exact (hx1.put g1 g2 hv hn).rels hb
theorem leaf_setB (hb:HbOk g) {c₀:Cc} {v key b:AV} {v' key' b':Value} (hv:VRel c₀ v v') (hk:VRel c₀ key key') (hx:VRel c₀ b b'):LeafN g c₀ (opSetB v key b) (setItem v' key' b') (fun _ _ _=>True) :=
  .q fun rd orc σ c fs A s Q E C x H k o P=>P.mutO (G:=fun v'=>wpAny (model g.prog g.w) A (setItem v' key' b') Q E s) (hv.mono x) fun i d hi P=>P.obn fun kk ek P=>bkOf_ok (G:=fun key'=>wpAny (model g.prog g.w) A (setItem (.ref d) key' b') Q E s) (hk.mono x) ek fun ka vals t1 t2 g1 g2=>P.gdO fun e3 P =>
    P.bdC (fun e P=>setB_ok (es:=[]) H hb hi g1 g2 .nil (ed_book H hi e) List.nodup_nil (fun e m=>nomatch m) (Nat.zero_le _) (o _ P).1 (hx.mono x) ⟨8,e3⟩ fun s' H'=>k _ _ _ _ c s' () P (.refl c) H' trivial)
      fun es e P=>let ⟨_,x1,x2,x3,x4⟩:=book_at H hb hi e;setB_ok H hb hi g1 g2 x1 x2 x3 x4 (o _ P).1 (o _ P).2.1 (hx.mono x) ⟨8,e3⟩ fun s' H'=>k _ _ _ _ c s' () P (.refl c) H' trivial
end
end T
namespace T
section
variable {g:Gd} {hnd:Option Nat} {dep:Nat} {c:Cc} {σ:List AObj} {fs:List Out} {A:Around} {E:Value→Shared→Prop} {s:Shared}
noncomputable def opTruth (v:AV):Rd→List Orc→List AObj→Option (AR Bool):=fun _ orc σ=>btC v (fun b=>some (b,σ,[],orc)) (fun _=>none)
  (lsO σ v fun vs=>gdO (told σ v) (gdO (Nat.ble vs.length 10000) (some (Nat.blt 0 vs.length,σ,[],orc))))
theorem truth_ok {Q:Bool→Shared→Prop} {x:Addr} {vs:List AV} {vals:List Value} (q:VRels c vs vals) (t:s.heap.IsList x vals.toArray) (hz:Nat.ble vs.length 10000=true) (h:Q (Nat.blt 0 vs.length) {s with toks:=s.toks+1+1}) :
    wpAny (model g.prog g.w) A (truthy (.ref x)) Q E s:=by
  have z:=Nat.le_of_ble_eq_true hz
  rw [q.length] at h z
  refine wpAny_truthy_list t (Int.ofNat_lt.mpr (Nat.lt_of_le_of_lt z (by decide))) ?_
  cases vals with
  | nil=>exact h
  | cons _ _=>exact h
theorem leaf_truth {c₀:Cc} {v:AV} {v':Value} (hv:VRel c₀ v v'):LeafN g c₀ (opTruth v) (truthy v') VB :=
  .q fun rd orc σ c fs A s Q E C x H k o P=>P.btC (G:=fun v'=>wpAny (model g.prog g.w) A (truthy v') Q E s) (hv.mono x) (fun b P=>wpAny_truthy_bool (k _ _ _ _ c s _ P (.refl c) H rfl)) (fun _ _ P=>P.no)
    fun P=>P.lsO (G:=fun v'=>wpAny (model g.prog g.w) A (truthy v') Q E s) H (hv.mono x) fun _ _ _ q t P=>P.gdO fun _ P=>P.gdO fun e P=>truth_ok q t e (k _ _ _ _ c _ _ P (.refl c) (H.tick _) rfl)
noncomputable def truthE (v:AV):EM Bool:=sopN (opTruth v)
theorem truthE_ok:TruthOk g truthE:=fun _ _ _ h=>.leafN fun _=>leaf_truth h
noncomputable def in2 (op:Operator) (i j:Int):Option Int:=match op with
  | .Add=>some (i+j)
  | .Sub=>some (i - j)
  | _=>none
theorem in2_ok {op:Operator} {i j k:Int} {t u:Tok} {Q:Value→Shared→Prop} (e:in2 op i j=some k) (fin:(Made.int k).post Q s):wpAny (model g.prog g.w) A (inplaceOp op (.int i t) (.int j u)) Q E s:=by
  cases op with
  | Add=>exact AutoIntOps.iadd_0 (Option.some.inj e▸fin)
  | Sub=>exact AutoIntOps.isub_0 (Option.some.inj e▸fin)
  | _=>exact no_some e
noncomputable def opIn2 (op:Operator) (a b:AV):Rd→List Orc→List AObj→Option (AR AV):=fun _ orc σ=>int2 a b (fun l i j=>obn (in2 op i j) fun k=>some (mkI l k,σ,[],orc)) none
theorem leaf_in2 {c₀:Cc} {op:Operator} {a b:AV} {a' b':Value} (ha:VRel c₀ a a') (hb:VRel c₀ b b'):LeafN g c₀ (opIn2 op a b) (inplaceOp op a' b') VRel :=
  .q fun rd orc σ c fs A s Q E C x H k o P=>P.int2 (G:=fun a b=>wpAny (model g.prog g.w) A (inplaceOp op a b) Q E s) ha hb (fun _ _ _ _ _ P=>P.obn fun _ e P=>in2_ok e (k _ _ _ _ c _ _ P (.refl c) (H.tick _) (mkI_ok ..))) Ok.no
noncomputable def negO {γ:Type} (op:UnaryOp) (x:Option γ):Option γ:=match op with
  | .USub=>x
  | _=>none
theorem Ok.negO {γ:Type} {C:γ→Prop} {G:UnaryOp→Prop} {op:UnaryOp} {x:Option γ} (P:Ok C (T.negO op x)) (h:Ok C x→G .USub):G op:=by
  cases op with
  | USub=>exact h P
  | _=>exact P.no
noncomputable def opNeg (op:UnaryOp) (a:AV):Rd→List Orc→List AObj→Option (AR AV):=fun _ orc σ=>negO op (intO a (fun l i=>some (mkI l (-i),σ,[],orc)) none)
theorem leaf_neg {c₀:Cc} {op:UnaryOp} {a:AV} {a':Value} (ha:VRel c₀ a a'):LeafN g c₀ (opNeg op a) (unaryOp op a') VRel :=
  .q fun rd orc σ c fs A s Q E C x H k o P=>P.negO (G:=fun op=>wpAny (model g.prog g.w) A (unaryOp op a') Q E s) fun P=>P.intO (G:=fun a'=>wpAny (model g.prog g.w) A (unaryOp .USub a') Q E s) ha
    (fun _ _ _ _ P=>PyProof.Rows.neg_int (k _ _ _ _ c _ _ P (.refl c) (H.tick _) (mkI_ok ..))) Ok.no
noncomputable def opMul0 (a b:AV):Rd→List Orc→List AObj→Option (AR AV):=fun _ orc σ=>mutO a fun i=>litO b fun j=>gdO (decide (j=0)) (lstC σ[i]? fun _ _=>some (.mut σ.length,σ++[.list false []],[],orc))
theorem mul0_ok (H:Hp g hnd dep c σ fs A s) {Q:Value→Shared→Prop} {l:Addr} {vals:Array Value} {n:Nat} {u:Tok} (p:s.heap.get? l=some (listObj vals n)) (k:∀ c' s' v,Ext c c'→Hp g hnd dep c' (σ++[.list false []]) fs A s'→VRel c' (.mut σ.length) v→Q v s') :
    wpAny (model g.prog g.w) A (binaryOp .Mult (.ref l) (.int 0 u)) Q E s:=by
  refine wpAny_binaryOp_repeat_ref (T := "list") (U := "int") (by decide) ⟨_,p,rfl⟩ (fun s'=>typeIs_int s' 0 u) noFill_list_mul F.fills_int_mul F.slot_int_rmul repeat_list F.slot_int_index.lookup
    (call_meets F.slot_int_rmul (typeIs_int s 0 u) F.entry_int_rmul (F.args_int_rmul_2 _ _) (int___rmul___int_list 0 u l vals n)
      ⟨p,rfl,⟨_,p,rfl⟩,call_meets F.slot_list_mul ⟨_,p,rfl⟩ F.entry_list_mul (F.args_list_mul_2 _ _)
        (AutoListH.list___mul___list_int_3 l vals n 0 u (by simp [Builtin.List.listFitsIndex]) (by simp) (by simp [Builtin.List.listTooLong,sizeLine])) ⟨p,?_⟩⟩)
  have hz:=H.alloc (tk:=s.toks) (o:=listObj #[] 0) (b:=.list false []) rfl ⟨#[],0,rfl,.nil,fun z=>no_tf z⟩
  have he:({cls:=.type "list",data:=.seq (List.foldl (fun x1 x2=>x1++x2) #[] (List.replicate (if vals.isEmpty=true then 0 else (0:Int).toNat) vals))}:Obj)=listObj #[] 0:=by
    cases vals.isEmpty<;>rfl
  exact k _ _ _ (.addR ..) (he▸hz) (.mut H.newLst)
theorem leaf_mul0 {c₀:Cc} {a b:AV} {a' b':Value} (ha:VRel c₀ a a') (hb:VRel c₀ b b'):LeafN g c₀ (opMul0 a b) (binaryOp .Mult a' b') VRel :=
  .q fun rd orc σ c fs A s Q E C x H k o P=>P.mutO (G:=fun a'=>wpAny (model g.prog g.w) A (binaryOp .Mult a' b') Q E s) (ha.mono x) fun _ l hi P=>P.litO (G:=fun b'=>wpAny (model g.prog g.w) A (binaryOp .Mult (.ref l) b') Q E s) hb fun _ _ P=>P.gdO fun e0 P=>P.lstC fun _ _ e P =>
    let ⟨_,_,p,_⟩:=H.lst hi e;(of_decide_eq_true e0).symm▸mul0_ok H p fun c' s' v X H' r=>k _ _ _ _ c' s' v P X H' r
noncomputable def opLenS (as:List AV):Rd→List Orc→List AObj→Option (AR AV):=fun _ orc σ=>oneA as fun a=>strL a fun x=>gdO (Nat.blt (slen x) 10000) (some (.int (.ofNat (slen x)),σ,[],orc))
theorem lenS_ok {Q:Value→Shared→Prop} {y:Str} {t:Tok} (e:Nat.blt (slen y) 10000=true) (h:Q (.int (.ofNat (slen y)) (s.toks+1)) {s with toks:=s.toks+1+1}):wpAny (model g.prog g.w) A (call (.builtin "len") [.str y t] []) Q E s:=by
  have e2:=Nat.le_of_ble_eq_true e
  rw [← slen_eq] at e2 h
  exact len_str (Int.not_le.mpr (Int.ofNat_lt.mpr (Nat.lt_trans e2 (by decide)))) h
theorem leaf_lenS {c₀:Cc} {as:List AV} {vs:List Value} (hv:VRels c₀ as vs):LeafN g c₀ (opLenS as) (call (.builtin "len") vs []) VRel :=
  .q fun rd orc σ c fs A s Q E C x H k o P=>P.oneA (G:=fun vs=>wpAny (model g.prog g.w) A (call (.builtin "len") vs []) Q E s) hv fun _ _ h P=>P.strL (G:=fun v=>wpAny (model g.prog g.w) A (call (.builtin "len") [v] []) Q E s) h fun _ _ P=>P.gdO fun e P=>lenS_ok e (k _ _ _ _ c _ _ P (.refl c) (H.tick _) (.int _ _))
end
end T
namespace T
theorem slot_fn_ga:Slot "function" "__getattribute__" "object.__getattribute__" :=
  .of (owner := "object") (n := "__getattribute__") (by rw [typeLookup_type,builtinLookup_eq_fast];kernel_rfl) (by decide +kernel) (by decide +kernel) (by decide +kernel)
    (by first | exact .inl (by decide +kernel) | exact .inr (by decide +kernel)) (by rw [isSubtype_type];kernel_rfl)
theorem args_obj_ga (a b:Value):argsOk "object.__getattribute__" ⟨[a,b],[]⟩:=by unfold argsOk;kernel_rfl
theorem entry_obj_ga:entryFor table "object.__getattribute__" = some Builtin.«object.__getattribute__»:=entryFor_of_tree (by kernel_rfl)
theorem lk_fn_class:typeLookup (.type "function") "__class__" = pure (some (.builtin "object.__class__")):=by rw [typeLookup_type,builtinLookup_eq_fast];kernel_rfl
theorem sub_fn_owner:isSubtype (.type "function") (.type (".".intercalate ("object.__class__".cutAt '.').dropLast))=pure true:=by
  rw [PySem.F.owner_object_class,isSubtype_type];kernel_rfl
theorem sub_fn_tuple:isSubtype (.type "function") (.type "tuple")=pure false:=by rw [isSubtype_type];kernel_rfl
theorem ty_tuple:typeOf (.type "tuple")=pure (.type "type"):=by kernel_rfl
section
variable {prog:Program} {w:World} {A:Around} {E:Value→Shared→Prop} {h:Heap} {g:Array GenState} {d:Drawn} {t:Nat} {os:OsState} {a:Addr} {o:Obj}
theorem class_get_fn {R:Result→Shared→Prop} (hx:h.get? a=some o) (hc:o.cls=.type "function") (hq:R (.ok (.ret (.type "function"))) ⟨h,g,d,t,os⟩) :
    codeAny (model prog w) A (.call (.builtin "getset_descriptor.__get__") ⟨[.builtin "object.__class__",.ref a,.type "function"],[]⟩) R ⟨h,g,d,t,os⟩:=by
  have hT:(⟨h,g,d,t,os⟩:Shared).TypeIs (.ref a) "function" := ⟨_,hx,hc⟩
  have hT5:(⟨h,g,d,t,os⟩:Shared).TypeIs (.builtin "object.__class__") "getset_descriptor" := PySem.F.typeOf_object_class
  have f8:=sub_fn_owner
  refine codeAny_call_builtin PySem.F.slot_gs_get.plain PySem.F.entry_gs_get (PySem.F.slot_gs_get.check _ _ _ _ _ _ _ _ hT5 (PySem.F.args_gs_get _ _ _) ?_)
  repeat (any_goals (first | assumption | wp_step))
  refine ⟨Code.quiet_builtin _ (by decide +kernel),codeAny_builtin PySem.F.entry_object_class ?_⟩
  repeat (any_goals (first | assumption | wp_step))
theorem class_entry_fn {tk:Tok} {Q:Fin→Shared→Prop} (hx:h.get? a=some o) (hc:o.cls=.type "function") (hq:Q (.done (.ret (.type "function"))) ⟨h,g,d,t,os⟩) :
    wpAny (model prog w) A (Builtin.«object.__getattribute__» ⟨[.ref a,.str "__class__" tk],[]⟩) Q E ⟨h,g,d,t,os⟩:=by
  have hT:(⟨h,g,d,t,os⟩:Shared).TypeIs (.ref a) "function" := ⟨_,hx,hc⟩
  have hT5:(⟨h,g,d,t,os⟩:Shared).TypeIs (.builtin "object.__class__") "getset_descriptor" := PySem.F.typeOf_object_class
  have f4:=lk_fn_class
  have f5:=PySem.F.typeOf_object_class
  have f6:=PySem.F.slot_gs_get.lookup
  have f7:=PySem.F.slot_gs_set.lookup
  repeat (any_goals (first | assumption | wp_step))
  refine class_get_fn hx hc ?_
  repeat (any_goals (first | assumption | wp_step))
theorem class_call_fn {tk:Tok} {R:Result→Shared→Prop} (hx:h.get? a=some o) (hc:o.cls=.type "function") (hq:R (.ok (.ret (.type "function"))) ⟨h,g,d,t,os⟩) :
    codeAny (model prog w) A (.call (.builtin "object.__getattribute__") ⟨[.ref a,.str "__class__" tk],[]⟩) R ⟨h,g,d,t,os⟩ :=
  codeAny_call_builtin slot_fn_ga.plain entry_obj_ga (slot_fn_ga.check _ _ _ _ _ _ _ _ (show (⟨h,g,d,t,os⟩:Shared).TypeIs (.ref a) "function" from ⟨_,hx,hc⟩) (args_obj_ga _ _) (class_entry_fn hx hc hq))
theorem class_by_fn {tk:Tok} {Q:Value→Shared→Prop} (hx:h.get? a=some o) (hc:o.cls=.type "function") (hq:Q (.type "function") ⟨h,g,d,t,os⟩):wpAny (model prog w) A (getAttrBy (.ref a) (.str "__class__" tk) false) Q E ⟨h,g,d,t,os⟩:=by
  have hT:(⟨h,g,d,t,os⟩:Shared).TypeIs (.ref a) "function" := ⟨_,hx,hc⟩
  have f2:=slot_fn_ga.lookup
  have f3:=slot_fn_ga.bind (.ref a)
  repeat (any_goals (first | assumption | wp_step))
  refine class_call_fn hx hc ?_
  repeat (any_goals (first | assumption | wp_step))
theorem class_attr_fn {Q:Option Value→Shared→Prop} (hx:h.get? a=some o) (hc:o.cls=.type "function") (hq:Q (some (.type "function")) ⟨h,g,d,t+1,os⟩):wpAny (model prog w) A (getAttr? (.ref a) "__class__") Q E ⟨h,g,d,t,os⟩:=by
  unfold getAttr? getAttrBy?
  repeat (any_goals (first | assumption | with_reducible apply class_by_fn hx hc | wp_step))
theorem isi_fn {T:String} {dep:Int} {tk:Tok} {Q:Fin→Shared→Prop} (hx:h.get? a=some o) (hc:o.cls=.type "function") (hne:(Value.type "function" == Value.type T)=false) (hty:typeOf (.type T)=pure (.type "type"))
    (hsub:isSubtype (.type "function") (.type T)=pure false) (hq:Q (.done (.ret (.bool false))) ⟨h,g,d,t+1,os⟩) :
    wpAny (model prog w) A (Builtin.«isinstance.nested» ⟨[.ref a,.type T,.int dep tk],[]⟩) Q E ⟨h,g,d,t,os⟩:=by
  have hT:(⟨h,g,d,t,os⟩:Shared).TypeIs (.ref a) "function" := ⟨_,hx,hc⟩
  repeat (any_goals (first | assumption | with_reducible apply class_attr_fn hx hc | wp_step))
end
theorem isi_fn_tuple {prog:Program} {w:World} {A:Around} {E:Value→Shared→Prop} {s:Shared} {a:Addr} {o:Obj} {Q:Value→Shared→Prop} (hx:s.heap.get? a=some o) (hc:o.cls=.type "function") (h:Q (.bool false) {s with toks:=s.toks+1}) :
    wpAny (model prog w) A (call (.builtin "isinstance") [.ref a,.type "tuple"]) Q E s :=
  call_isinstance (S:=fun _ R s=>(∃ o,s.heap.get? a=some o∧o.cls=.type "function")∧R (.ok (.ret (.bool false))) {s with toks:=s.toks+1})
    (fun _ _ _ _ _ hs=>by
      obtain ⟨⟨o,h1,h2⟩,h3⟩:=hs
      exact isinstance_outer (isi_fn h1 h2 (by decide +kernel) ty_tuple sub_fn_tuple h3) (by intro e;cases e)) ⟨⟨o,hx,hc⟩,h⟩
end T
namespace T
structure IsT where
  yes:List (Addr × Addr)
  noS:List Addr
  fns:List Addr
noncomputable def IsTOk (K:Frag) (t:IsT):Prop:=(∀ p∈t.yes,isIn K (.ref p.1) p.2=true)∧(∀ C∈t.noS,isNotIn K "str" C=true)∧(∀ f∈t.fns,typeIn K (.ref f)=some (.type "function"))
noncomputable def memA (l:List (Addr × Addr)) (a b:Addr):Bool:=memP (fun p=>cond (Nat.beq a p.1) (Nat.beq b p.2) false) l
theorem memA_mem {l:List (Addr × Addr)} {a b:Addr} (h:memA l a b=true):(a,b)∈l :=
  let ⟨_,m,e⟩:=memP_iff.mp h
  Nat.eq_of_beq_eq_true (cond_ff e).1▸Nat.eq_of_beq_eq_true (cond_ff e).2▸m
noncomputable def isiC {γ:Type} (a:AV) (fi:Addr→Option γ) (fs:Option γ) (fr:Addr→Option γ):Option γ:=match a with
  | .inst C _=>fi C
  | .fi C _=>fi C
  | .str _=>fs
  | .ss _=>fs
  | .ref f=>fr f
  | _=>none
noncomputable def refO {γ:Type} (b:AV) (f:Addr→Option γ):Option γ:=match b with
  | .ref B=>f B
  | _=>none
noncomputable def tiO {γ:Type} (t:TI) (b:AV) (x:Option γ):Option γ:=match b with
  | .typ n=>gdO (decide (n=t)) x
  | _=>none
noncomputable def opIsi (t:IsT) (as:List AV):Rd→List Orc→List AObj→Option (AR AV):=fun _ orc σ=>twoA as fun a b=>isiC a (fun C=>refO b fun B=>gdO (memA t.yes C B) (some (.bool true,σ,[],orc)))
  (refO b fun B=>gdO (memN t.noS B) (some (.bool false,σ,[],orc))) fun f=>tiO .tuple b (gdO (memN t.fns f) (some (.bool false,σ,[],orc)))
section
variable {γ:Type} {C:γ→Prop} {c:Cc} {a:AV} {v:Value} {G:Value→Prop}
theorem Ok.isiC {g:Gd} {hnd:Option Nat} {dep:Nat} {σ:List AObj} {fs:List Out} {A:Around} {s:Shared} {fi:Addr→Option γ} {gs:Option γ} {fr:Addr→Option γ} (P:Ok C (T.isiC a fi gs fr)) (H:Hp g hnd dep c σ fs A s) (hv:VRel c a v)
    (h1:∀ x D o,s.heap.get? x=some o→o.cls=.ref D→Ok C (fi D)→G (.ref x)) (h2:∀ x t,Ok C gs→G (.str x t)) (h3:∀ f,Ok C (fr f)→G (.ref f)):G v:=by
  cases a with
  | inst D d=>exact hv.elim fun x dx _ g=>h1 x D _ (H.st.keep _ _ (.inl g)) rfl P
  | fi D fs=>exact hv.elim fun x dx ens n g _ _=>h1 x D _ (H.st.keep _ _ (.inl g)) rfl P
  | str i=>exact hv.elim fun t=>h2 i t P
  | ss i=>exact hv.elim fun t=>h2 i t P
  | ref f=>exact hv.elim (h3 f P)
  | _=>exact P.no
theorem Ok.refO {f:Addr→Option γ} (P:Ok C (T.refO a f)) (hv:VRel c a v) (h:∀ x,Ok C (f x)→G (.ref x)):G v:=by
  cases a with
  | ref x=>exact hv.elim (h x P)
  | _=>exact P.no
theorem Ok.tiO {t:TI} {x:Option γ} (P:Ok C (T.tiO t a x)) (hv:VRel c a v) (h:Ok C x→G (.type t.id)):G v:=by
  cases a with
  | typ n=>exact hv.elim (P.gdO fun e P=>(of_decide_eq_true e).symm▸h P)
  | _=>exact P.no
end
section
variable {g:Gd}
theorem leaf_isi {t:IsT} (ht:IsTOk g.K t) {c₀:Cc} {as:List AV} {vs:List Value} (hv:VRels c₀ as vs):LeafN g c₀ (opIsi t as) (call (.builtin "isinstance") vs []) VRel :=
  .q fun rd orc σ c fs A s Q E C x H k o P=>P.twoA (G:=fun vs=>wpAny (model g.prog g.w) A (call (.builtin "isinstance") vs []) Q E s) hv fun _ u _ w h1 h2 P=>P.isiC (G:=fun u=>wpAny (model g.prog g.w) A (call (.builtin "isinstance") [u,w] []) Q E s) H (h1.mono x)
    (fun y D o q e P=>P.refO (G:=fun w=>wpAny (model g.prog g.w) A (call (.builtin "isinstance") [.ref y,w] []) Q E s) h2 fun B P=>P.gdO fun e3 P=>isi_call (t:=.ref D) H.K (fun M=>e▸(Looks.ld q).andThen .now) (ht.1 _ (memA_mem e3)) (fun z=>by cases z) (k _ _ _ _ c _ _ P (.refl c) H (.bool true)))
    (fun y tk P=>P.refO (G:=fun w=>wpAny (model g.prog g.w) A (call (.builtin "isinstance") [.str y tk,w] []) Q E s) h2 fun B P=>P.gdO fun e3 P=>isn_call (P:=fun _=>True) (T := "str") H.K (fun M=>Looks.of_pure rfl) (ht.2.1 _ (memN_iff e3)) (fun z=>by cases z) trivial str_cls (k _ _ _ _ c _ _ P (.refl c) (H.tick _) (.bool false)))
    fun f P=>P.tiO (G:=fun w=>wpAny (model g.prog g.w) A (call (.builtin "isinstance") [.ref f,w] []) Q E s) h2 fun P=>P.gdO fun e3 P=>let ⟨_,q1,q2⟩:=Option.map_eq_some_iff.mp (ht.2.2 _ (memN_iff e3));isi_fn_tuple (H.K _ _ q1) q2 (k _ _ _ _ c _ _ P (.refl c) (H.tick _) (.bool false))
end
structure MeT where
  ms:List (Addr × Str × Addr)
  cs:List (Addr × Str × Addr)
  us:List (Addr × Str)
noncomputable def MeOk (K:Frag) (p:Addr × Str × Addr):Prop:=findIn K (.ref p.1) "__getattribute__" = some (some (.builtin "object.__getattribute__"))∧findIn K (.ref p.1) "__getattr__" = some none∧findIn K (.ref p.1) p.2.1=some (some (.ref p.2.2))∧typeIn K (.ref p.2.2)=some (.type "function")
noncomputable def CsOk (K:Frag) (p:Addr × Str × Addr):Prop:=specialIn K (.ref p.1) "__getattribute__" = some (some (.builtin "type.__getattribute__"))∧∃ mc,readsIn K p.1 mc=true∧findCls K (.ref p.1) mc p.2.1=some (.val (.ref p.2.2))
noncomputable def UsOk (K:Frag) (p:Addr × Str):Prop:=findIn K (.ref p.1) "__getattribute__" = some (some (.builtin "object.__getattribute__"))∧findIn K (.ref p.1) "__getattr__" = some none∧findIn K (.ref p.1) p.2=some none
noncomputable def MeTOk (K:Frag) (t:MeT):Prop:=(∀ p∈t.ms,MeOk K p)∧(∀ p∈t.cs,CsOk K p)∧∀ p∈t.us,UsOk K p
noncomputable def mlk:List (Addr × Str × Addr)→Addr→Str→Option Addr
  | [],_,_=>none
  | p::r,C,n=>cond (cond (Nat.beq p.1 C) (seq p.2.1 n) false) (some p.2.2) (mlk r C n)
theorem cond_some {γ:Type} {b:Bool} {x y:γ} {r:Option γ} {G:Prop} (e:cond b (some x) r=some y) (h1:b=true→x=y→G) (h2:r=some y→G):G:=by
  cases b with
  | true=>exact h1 rfl (Option.some.inj e)
  | false=>exact h2 e
theorem mlk_mem {C:Addr} {n:Str} {f:Addr} {l:List (Addr × Str × Addr)}:mlk l C n=some f→(C,n,f)∈l:=by
  induction l with
  | nil=>exact no_some
  | cons p r ih=>exact fun h=>cond_some h (fun e z=>Nat.eq_of_beq_eq_true (cond_ff e).1▸seq_iff.mp (cond_ff e).2▸z▸.head _) fun h=>.tail _ (ih h)
noncomputable def sAppend:Str:=⟨⟨[97,112,112,101,110,100]⟩⟩
noncomputable def sPop:Str:=⟨⟨[112,111,112]⟩⟩
noncomputable def sIndex:Str:=⟨⟨[105,110,100,101,120]⟩⟩
noncomputable def sGet:Str:=⟨⟨[103,101,116]⟩⟩
noncomputable def sJoin:Str:=⟨⟨[106,111,105,110]⟩⟩
noncomputable def sInit:Str:=⟨⟨[95,95,105,110,105,116,95,95]⟩⟩
noncomputable def lMeth (n:Str):Option BI:=cond (seq n sAppend) (some .append) (cond (seq n sPop) (some .pop) (cond (seq n sIndex) (some .index) none))
noncomputable def dMeth (n:Str):Option BI:=cond (seq n sGet) (some .dget) (cond (seq n sPop) (some .dpop) none)
noncomputable def gmC {γ:Type} (a:AV) (fi:Addr→Nat→Option γ) (fr:Addr→Option γ) (fe fs fl:Option γ) (fm:Nat→Option γ):Option γ:=match a with
  | .inst C d=>fi C d
  | .ref C=>fr C
  | .typ n=>gdO (decide (n=.exception)) fe
  | .str _=>fs
  | .fl _=>fl
  | .mut i=>fm i
  | _=>none
noncomputable def ldC {γ:Type} (o:Option AObj) (l d:Option γ):Option γ:=match o with
  | none=>none
  | some x=>match x with
    | .list _ _=>l
    | .ed=>d
    | .sd _ _=>d
    | .bd _=>d
    | .kd _ _=>d
    | _=>none
noncomputable def opGm (tab:List (Addr × Str)) (t:MeT) (a:AV) (n:Str):Rd→List AObj→Option ((AV × List AV) × List AObj):=fun rd σ=>gmC a
  (fun C d=>objC σ[d]? none (fun sy es=>pk sy none (orO (mlk t.ms C n) (fun f=>orO (lk es n) (fun _=>none) (some ((.ref f,[a]),σ))) (gdO (atIn t.us C n) (obn (opGet tab a n rd σ) fun p=>some ((p.1,[]),p.2))))) (fun _ _=>none) (fun _=>none))
  (fun C=>obn (mlk t.cs C n) fun f=>some ((.ref f,[]),σ)) (gdO (seq n sInit) (some ((.bi .excInit,[]),σ))) (gdO (seq n sJoin) (some ((.bi .join,[a]),σ)))
  (obn (lMeth n) fun b=>some ((.bi b,[a]),σ)) (fun i=>ldC σ[i]? (obn (lMeth n) fun b=>some ((.bi b,[a]),σ)) (obn (dMeth n) fun b=>some ((.bi b,[a]),σ)))
noncomputable def MethB (T:String) (n:Str) (b:BI):Prop:=Slot T n b.id∧typeOf (.builtin b.id)=pure (.type "method_descriptor")
theorem lMeth_ok {n:Str} {b:BI} (h:lMeth n=some b):MethB "list" n b :=
  cond_some h (fun e z=>(seq_iff.mp e).symm▸z▸⟨PySem.F.slot_list_append,by kernel_rfl⟩) fun h=>cond_some h (fun e z=>(seq_iff.mp e).symm▸z▸⟨PySem.F.slot_list_pop,by kernel_rfl⟩) fun h=>cond_some h (fun e z=>(seq_iff.mp e).symm▸z▸⟨PySem.F.slot_list_index,by kernel_rfl⟩) no_some
theorem dMeth_ok {n:Str} {b:BI} (h:dMeth n=some b):MethB "dict" n b :=
  cond_some h (fun e z=>(seq_iff.mp e).symm▸z▸⟨PySem.F.slot_dict_get,by kernel_rfl⟩) fun h=>cond_some h (fun e z=>(seq_iff.mp e).symm▸z▸⟨PySem.F.slot_dict_pop,by kernel_rfl⟩) no_some
theorem type_exc:typeOf (.type "Exception")=pure (.type "type"):=by kernel_rfl
theorem find_exc:findCls [] (.type "Exception") (.type "type") sInit=some (.val (.builtin "Exception.__init__")):=by kernel_rfl
theorem excM {prog:Program} {w:World} {A:Around} {E:Value→Shared→Prop} {s:Shared} {pl:Sem Bool} {mg:Str→Option Value} {Q:Value × List Value→Shared→Prop} (G:s.heap.Ns mainGlobals mg) (h:Q (.builtin "Exception.__init__",[]) {s with toks:=s.toks+1}) :
    wpAny (model prog w) A (getMethod (.type "Exception") sInit pl) Q E s :=
  method_type (K:=[]) (h₀:={objs:=#[]}) (L:=mainGlobals) (m:=mg) ⟨G,fun b o e=>by simp [Heap.get?] at e,Nat.zero_le _⟩ (fun a o e=>by cases e) type_exc (by decide +kernel) find_exc rfl h
theorem ty_join:typeOf (.builtin "str.join")=pure (.type "method_descriptor"):=by kernel_rfl
theorem strM {M:Model} {A:Around} {E:Value→Shared→Prop} {s:Shared} {pl:Sem Bool} {x:Str} {tk:Tok} {Q:Value × List Value→Shared→Prop} (h:Q (.builtin "str.join",[.str x tk]) s):wpAny M A (getMethod (.str x tk) sJoin pl) Q E s :=
  getMethod_builtin (v:=.str x tk) (T := "str") rfl PySem.F.plainAttrs_str PySem.F.slot_str_join ty_join (fun a e=>by cases e) h
section
variable {γ:Type} {C:γ→Prop} {c:Cc} {a:AV} {v:Value} {G:Value→Prop}
theorem Ok.gmC {fi:Addr→Nat→Option γ} {fr:Addr→Option γ} {fe fs fl:Option γ} {fm:Nat→Option γ} (P:Ok C (T.gmC a fi fr fe fs fl fm)) (hv:VRel c a v) (h1:∀ D d x dx,c.r[d]?=some dx→c.G x=some (instObj D dx)→Ok C (fi D d)→G (.ref x))
    (h2:∀ D,Ok C (fr D)→G (.ref D)) (h3:Ok C fe→G (.type "Exception")) (h4:∀ x t,Ok C fs→G (.str x t)) (h5:∀ x vals n,c.G x=some (listObj vals n)→Ok C fl→G (.ref x)) (h6:∀ i x,c.r[i]?=some x→Ok C (fm i)→G (.ref x)):G v:=by
  cases a with
  | inst D d=>exact hv.elim fun x dx g1 g2=>h1 D d x dx g1 g2 P
  | ref D=>exact hv.elim (h2 D P)
  | typ n=>exact hv.elim (P.gdO fun e P=>(of_decide_eq_true e).symm▸h3 P)
  | str x=>exact hv.elim fun t=>h4 x t P
  | fl vs=>exact hv.elim fun x vals n g _=>h5 x vals n g P
  | «mut» i=>exact hv.elim fun x e=>h6 i x e P
  | _=>exact P.no
end
noncomputable def Bare (s:Shared) (T:String) (x:Addr):Prop:=∃ o,s.heap.get? x=some o∧o.cls=.type T∧o.dict=none
section
variable {g:Gd} {hnd:Option Nat} {dep:Nat} {c:Cc} {σ:List AObj} {fs:List Out} {A:Around} {E:Value→Shared→Prop} {s:Shared}
theorem Ok.ldC {γ:Type} {C:γ→Prop} {G:Prop} {i:Nat} {x:Addr} {l d:Option γ} (P:Ok C (T.ldC σ[i]? l d)) (H:Hp g hnd dep c σ fs A s) (hi:c.r[i]?=some x) (h1:Bare s "list" x→Ok C l→G) (h2:Bare s "dict" x→Ok C d→G):G:=by
  have q:=fun b (e:σ[i]?=some b)=>H.st.at hi e
  revert P q
  cases σ[i]? with
  | none=>exact fun P _=>P.no
  | some b=>cases b with
    | list sy vs=>exact fun P q=>let ⟨o,p,vals,n,e,_⟩:=q _ rfl;h1 ⟨o,p,e▸rfl,e▸rfl⟩ P
    | ed=>exact fun P q=>let ⟨o,p,n,e⟩:=q _ rfl;h2 ⟨o,p,e▸rfl,e▸rfl⟩ P
    | sd sy es=>exact fun P q=>let ⟨o,p,ens,n,e,_⟩:=q _ rfl;h2 ⟨o,p,e▸rfl,e▸rfl⟩ P
    | bd es=>exact fun P q=>let ⟨o,p,ens,n,e,_⟩:=q _ rfl;h2 ⟨o,p,e▸rfl,e▸rfl⟩ P
    | kd ks tab=>exact fun P q=>let ⟨o,p,ens,n,e,_⟩:=q _ rfl;h2 ⟨o,p,e▸rfl,e▸rfl⟩ P
    | _=>exact fun P _=>P.no
theorem gm_bi {T:String} {n:Str} {b:BI} {x:Addr} {pl:Sem Bool} {Q:Value × List Value→Shared→Prop} (pa:PlainAttrs T) (h:MethB T n b) (B:Bare s T x) (k:Q (.builtin b.id,[.ref x]) s):wpAny (model g.prog g.w) A (getMethod (.ref x) n pl) Q E s :=
  let ⟨o,p,q,r⟩:=B
  getMethod_builtin ⟨o,p,q⟩ pa h.1 h.2 (fun a e=>⟨o,Value.ref.inj e▸p,r⟩) k
theorem leaf_gm {c₀:Cc} {tab:List (Addr × Str)} (htab:∀ p∈tab,AttrOk g.K p.1 p.2) {t:MeT} (ht:MeTOk g.K t) {a:AV} {a':Value} {n:Str} {pl:Sem Bool} (ha:VRel c₀ a a'):Leaf g c₀ (opGm tab t a n) (getMethod a' n pl) PR :=
  .s fun rd σ c fs A s Q E C x H k P=>by
    have one:∀ {v},VRel c a v→VRels c [a] [v]:=fun h=>.cons h .nil
    refine P.gmC (G:=fun a'=>VRel c₀ a a'→wpAny (model g.prog g.w) A (getMethod a' n pl) Q E s) (ha.mono x) (fun D d y dx g1 g2 P ha=>P.objC (fun _ P=>P.no) (fun sy es e P=>P.pk (fun _ P=>P.no) fun _ P=>?_) (fun _ _ _ P=>P.no) fun _ _ P=>P.no)
      (fun D P _=>P.obn fun f e P=>?_) (fun P _=>P.gdO fun e P=>?_) (fun y tk P ha=>P.gdO fun e P=>?_) (fun y vals m g1 P ha=>P.obn fun b e P=>gm_bi PySem.F.plainAttrs_list (lMeth_ok e) ⟨_,H.st.keep _ _ (.inl g1),rfl,rfl⟩ (k _ _ c s _ P (.refl c) H ⟨.bi _,one (ha.mono x)⟩))
      (fun i y hi P ha=>P.ldC H hi (fun B P=>P.obn fun b e P=>gm_bi PySem.F.plainAttrs_list (lMeth_ok e) B (k _ _ c s _ P (.refl c) H ⟨.bi _,one (ha.mono x)⟩)) fun B P=>P.obn fun b e P=>gm_bi PySem.F.plainAttrs_dict (dMeth_ok e) B (k _ _ c s _ P (.refl c) H ⟨.bi _,one (ha.mono x)⟩)) ha
    · obtain ⟨ens,m,I,R⟩:=inst_at H g1 g2 e
      refine P.orO (fun f e1 P=>P.orO (fun _ _ P=>P.no) fun e2 P=>?_) fun _ P=>P.gdO fun e1 P=>?_
      · obtain ⟨q1,q2,q3,q4⟩:=ht.1 _ (mlk_mem e1)
        obtain ⟨o,p1,p2⟩:=R.lookIn (n:=m) n
        rw [e2] at p2
        exact method_fn H.K I q1 q2 q3 q4 (by show (lookIn n (dictObj ens m)).map _=_;rw [p1,show o=none from p2];rfl) (k _ _ c s _ P (.refl c) H ⟨.ref f,one (ha.mono x)⟩)
      · exact P.obn fun p e2 P=>let ⟨q1,q2,q3⟩:=ht.2.2 _ (atIn_mem e1);method_usual H.K I q1 q2 q3 rfl (leaf_get htab ha rd σ _ _ e2 c fs A s _ E x H fun c' s' x' H' b hb=>k _ _ c' s' _ P x' H' ⟨hb,.nil⟩)
    · obtain ⟨q1,mc,q2,q3⟩:=ht.2.1 _ (mlk_mem e)
      exact method_cls H.K q1 (cls_value H.K q2 q3 rfl (k _ _ c _ _ P (.refl c) (H.tick _) ⟨.ref f,.nil⟩))
    · rw [seq_iff.mp e]
      exact excM H.T.g (k _ _ c _ _ P (.refl c) (H.tick _) ⟨.bi .excInit,.nil⟩)
    · rw [seq_iff.mp e]
      exact strM (k _ _ c s _ P (.refl c) H ⟨.bi .join,one (ha.mono x)⟩)
end
end T
namespace T
noncomputable def dict0E:EM AV:=sop fun _ σ=>some (.mut σ.length,σ++[.ed])
theorem display0:dictDisplay []=newDict:=by
  rfl
theorem S_dict0 {g:Gd} {pos:Pos}:SE g dict0E (.Dict [] [] pos):=fun c₀=>.leaf fun env=>.s fun rd σ c fs A s Q E C x H k P=>by
  show wpAny _ _ (standAt pos>>=fun _=>dictDisplay []) Q E s
  rw [display0]
  exact wpAny_bind (wpAny_standAt (wpAny_bind (wpAny_alloc (wpAny_pure (k _ _ _ _ _ P (.addR ..) (H.alloc (tk:=s.toks) (o:=dictObj #[] 0) (b:=.ed) rfl ⟨0,rfl⟩) (.mut H.newLst))))))
end T
namespace T
noncomputable def mapO {α β:Type} (f:α→Option β):List α→Option (List β)
  | []=>some []
  | a::r=>obn (f a) fun b=>Option.map (b::·) (mapO f r)
noncomputable def mapS {α β:Type} (f:α→Option β):List (Str × α)→Option (List (Str × β))
  | []=>some []
  | a::r=>obn (f a.2) fun b=>Option.map ((a.1,b)::·) (mapS f r)
noncomputable def fzC {γ:Type} (o:Option AObj) (l sl:List AV→Option γ) (d:List (Str × AV)→Option γ):Option γ:=match o with
  | none=>none
  | some x=>match x with
    | .list sy vs=>pk sy (sl vs) (l vs)
    | .ed=>d []
    | .sd _ es=>d es
    | _=>none
noncomputable def cvS (frz:Bool) (pos:Nat→Option Nat) (σ:List AObj) (f:AV→Option AV) (v:AV):Option AV:=match v with
  | .mut i=>orO (pos i) (fun p=>some (.mut p)) (gdO frz (fzC σ[i]? (fun vs=>Option.map .fl (mapO f vs)) (fun vs=>some (.sl vs)) fun es=>Option.map .fd (mapS f es)))
  | .inst C d=>orO (pos d) (fun p=>some (.inst C p)) (gdO frz (fzC σ[d]? (fun _=>none) (fun _=>none) fun es=>Option.map (.fi C) (mapS f es)))
  | .tup vs=>Option.map .tup (mapO f vs)
  | .fl vs=>Option.map .fl (mapO f vs)
  | .fd es=>Option.map .fd (mapS f es)
  | .fi C es=>Option.map (.fi C) (mapS f es)
  | v=>some v
noncomputable def cv (frz:Bool) (pos:Nat→Option Nat) (σ:List AObj):Nat→AV→Option AV
  | 0,_=>none
  | n+1,v=>cvS frz pos σ (cv frz pos σ n) v
noncomputable def cvO (frz:Bool) (pos:Nat→Option Nat) (σ:List AObj) (n:Nat) (b:AObj):Option AObj:=match b with
  | .list sy vs=>pk sy (some (.list sy vs)) (Option.map (.list false) (mapO (cv frz pos σ n) vs))
  | .sd sy es=>Option.map (.sd sy) (mapS (cv frz pos σ n) es)
  | .kd ks tab=>Option.map (.kd ks) (mapS (cv frz pos σ n) tab)
  | .exc C d tr=>orO d (fun d=>obn (pos d) fun p=>some (.exc C (some p) tr)) (some (.exc C none tr))
  | b=>some b
structure Mv (hb:World→BK→Int) (frz:Bool) (pos:Nat→Option Nat) (c c':Cc) (σ:List AObj) (h:Heap):Prop where
  P1:∀ (i p:Nat) (a:Addr),pos i=some p→c.r[i]?=some a→c'.r[p]?=some a
  G:∀ a o,c.G a=some o→c'.G a=some o
  P3:frz=true→∀ (i:Nat) (a:Addr),pos i=none→c.r[i]?=some a→c'.G a=h.get? a
  tb:∀ t,t∈c.tb→t∈c'.tb
  w:c'.w=c.w
  mem:∀ (i:Nat) (a:Addr),c.r[i]?=some a→∃ o,h.get? a=some o∧∀ b:AObj,σ[i]?=some b→ORel hb c b o
  low:∀ a∈c.r,(a == sysModules)=false
section
variable {hb:World→BK→Int} {frz:Bool} {pos:Nat→Option Nat} {c c':Cc} {σ:List AObj} {h:Heap}
theorem Cl.el {a:AV} {G:Prop} (h:Cl a) (k:∀ n,clF (n+1) a=true→G):G :=
  let ⟨n,e⟩:=h
  Nat.casesOn (motive:=fun n=>clF n a=true→G) n no_tf k e
theorem Cl.tup {vs:List AV} (h:Cl (.tup vs)):∀ v∈vs,Cl v:=h.el fun k e v m=>⟨k,allF_iff.mp e v m⟩
theorem Cl.fl {vs:List AV} (h:Cl (.fl vs)):∀ v∈vs,Cl v:=h.el fun k e v m=>⟨k,allF_iff.mp e v m⟩
theorem Cl.fd {es:List (Str × AV)} (h:Cl (.fd es)):∀ e∈es,Cl e.2:=h.el fun k e v m=>⟨k,allF_iff.mp e v m⟩
theorem Cl.fi {C:Addr} {es:List (Str × AV)} (h:Cl (.fi C es)):∀ e∈es,Cl e.2:=h.el fun k e v m=>⟨k,allF_iff.mp e v m⟩
section
variable (G:∀ a o,c.G a=some o→c'.G a=some o) (w:c'.w=c.w)
include G w
theorem VRel.cl {a:AV} {v:Value} (h:VRel c a v):Cl a→VRel c' a v :=
  VRel.rec (motive_1:=fun a v _=>Cl a→VRel c' a v) (motive_2:=fun a v _=>(∀ x∈a,Cl x)→VRels c' a v) (motive_3:=fun a v _=>(∀ e∈a,Cl e.2)→SRels c' a v) (fun _=>.none) (fun b _=>.bool b) (fun i t _=>.int i t) (fun i t _=>.si i t) (fun s t _=>.str s t) (fun s t _=>.ss s t) (fun a _=>.ref a) (fun n _=>.typ n) (fun n _=>.bi n)
    (fun _ k=>k.el fun _=>no_tf) (fun _ _ k=>k.el fun _=>no_tf) (fun g _ h k=>.tup (G _ _ g) (h k.tup)) (fun g _ h k=>.fl (G _ _ g) (h k.fl)) (fun g _ z h k=>.fd (G _ _ g) (h k.fd) z) (fun g g' _ h k=>.fi (G _ _ g) (G _ _ g') (h k.fi)) (fun v _=>.any v) (fun g _ z h _=>.sl (G _ _ g) (h z) z) (fun _ z h _=>.op (h z) z) (fun g _=>.rg (G _ _ g))
    (fun _=>.nil) (fun _ _ h t k=>.cons (h (k _ (.head _))) (t fun v m=>k v (.tail _ m))) (fun _=>.nil) (fun h e _ _ v t k=>.cons (w▸h) e (v (k _ (.head _))) (t fun v m=>k v (.tail _ m))) h
theorem VRels.cl {a:List AV} {v:List Value} (h:VRels c a v):(∀ v∈a,Cl v)→VRels c' a v :=
  h.ind (P:=fun a v=>(∀ v∈a,Cl v)→VRels c' a v) (fun _=>.nil) fun _ _ _ _ h _ ih k=>.cons (h.cl G w (k _ (.head _))) (ih fun v m=>k v (.tail _ m))
theorem NRels.cl {a:List (Int × AV)} {v:List DictEntry} (h:NRels c a v) (k:∀ e∈a,Cl e.2):NRels c' a v:=by
  induction h with
  | nil=>exact .nil
  | cons h1 h2 h3 h4 ih=>exact .cons h1 h2 (h3.cl G w (k _ (.head _))) (ih fun e m=>k e (.tail _ m))
theorem BRels.cl {hk} {a:List (BK × AV)} {v:List DictEntry} (h:BRels c hk a v) (k:∀ e∈a,Cl e.2):BRels c' hk a v:=by
  induction h with
  | nil=>exact .nil
  | cons h1 h2 h3 h4 h5 h6 ih=>exact .cons h1 h2 (G _ _ h3) h4 (h5.cl G w (k _ (.head _))) (ih fun e m=>k e (.tail _ m))
end
theorem map_some {α β:Type} {f:α→β} {o:Option α} {y:β} (e:Option.map f o=some y):∃ x,o=some x∧f x=y:=Option.map_eq_some_iff.mp e
section
variable {f:AV→Option AV} (ih:∀ v v' x,f v=some v'→VRel c v x→VRel c' v' x)
include ih
theorem mapO_rel {l l':List AV} {y:List Value} (e:mapO f l=some l') (r:VRels c l y):VRels c' l' y :=
  r.ind (P:=fun l y=>∀ l',mapO f l=some l'→VRels c' l' y) (fun _ e=>Option.some.inj e▸.nil) (fun _ _ _ _ h _ t _ e=>let ⟨_,e1,e⟩:=obn_some e;let ⟨_,e2,e⟩:=map_some e;e▸.cons (ih _ _ _ e1 h) (t _ e2)) l' e
theorem mapS_rel (w:c'.w=c.w) {l l':List (Str × AV)} {y:List DictEntry} (e:mapS f l=some l') (r:SRels c l y):SRels c' l' y :=
  r.ind (P:=fun l y=>∀ l',mapS f l=some l'→SRels c' l' y) (fun _ e=>Option.some.inj e▸.nil) (fun _ _ _ _ _ h1 h2 h3 _ t _ e=>let ⟨_,e1,e⟩:=obn_some e;let ⟨_,e2,e⟩:=map_some e;e▸.cons (w▸h1) h2 (ih _ _ _ e1 h3) (t _ e2)) l' e
theorem mapS_get {k:Str} {x:Value} {l:List (Str × AV)}:∀ l',mapS f l=some l'→VRel c ((lk l k).getD .any) x→VRel c' ((lk l' k).getD .any) x:=by
  induction l with
  | nil=>exact fun _ e _=>Option.some.inj e▸.any x
  | cons a r t =>
    intro l' e
    obtain ⟨b,e1,e⟩:=obn_some e
    obtain ⟨l2,e2,e⟩:=map_some e
    rw [← e]
    show VRel c ((cond (seq k a.1) (some a.2) (lk r k)).getD .any) x→VRel c' ((cond (seq k a.1) (some b) (lk l2 k)).getD .any) x
    cases seq k a.1 with
    | true=>exact ih _ _ _ e1
    | false=>exact t _ e2
theorem kd_move (w:c'.w=c.w) {tab l:List (Str × AV)} (e:mapS f tab=some l) {ks:List Str}:∀ {en:List DictEntry},SRels c (kdE ks tab) en→SRels c' (kdE ks l) en:=by
  induction ks with
  | nil=>exact fun q=>SRels.nilE (G:=SRels c' []) q .nil
  | cons a ks t=>exact fun q=>SRels.consE (p:=(a,(lk tab a).getD .any)) (es:=kdE ks tab) q fun _ _ _ h1 h2 h3 h4=>.cons (w▸h1) h2 (mapS_get ih _ e h3) (t h4)
end
section
variable {γ:Type} {C:γ→Prop} {G:Prop}
theorem Ok.map {β:Type} {f:β→γ} {o:Option β} (P:Ok C (Option.map f o)) (h:∀ x,o=some x→C (f x)→G):G:=by
  cases o with
  | none=>exact P.elim
  | some x=>exact h x rfl P
theorem Ok.fzC {o:Option AObj} {ob:Obj} {l sl:List AV→Option γ} {d:List (Str × AV)→Option γ} (P:Ok C (T.fzC o l sl d)) (r:∀ b,o=some b→ORel hb c b ob) (h1:∀ vs vals n,ob=listObj vals n→VRels c vs vals.toList→Ok C (l vs)→G)
    (h2:∀ vs vals n,ob=listObj vals n→VRels c vs vals.toList→(∀ v∈vs,Cl v)→Ok C (sl vs)→G) (h3:∀ es ens n,ob=dictObj ens n→SRels c es ens.toList→Ok C (d es)→G):G:=by
  cases o with
  | none=>exact P.elim
  | some b=>cases b with
    | list sy vs=>exact let ⟨vals,n,e,q,z⟩:=r _ rfl;P.pk (fun y P=>h2 vs vals n e q (z y) P) fun _ P=>h1 vs vals n e q P
    | ed=>exact let ⟨n,e⟩:=r _ rfl;h3 [] #[] n e .nil P
    | sd _ es=>exact let ⟨ens,n,e,q⟩:=r _ rfl;h3 es ens n e q P
    | _=>exact P.elim
end
theorem cvS_ok (m:Mv hb frz pos c c' σ h) {f:AV→Option AV} (ih:∀ v v' x,f v=some v'→VRel c v x→VRel c' v' x) {C:AV→Prop} {G:Value→Prop} {v:AV} {x:Value} (r:VRel c v x):Ok C (cvS frz pos σ f v)→(∀ v',C v'→VRel c' v' x→G x)→G x :=
  VRel.casesOn (motive_1:=fun v x _=>Ok C (cvS frz pos σ f v)→(∀ v',C v'→VRel c' v' x→G x)→G x) r (fun P k=>k _ P .none) (fun b P k=>k _ P (.bool b)) (fun i t P k=>k _ P (.int i t)) (fun i t P k=>k _ P (.si i t)) (fun s t P k=>k _ P (.str s t)) (fun s t P k=>k _ P (.ss s t)) (fun a P k=>k _ P (.ref a)) (fun n P k=>k _ P (.typ n)) (fun n P k=>k _ P (.bi n))
    (fun hi P k=>P.orO (fun _ e P=>k _ P (.mut (m.P1 _ _ _ e hi))) fun e1 P=>P.gdO fun ef P=>let ⟨_,g1,g2⟩:=m.mem _ _ hi;have g:=(m.P3 ef _ _ e1 hi).trans g1
      P.fzC g2 (fun vs vals n z q P=>P.map fun _ e P=>k _ P (.fl (z▸g) (mapO_rel ih e q))) (fun vs vals n z q y P=>k _ P (.sl (z▸g) (q.cl m.G m.w y) y)) fun es ens n z q P=>P.map fun _ e P=>k _ P (.fd (z▸g) (mapS_rel ih m.w e q) (m.low _ (List.mem_of_getElem? hi))))
    (fun hi hx P k=>P.orO (fun _ e P=>k _ P (.inst (m.P1 _ _ _ e hi) (m.G _ _ hx))) fun e1 P=>P.gdO fun ef P=>let ⟨_,g1,g2⟩:=m.mem _ _ hi;have g:=(m.P3 ef _ _ e1 hi).trans g1
      P.fzC g2 (fun _ _ _ _ _ P=>P.no) (fun _ _ _ _ _ _ P=>P.no) fun es ens n z q P=>P.map fun _ e P=>k _ P (.fi (m.G _ _ hx) (z▸g) (mapS_rel ih m.w e q)))
    (fun g q P k=>P.map fun _ e P=>k _ P (.tup (m.G _ _ g) (mapO_rel ih e q))) (fun g q P k=>P.map fun _ e P=>k _ P (.fl (m.G _ _ g) (mapO_rel ih e q))) (fun g q z P k=>P.map fun _ e P=>k _ P (.fd (m.G _ _ g) (mapS_rel ih m.w e q) z)) (fun g g' q P k=>P.map fun _ e P=>k _ P (.fi (m.G _ _ g) (m.G _ _ g') (mapS_rel ih m.w e q)))
    (fun v P k=>k _ P (.any v)) (fun g q z P k=>k _ P (.sl (m.G _ _ g) (q.cl m.G m.w z) z)) (fun q z P k=>k _ P (.op (q.cl m.G m.w z) z)) (fun g P k=>k _ P (.rg (m.G _ _ g)))
theorem cv_ok (m:Mv hb frz pos c c' σ h) (n:Nat):∀ (v v':AV) (x:Value),cv frz pos σ n v=some v'→VRel c v x→VRel c' v' x:=by
  induction n with
  | zero=>exact fun _ _ _ e=>no_some e
  | succ n ih=>exact fun v v' x e r=>cvS_ok m ih (C:=(·=v')) (G:=VRel c' v') r (e▸rfl:Ok (·=v') (cv frz pos σ (n+1) v)) fun _ q z=>q▸z
theorem cvO_ok (m:Mv hb frz pos c c' σ h) {n:Nat} {b b':AObj} {o:Obj} (e:cvO frz pos σ n b=some b') (r:ORel hb c b o):ORel hb c' b' o:=by
  have ih:=cv_ok m n
  have P:Ok (·=b') (cvO frz pos σ n b):=e▸rfl
  cases b with
  | list s vs=>exact let ⟨vals,k,e,q,z⟩:=r;P.pk (fun y P=>(P:AObj.list s vs=b')▸⟨vals,k,e,q.cl m.G m.w (z y),z⟩) fun _ P=>P.map fun _ e1 P=>(P:AObj.list false _=b')▸⟨vals,k,e,mapO_rel ih e1 q,fun z=>no_tf z⟩
  | sd s es=>exact let ⟨ens,k,e,q⟩:=r;P.map fun _ e1 P=>(P:AObj.sd s _=b')▸⟨ens,k,e,mapS_rel ih m.w e1 q⟩
  | kd ks tab=>exact let ⟨ens,k,e,q⟩:=r;P.map fun _ e1 P=>(P:AObj.kd ks _=b')▸⟨ens,k,e,kd_move ih m.w e1 q⟩
  | exc D d tr =>
    obtain ⟨h1,h2,vs,h3,h4,h5,h6⟩:=r
    have tl:∃ vs,o.data=.fields vs∧6≤vs.size∧((tr=false∧vs[1]?=some .none)∨∃ t,vs[1]?=some (.ref t)∧t∈c'.tb)∧vs[2]?=some .none:=⟨vs,h3,h4,h5.imp id fun ⟨t,a,b⟩=>⟨t,a,m.tb _ b⟩,h6⟩
    cases d with
    | none=>exact (P:AObj.exc D none tr=b')▸⟨h1,h2,tl⟩
    | some d=>exact Ok.obn (o:=pos d) P fun p e1 P=>(P:AObj.exc D (some p) tr=b')▸⟨h1,let ⟨a,q1,q2⟩:=h2;⟨a,m.P1 _ _ _ e1 q1,q2⟩,tl⟩
  | nd es=>exact let ⟨ens,k,e,q,z⟩:=r;(P:AObj.nd es=b')▸⟨ens,k,e,q.cl m.G m.w z,z⟩
  | bd es=>exact let ⟨ens,k,e,q,z,z2⟩:=r;(P:AObj.bd es=b')▸⟨ens,k,e,m.w▸q.cl m.G m.w z,z,z2⟩
  | _=>exact (P:_=b')▸r
end
end T
namespace T
noncomputable def WkO (a b:AObj):Prop:=∀ hb c o,ORel hb c a o→ORel hb c b o
inductive WkS:List AObj→List AObj→Prop
  | nil:WkS [] []
  | cons {a b as bs}:WkO a b→WkS as bs→WkS (a::as) (b::bs)
inductive WkL:List AV→List AV→Prop
  | nil:WkL [] []
  | cons {a b as bs}:Weak a b→WkL as bs→WkL (a::as) (b::bs)
noncomputable def WkLs (ls ls0:List (Str × AV)):Prop:=∀ x v,lk ls0 x=some v→∃ u,lk ls x=some u∧Weak u v
theorem Weak.refl (a:AV):Weak a a:=fun _ _ h=>h
theorem WkO.refl (a:AObj):WkO a a:=fun _ _ _ h=>h
theorem WkS.refl (l:List AObj):WkS l l:=List.rec .nil (fun a _ ih=>.cons (.refl a) ih) l
theorem WkL.refl (l:List AV):WkL l l:=List.rec .nil (fun a _ ih=>.cons (.refl a) ih) l
theorem WkLs.refl (l:List (Str × AV)):WkLs l l:=fun _ v h=>⟨v,h,.refl v⟩
section
variable {α β γ:Type}
noncomputable def Al (R:α→β→Prop) (as:List α) (bs:List β):Prop:=as.length=bs.length∧∀ (i:Nat) a b,as[i]?=some a→bs[i]?=some b→R a b
theorem at_lt {l:List α} {i:Nat} {a:α} (e:l[i]?=some a):i < l.length:=(List.getElem?_eq_some_iff.mp e).1
theorem Al.fst {R:α→β→Prop} {as:List α} {bs:List β} (h:Al R as bs) {i:Nat} {b:β} (e:bs[i]?=some b):∃ a,as[i]?=some a∧R a b :=
  have q:=List.getElem?_eq_getElem (h.1.symm▸at_lt e)
  ⟨_,q,h.2 i _ b q e⟩
theorem Al.snd {R:α→β→Prop} {as:List α} {bs:List β} (h:Al R as bs) {i:Nat} {a:α} (e:as[i]?=some a):∃ b,bs[i]?=some b∧R a b :=
  have q:=List.getElem?_eq_getElem (h.1▸at_lt e)
  ⟨_,q,h.2 i a _ e q⟩
theorem Al.mono {R S:α→β→Prop} {as:List α} {bs:List β} (h:Al R as bs) (k:∀ a b,R a b→S a b):Al S as bs:=⟨h.1,fun i a b e1 e2=>k a b (h.2 i a b e1 e2)⟩
theorem Al.comp {R:α→β→Prop} {S:β→γ→Prop} {as:List α} {bs:List β} {cs:List γ} (h:Al R as bs) (k:Al S bs cs):Al (fun a c=>∃ b,R a b∧S b c) as cs :=
  ⟨h.1.trans k.1,fun _ _ _ e1 e2=>let ⟨b,e3,r⟩:=h.snd e1;⟨b,r,k.2 _ _ _ e3 e2⟩⟩
theorem Al.flip {R:α→β→Prop} {as:List α} {bs:List β} (h:Al R as bs):Al (fun b a=>R a b) bs as:=⟨h.1.symm,fun i b a e1 e2=>h.2 i a b e2 e1⟩
theorem app_l {a b:List α} {i:Nat} {x:α} (e:a[i]?=some x):(a++b)[i]?=some x:=(List.getElem?_append_left (at_lt e)).trans e
theorem app_r {a b:List α} {i:Nat} {x:α} (e:b[i]?=some x):(a++b)[a.length+i]?=some x:=by
  rw [List.getElem?_append_right (Nat.le_add_right ..),Nat.add_sub_cancel_left];exact e
theorem app_at {a b:List α} {i:Nat} {x:α} {G:Prop} (e:(a++b)[i]?=some x) (h1:i < a.length→a[i]?=some x→G) (h2:∀ j,i=a.length+j→b[j]?=some x→G):G :=
  (Nat.lt_or_ge i a.length).elim (fun l=>h1 l ((List.getElem?_append_left l).symm.trans e)) fun l=>h2 _ (Nat.add_sub_cancel' l).symm ((List.getElem?_append_right l).symm.trans e)
theorem Al.app {R:α→β→Prop} {a a':List α} {b b':List β} (h:Al R a b) (k:Al R a' b'):Al R (a++a') (b++b') :=
  ⟨by rw [List.length_append,List.length_append,h.1,k.1],fun i x y e1 e2=>app_at e1 (fun l e=>app_at e2 (fun _ e'=>h.2 i x y e e') fun j z _=>absurd (z▸l) (Nat.not_lt.mpr (h.1▸Nat.le_add_right ..)))
    fun j z e=>app_at e2 (fun l _=>absurd (z▸l) (Nat.not_lt.mpr (h.1▸Nat.le_add_right ..))) fun j' z' e'=>k.2 j x y e (Nat.add_left_cancel ((z.symm.trans z').trans (by rw [h.1]))▸e')⟩
theorem take_at {l:List α} {k i:Nat} {x:α} (e:(l.take k)[i]?=some x):i < k∧l[i]?=some x:=by
  rw [List.getElem?_take] at e
  by_cases q:i < k
  · rw [if_pos q] at e;exact ⟨q,e⟩
  · rw [if_neg q] at e;exact no_some e
theorem at_take {l:List α} {k i:Nat} {x:α} (q:i < k) (e:l[i]?=some x):(l.take k)[i]?=some x:=by rw [List.getElem?_take,if_pos q];exact e
theorem at_drop {l:List α} {k i:Nat} {x:α} (q:k≤i) (e:l[i]?=some x):(l.drop k)[i - k]?=some x:=by rw [List.getElem?_drop,Nat.add_sub_cancel' q];exact e
theorem Al.take {R:α→β→Prop} {a:List α} {b:List β} (h:Al R a b) (k:Nat):Al R (a.take k) (b.take k):=⟨by rw [List.length_take,List.length_take,h.1],fun i x y e1 e2=>h.2 i x y (take_at e1).2 (take_at e2).2⟩
theorem Al.drop {R:α→β→Prop} {a:List α} {b:List β} (h:Al R a b) (k:Nat):Al R (a.drop k) (b.drop k):=⟨by rw [List.length_drop,List.length_drop,h.1],fun i x y e1 e2=>h.2 (k+i) x y (List.getElem?_drop▸e1) (List.getElem?_drop▸e2)⟩
theorem Al.nil {R:α→β→Prop}:Al R [] []:=⟨rfl,fun _ _ _ e=>no_some e⟩
theorem Al.cons {R:α→β→Prop} {a:α} {b:β} {as:List α} {bs:List β} (h:R a b) (t:Al R as bs):Al R (a::as) (b::bs):=⟨congrArg Nat.succ t.1,fun i x y e1 e2=>by
  cases i with
  | zero=>exact Option.some.inj e1▸Option.some.inj e2▸h
  | succ i=>exact t.2 i x y e1 e2⟩
theorem mapO_al {f:α→Option β} {l:List α}:∀ {l':List β},mapO f l=some l'→Al (fun a b=>f a=some b) l l':=by
  induction l with
  | nil=>exact fun e=>Option.some.inj e▸.nil
  | cons a r ih=>exact fun e=>let ⟨_,e1,e⟩:=obn_some e;let ⟨_,e2,e⟩:=map_some e;e▸.cons e1 (ih e2)
theorem nodup_at {l:List α} (h:l.Nodup) {i j:Nat} {a:α} (h1:l[i]?=some a) (h2:l[j]?=some a):i=j:=(List.getElem?_inj (at_lt h1) h).mp (h1.trans h2.symm)
theorem eq_none {o:Option α} (h:∀ x,o=some x→False):o=none:=by
  cases o with
  | none=>rfl
  | some x=>exact (h x rfl).elim
end
theorem WkS.al {a b:List AObj} (h:WkS a b):Al WkO a b:=by
  induction h with
  | nil=>exact .nil
  | cons h _ ih=>exact .cons h ih
theorem WkL.rel {c:Cc} {a b:List AV} (h:WkL a b):∀ {vs:List Value},VRels c a vs→VRels c b vs:=by
  induction h with
  | nil=>exact id
  | cons h1 _ ih=>exact fun r=>r.consE fun _ _ r1 r2=>.cons (h1 _ _ r1) (ih r2)
section
variable {g:Gd} {hnd:Option Nat} {dep:Nat} {c:Cc} {σ σ0:List AObj} {fs:List Out} {A:Around} {s:Shared}
noncomputable def OAt (hb:World→BK→Int) (c:Cc) (h:Heap) (a:Addr) (b:AObj):Prop:=∃ o,h.get? a=some o∧ORel hb c b o
theorem St.al {hb:World→BK→Int} {fs:List Fm} {h:Heap} (S:St hb c σ fs h):Al (OAt hb c h) c.r σ:=⟨S.len,fun _ _ _ e1 e2=>S.at e1 e2⟩
theorem Al.mem {hb:World→BK→Int} {h:Heap} {r:List Addr} (al:Al (OAt hb c h) r σ) (i:Nat) (a:Addr) (e:r[i]?=some a):∃ o,h.get? a=some o∧∀ b:AObj,σ[i]?=some b→ORel hb c b o :=
  let ⟨_,e2,o,p,q⟩:=al.snd e
  ⟨o,p,fun _ e3=>Option.some.inj (e2.symm.trans e3)▸q⟩
theorem Hp.weak (H:Hp g hnd dep c σ fs A s) (w:WkS σ σ0):Hp g hnd dep c σ0 fs A s :=
  have al:=(H.st.al.comp w.al).mono (S:=OAt g.hb c s.heap) fun _ _ ⟨_,⟨o,p,q⟩,k⟩=>⟨o,p,k _ _ _ q⟩
  ⟨⟨H.st.keep,al.1,al.mem,H.st.fr,H.st.nd,H.st.sep,H.st.tbs,H.st.disj⟩,H.base,H.w,H.frames,H.guards,H.fok,H.depth,H.units,H.hnd,H.gens,H.os,H.low⟩
theorem Hp.own (H:Hp g hnd dep c σ fs A s) {a:Addr} (m:a∈c.r):c.free a:=H.st.sep a (List.mem_append_right _ m)
theorem Hp.reroot {c2:Cc} {σ2:List AObj} (H:Hp g none dep c σ fs A s) (hG:∀ a o,c2.G a=some o→c.G a=some o∨(a∈c.r∧a ∉ c2.r∧c2.F a=none∧s.heap.get? a=some o)) (hF:∀ a o,c2.F a=some o→c.F a=some o∨(a∈c.r∧a ∉ c2.r∧s.heap.get? a=some o))
    (hr:∀ a∈c2.r,(a∈c.r∨∃ o,c.F a=some o)∧c2.F a=none∧1 < a) (hGG:∀ a o,c.G a=some o→c2.G a=some o) (nd2:c2.r.Nodup) (htb:c2.tb=c.tb) (hw:c2.w=c.w) (al:Al (OAt g.hb c2 s.heap) c2.r σ2):Hp g none dep c2 σ2 fs A s:=by
  have S:=H.st
  have nd:=List.nodup_append.mp S.nd
  have nG:∀ {a},c.G a=none→(a∈c.r→a∈c2.r)→c2.G a=none:=fun h1 h2=>eq_none fun o e=>(hG _ o e).elim (fun z=>no_some (h1.symm.trans z)) fun z=>z.2.1 (h2 z.1)
  have nF:∀ {a},c.F a=none→(a∈c.r→a∈c2.r)→c2.F a=none:=fun h1 h2=>eq_none fun o e=>(hF _ o e).elim (fun z=>no_some (h1.symm.trans z)) fun z=>z.2.1 (h2 z.1)
  have fr:∀ a,a∈(fs.map fun o=>(o.env.locals,o.m)).map (·.1)→a ∉ c.r:=fun a m z=>nd.2.2 a m a z rfl
  have fr2:∀ a,a∈(fs.map fun o=>(o.env.locals,o.m)).map (·.1)→a ∉ c2.r:=fun a m z=>(hr a z).1.elim (fr a m) fun ⟨o,q⟩=>no_some ((S.sep a (List.mem_append_left _ m)).2.symm.trans q)
  refine ⟨⟨fun a o h=>h.elim (fun h=>(hG a o h).elim (fun z=>S.keep a o (.inl z)) fun z=>z.2.2.2) fun h=>(hF a o h).elim (fun z=>S.keep a o (.inr z)) fun z=>z.2.2,al.1,al.mem,S.fr,List.nodup_append.mpr ⟨nd.1,nd2,fun a m b mb e=>fr2 a m (e▸mb)⟩,
    fun a m=>(List.mem_append.mp m).elim (fun m=>have f:=S.sep a (List.mem_append_left _ m);⟨nG f.1 fun z=>absurd z (fr a m),nF f.2 fun z=>absurd z (fr a m)⟩) fun m=>⟨nG (eq_none fun o e=>(hr a m).1.elim (fun z=>no_some ((H.own z).1.symm.trans e)) fun ⟨o',z⟩=>no_some ((S.disj a o e).symm.trans z)) fun _=>m,(hr a m).2.1⟩,
    fun t m=>?_,fun a o h=>eq_none fun o' e=>(hG a o h).elim (fun z=>(hF a o' e).elim (fun y=>no_some ((S.disj a o z).symm.trans y)) fun y=>no_some ((H.own y.1).1.symm.trans z)) fun z=>no_some (z.2.2.1.symm.trans e)⟩,
    fun a o e=>hGG a o (H.base a o e),hw.trans H.w,H.frames,H.guards,H.fok,H.depth,H.units,H.hnd,H.gens,H.os,fun a m=>(hr a m).2.2⟩
  rw [htb] at m
  obtain ⟨p1,p2,p3⟩:=S.tbs t m
  have tr:t ∉ c.r:=fun z=>p1 (List.mem_append_right _ z)
  exact ⟨fun z=>(List.mem_append.mp z).elim (fun z=>p1 (List.mem_append_left _ z)) fun z=>(hr t z).1.elim tr fun ⟨o,q⟩=>no_some (p2.2.symm.trans q),⟨nG p2.1 fun z=>absurd z tr,nF p2.2 fun z=>absurd z tr⟩,p3⟩
theorem Hp.nd3 (H:Hp g hnd dep c σ fs A s):c.r.Nodup:=(List.nodup_append.mp H.st.nd).2.1
end
noncomputable def posB (k:Nat) (i:Nat):Option Nat:=gd0 (Nat.blt i k) i
noncomputable def idxN:List Nat→Nat→Nat→Option Nat
  | [],_,_=>none
  | a::r,i,k=>cond (Nat.beq a i) (some k) (idxN r i (k+1))
noncomputable def posX (k n:Nat) (L:List Nat) (i:Nat):Option Nat:=cond (Nat.blt i k) (some i) (idxN L i n)
theorem cond_el {γ:Type} {b:Bool} {x y:γ} {r:γ} {G:Prop} (e:cond b x r=y) (h1:b=true→x=y→G) (h2:b=false→r=y→G):G:=by
  cases b with
  | true=>exact h1 rfl e
  | false=>exact h2 rfl e
theorem blt_f {i k:Nat} (h:Nat.blt i k=false):k≤i:=Nat.le_of_not_lt fun q=>no_tf (h.symm.trans (Nat.ble_eq_true_of_le q))
theorem idxN_ok {i:Nat} {I:List Nat}:∀ {k p:Nat},idxN I i k=some p→∃ j,p=k+j∧I[j]?=some i:=by
  induction I with
  | nil=>exact fun e=>no_some e
  | cons a r ih=>exact fun h=>cond_el h (fun e z=>⟨0,(Option.some.inj z).symm,congrArg some (Nat.eq_of_beq_eq_true e)⟩) fun _ z=>let ⟨j,h1,h2⟩:=ih z;⟨j+1,h1.trans (Nat.add_right_comm ..),h2⟩
theorem idxN_none {i:Nat} {I:List Nat}:∀ {k:Nat},idxN I i k=none→i ∉ I:=by
  induction I with
  | nil=>exact fun _ m=>nomatch m
  | cons a r ih=>exact fun h=>cond_el h (fun _ z=>no_some z.symm) fun e z m=>(List.mem_cons.mp m).elim (fun q=>no_tf (e.symm.trans (q▸Nat.beq_refl i))) (ih z)
noncomputable def take' {α:Type}:Nat→List α→List α
  | 0,_=>[]
  | _+1,[]=>[]
  | n+1,a::r=>a::take' n r
noncomputable def drop' {α:Type}:Nat→List α→List α
  | 0,l=>l
  | _+1,[]=>[]
  | n+1,_::r=>drop' n r
theorem take'_eq {α:Type} (n:Nat):∀ (l:List α),take' n l=l.take n:=by
  induction n with
  | zero=>exact fun _=>rfl
  | succ n ih=>exact fun l=>match l with
    | []=>rfl
    | a::r=>congrArg (a::·) (ih r)
theorem drop'_eq {α:Type} (n:Nat):∀ (l:List α),drop' n l=l.drop n:=by
  induction n with
  | zero=>exact fun _=>rfl
  | succ n ih=>exact fun l=>match l with
    | []=>rfl
    | a::r=>ih r
theorem mapS_at {α β:Type} {f:α→Option β} {x:Str} {v:β} {l:List (Str × α)}:∀ {l':List (Str × β)},mapS f l=some l'→lk l' x=some v→∃ u,lk l x=some u∧f u=some v:=by
  induction l with
  | nil=>exact fun e h=>no_some ((congrArg (lk · x) (Option.some.inj e)).trans h)
  | cons a r ih =>
    intro l' e h
    obtain ⟨b,e1,e⟩:=obn_some e
    obtain ⟨l2,e2,e⟩:=map_some e
    rw [← e] at h
    show ∃ u,cond (seq x a.1) (some a.2) (lk r x)=some u∧_
    refine cond_el (b:=seq x a.1) h (fun q z=>?_) fun q z=>?_
    · rw [q];exact ⟨_,rfl,e1.trans z⟩
    · rw [q];exact ih e2 z
section
variable {g:Gd} {dep:Nat} {c:Cc} {σ:List AObj} {fs:List Out} {A:Around} {s:Shared}
noncomputable def Cc.focus (c:Cc) (k:Nat) (h:Heap):Cc:={c with F:=fun a=>if a∈c.r.drop k then h.get? a else c.F a,r:=c.r.take k}
theorem Hp.lows (H:Hp g none dep c σ fs A s):∀ a∈c.r,(a == sysModules)=false:=fun _ m=>let ⟨_,hi⟩:=List.mem_iff_getElem?.mp m;H.notMods hi
theorem focus_mv (H:Hp g none dep c σ fs A s) (k:Nat):Mv g.hb false (posB k) c (c.focus k s.heap) σ s.heap where
  P1:=fun i p a e h=>(gd0_ok e).2▸at_take (Nat.le_of_ble_eq_true (gd0_ok e).1) h
  G:=fun _ _ h=>h
  P3:=no_tf
  tb:=fun _ h=>h
  w:=rfl
  mem:=H.st.mem
  low:=H.lows
theorem Hp.apart (H:Hp g none dep c σ fs A s) {k:Nat} {a:Addr} (m1:a∈c.r.take k) (m2:a∈c.r.drop k):False:=by
  have nd:=H.nd3
  rw [← List.take_append_drop k c.r] at nd
  exact (List.nodup_append.mp nd).2.2 a m1 a m2 rfl
theorem cvO_al {hb:World→BK→Int} {frz:Bool} {pos:Nat→Option Nat} {c c':Cc} {h:Heap} {n:Nat} {r:List Addr} {x y:List AObj} (m:Mv hb frz pos c c' σ h) (al:Al (OAt hb c h) r x) (k:Al (fun b b'=>cvO frz pos σ n b=some b') x y):Al (OAt hb c' h) r y :=
  (al.comp k).mono fun _ _ ⟨_,⟨o,p,q⟩,e⟩=>⟨o,p,cvO_ok m e q⟩
theorem Hp.focus (H:Hp g none dep c σ fs A s) (k:Nat) {σ1:List AObj} (e:mapO (cvO false (posB k) σ 12) (take' k σ)=some σ1):Hp g none dep (c.focus k s.heap) σ1 fs A s:=by
  rw [take'_eq] at e
  refine H.reroot (fun a o h=>.inl h) (fun a o h=>?_) (fun a m=>⟨.inl (List.mem_of_mem_take m),(if_neg fun z=>H.apart m z).trans (H.own (List.mem_of_mem_take m)).2,H.low a (List.mem_of_mem_take m)⟩) (fun _ _ h=>h) (H.nd3.sublist (List.take_sublist ..)) rfl rfl (cvO_al (focus_mv H k) (H.st.al.take k) (mapO_al e))
  by_cases m:a∈c.r.drop k
  · exact .inr ⟨List.mem_of_mem_drop m,fun z=>H.apart z m,(if_pos m).symm.trans h⟩
  · exact .inl ((if_neg m).symm.trans h)
noncomputable def Cc.splice (c:Cc) (k:Nat) (rb kr:List Addr) (F2:Addr→Option Obj) (h:Heap):Cc :=
  {c with G:=fun a=>if a∈c.r.drop k∧a ∉ kr then h.get? a else c.G a,F:=F2,r:=c.r.take k++(rb++kr)}
noncomputable def objAt (f:AObj→Option AObj) (σ:List AObj) (i:Nat):Option AObj:=obn σ[i]? f
theorem kept_mem {r:List Addr} {L:List Nat} {kr:List Addr} (e:mapO (fun i=>r[i]?) L=some kr) {a:Addr} (m:a∈kr):∃ i∈L,r[i]?=some a :=
  let ⟨_,hi⟩:=List.mem_iff_getElem?.mp m
  let ⟨j,h1,h2⟩:=(mapO_al e).fst hi
  ⟨j,List.mem_of_getElem? h1,h2⟩
theorem kept_nodup {r:List Addr} (hr:r.Nodup) {L:List Nat}:∀ {kr:List Addr},mapO (fun i=>r[i]?) L=some kr→L.Nodup→kr.Nodup:=by
  induction L with
  | nil=>exact fun e _=>Option.some.inj e▸.nil
  | cons i L ih=>exact fun e n=>let ⟨_,e1,e⟩:=obn_some e;let ⟨_,e2,e⟩:=map_some e;have n:=List.nodup_cons.mp n;e▸List.nodup_cons.mpr ⟨fun m=>let ⟨_,h1,h2⟩:=kept_mem e2 m;n.1 (nodup_at hr e1 h2▸h1),ih e2 n.2⟩
theorem Hp.splice (H:Hp g none dep c σ fs A s) {k:Nat} (hk:k≤σ.length) {rb kr:List Addr} {σr:List AObj} {F2:Addr→Option Obj} (hF:∀ a o,F2 a=some o→c.F a=some o)
    (hrb:∀ a∈rb,(∃ o,c.F a=some o)∧F2 a=none∧1 < a) (hrn:rb.Nodup) {L:List Nat} (hL:mapO (fun i=>c.r[i]?) L=some kr) (hLk:∀ i∈L,k≤i) (hLn:L.Nodup) {n:Nat} (hn:n=k+rb.length)
    {σb σk:List AObj} (eb:mapO (cvO true (posX k n L) σ 12) (take' k σ)=some σb) (ek:mapO (objAt (cvO true (posX k n L) σ 12) σ) L=some σk)
    (hσr:Mv g.hb true (posX k n L) c (c.splice k rb kr F2 s.heap) σ s.heap→Al (OAt g.hb (c.splice k rb kr F2 s.heap) s.heap) rb σr) :
    Hp g none dep (c.splice k rb kr F2 s.heap) (σb++(σr++σk)) fs A s∧Mv g.hb true (posX k n L) c (c.splice k rb kr F2 s.heap) σ s.heap:=by
  have htl:(c.r.take k).length=k:=List.length_take_of_le (H.st.len▸hk)
  have hrbn:∀ {a},a∈rb→a ∉ c.r:=fun m z=>let ⟨⟨_,q⟩,_⟩:=hrb _ m;no_some ((H.own z).2.symm.trans q)
  have hkm:∀ {a},a∈kr→a∈c.r.drop k:=fun m=>let ⟨_,h1,h2⟩:=kept_mem hL m;List.mem_of_getElem? (at_drop (hLk _ h1) h2)
  have own:∀ {a},a∈c.r→F2 a=none:=fun m=>eq_none fun o q=>no_some ((H.own m).2.symm.trans (hF _ o q))
  have mv:Mv g.hb true (posX k n L) c (c.splice k rb kr F2 s.heap) σ s.heap:=by
    refine ⟨fun i p a e h=>?_,fun a o h=>(if_neg fun z=>no_some ((H.own (List.mem_of_mem_drop z.1)).1.symm.trans h)).trans h,fun _ i a e h=>?_,fun _ h=>h,rfl,H.st.mem,H.lows⟩
    · show (c.r.take k++(rb++kr))[p]?=_
      refine cond_el e (fun q z=>Option.some.inj z▸app_l (at_take (Nat.le_of_ble_eq_true q) h)) fun _ z=>?_
      obtain ⟨j,e1,e2⟩:=idxN_ok z
      obtain ⟨_,q1,q2⟩:=(mapO_al hL).snd e2
      rw [e1,hn,Nat.add_assoc]
      have:=app_r (a:=c.r.take k) (app_r (a:=rb) (q1.trans (q2.symm.trans h)))
      rwa [htl] at this
    · refine cond_el e (fun _ z=>no_some z.symm) fun q z=>if_pos ⟨List.mem_of_getElem? (at_drop (blt_f q) h),fun m=>?_⟩
      obtain ⟨i',h1,h2⟩:=kept_mem hL m
      exact idxN_none z (nodup_at H.nd3 h h2▸h1)
  rw [take'_eq] at eb
  have memr:∀ {a} {G:Prop},a∈c.r.take k++(rb++kr)→(a∈c.r.take k→G)→(a∈rb→G)→(a∈kr→G)→G:=fun m h1 h2 h3=>(List.mem_append.mp m).elim h1 fun m=>(List.mem_append.mp m).elim h2 h3
  refine ⟨H.reroot (fun a o h=>?_) (fun a o h=>.inl (hF a o h)) (fun a m=>memr m (fun z=>have z:=List.mem_of_mem_take z;⟨.inl z,own z,H.low a z⟩) (fun z=>⟨.inr (hrb a z).1,(hrb a z).2⟩) fun z=>have z:=List.mem_of_mem_drop (hkm z);⟨.inl z,own z,H.low a z⟩) mv.G ?_ rfl rfl
    ((cvO_al mv (H.st.al.take k) (mapO_al eb)).app ((hσr mv).app (((mapO_al hL).flip.comp (mapO_al ek)).mono fun _ _ ⟨_,e1,e2⟩=>let ⟨_,e3,e2⟩:=obn_some e2;let ⟨o,p,q⟩:=H.st.at e1 e3;⟨o,p,cvO_ok mv e2 q⟩))),mv⟩
  · by_cases m:a∈c.r.drop k∧a ∉ kr
    · exact .inr ⟨List.mem_of_mem_drop m.1,fun z=>memr z (fun z=>H.apart z m.1) (fun z=>hrbn z (List.mem_of_mem_drop m.1)) m.2,own (List.mem_of_mem_drop m.1),(if_pos m).symm.trans h⟩
    · exact .inl ((if_neg m).symm.trans h)
  · exact List.nodup_append.mpr ⟨H.nd3.sublist (List.take_sublist ..),List.nodup_append.mpr ⟨hrn,kept_nodup H.nd3 hL hLn,fun a m b mb e=>hrbn m (List.mem_of_mem_drop (hkm (e▸mb)))⟩,fun a m b mb e=>(List.mem_append.mp mb).elim (fun z=>hrbn z (e▸List.mem_of_mem_take m)) fun z=>H.apart m (hkm (e▸z))⟩
end
end T
namespace T
theorem obl_of {α:Type} {p q:Res α × AS} (e:p=q) (o:AllP q.2.obl):AllP p.2.obl:=e▸o
noncomputable def SndH (g:Gd) (m:EM AV) (args:List AV) (f:Value):Prop :=
  ∀ rd as vs c fs A s (Q:Value→Shared→Prop) (E:Value→Shared→Prop) (C:Res AV→AS→Prop),VRels c args vs→Hp g rd.hnd rd.dep c as.σ fs A s→rd.dep≤500+rd.off→(∀ r as,C r as→AllP as.obl) →
    (∀ r as' c' s',C r as'→as'.ls=as.ls→Ext c c'→Hp g rd.hnd rd.dep c' as'.σ fs A s'→After VRel c' as'.σ r Q E s')→EOk C (m.run rd as)→codeAny (model g.prog g.w) A (.call f ⟨vs,[]⟩) (retK Q E) s
theorem Inv.next {g:Gd} {rd:Rd} {c c':Cc} {f:Frm} {outs:List Out} {lm:Str→Option Value} {as as':AS} {A:Around} {s s':Shared} (I:Inv g rd c f outs lm as A s) (x:Ext c c') (l:as'.ls=as.ls) (H:Hp g rd.hnd rd.dep c' as'.σ (⟨f.env,lm⟩::outs) A s'):Inv g rd c' f outs lm as' A s' :=
  ⟨H,fun y v hy=>let ⟨v',p,z⟩:=I.ls y v (l▸hy);⟨v',p,z.mono x⟩,I.sc,I.room⟩
theorem SndH.toC {g:Gd} {m:EM AV} {args:List AV} {f:Value} (h:SndH g m args f) {c₀:Cc} {vs:List Value} (hv:VRels c₀ args vs):SndC g c₀ m (.call f ⟨vs,[]⟩) VRel:=fun rd as c fr outs lm A s Q E C x I o kk P =>
  h rd as vs c _ A s Q E C (hv.mono x) I.hp I.room o (fun r as' c' s' P l x' H'=>kk r as' c' lm s' P x' (I.next x' l H')) P
theorem Hp.deeper {g:Gd} {hnd:Option Nat} {dep:Nat} {c:Cc} {σ:List AObj} {fs:List Out} {A:Around} {s:Shared} {h₁:Heap} {tk:Nat} (H:Hp g hnd dep c σ fs A s) {f:Frm} {m:Str→Option Value} (hL:f.L=s.heap.objs.size) (hk:f.sc.kind=.function) (k:∀ b o,s.heap.get? b=some o→h₁.get? b=some o) (hn:h₁.Ns s.heap.objs.size m) :
    Hp g hnd (dep+1) c σ (⟨f.env,m⟩::fs) (A.deeper f.env) {s with heap:=h₁,toks:=tk} :=
  ⟨(show St g.hb c σ ((f.L,m)::fs.map fun o=>(o.env.locals,o.m)) h₁ from hL▸H.st.enter k hn),H.base,H.w,(congrArg (Option.map (f.env::·)) H.frames:_),H.guards,fun q hq=>(List.mem_cons.mp hq).elim (fun z=>z▸⟨rfl,hk⟩) (H.fok q),Nat.succ_le_succ H.depth,
    Nat.le_trans (Nat.add_le_add_right H.units 3) (Nat.add_le_add_left (Nat.add_le_add_left (by decide) (16 * dep)) 4:4+(16 * dep+3)≤4+(16 * dep+16)),H.hnd,H.gens,H.os,H.low⟩
theorem Hp.undeep {g:Gd} {hnd:Option Nat} {dep d2:Nat} {c c':Cc} {σ σ':List AObj} {fs:List Out} {A A':Around} {s s':Shared} {o:Out} (H:Hp g hnd dep c σ fs A s) (J:Hp g hnd d2 c' σ' (o::fs) A' s') (hh:A'.handled=A.handled):Hp g hnd dep c' σ' fs A s' :=
  ⟨J.st.leave,J.base,J.w,H.frames,H.guards,H.fok,H.depth,H.units,hh▸J.hnd,J.gens,J.os,J.low⟩
theorem PRels.at {c:Cc} {bs:List (Str × AV)} {bs':List (Str × Value)} (h:PRels c bs bs') {y:Str} {v:AV} (e:T.lk bs y=some v):∃ v',bs'.lookup y=some v'∧VRel c v v':=by
  have q:=h.lk y
  rw [e,lk_eq] at q
  exact q
theorem callFn_okH {g:Gd} {fe:FnE} (ok:FnOk g fe) {run:EM AFlow} (h:SS g run fe.body) {as:List AV}:SndH g (callFn fe run as) as (.ref fe.addr):=by
  obtain ⟨oc,od,osl,name,ps,kd,de,dV,kV,doc,pm,an,cdv,ct,ho,hcd,hco,hgen,hk,hcell,hloc,hps,ds,hds,hdd⟩:=ok
  intro rd st vs c fs A s Q E C hv H room o kk P
  obtain ⟨hroom,bs,hb,P⟩:=P.callFn
  obtain ⟨bs',hb',hbs⟩:=PRels.bind hv (hds c) hb
  have X:=H.K
  have hroom:rd.off+1≤90:=Nat.le_of_ble_eq_true hroom
  refine codeAny_call_def (fd:=fnOf name fe.qual ⟨[],ps,none,[],kd,none,de⟩ fe.body fe.sc dV kV doc pm an cdv ct) (body:=fe.body) (binds:=bs') (show A.depth < 1000 from Nat.lt_of_le_of_lt H.depth (by omega)) (X _ _ ho) rfl H.T.nolimit (codeRec_of X hcd) rfl
    (bind_plain (as:=ps) (kd:=kd) (de:=de) rfl (ds:=ds) (hdd.imp id fun ⟨T,oT,n,e1,e2,e3⟩=>⟨T,oT,n,e1,X _ _ e2,e3⟩) (by rw [hps];exact hb')) hcell (fun y hy=>hloc _ (bind_keys hb' y hy)) (fun h₁ hns hk₁=>?_) hco hgen hk
  let f:Frm:=⟨s.heap.objs.size,fe.addr,cdv,fe.qual,fe.sc⟩
  have H1:=H.deeper (f:=f) (tk:=s.toks+bs'.length) rfl hk hk₁ hns
  refine (h c).run (rd:=⟨fe.sc,rd.hnd,rd.dep+1,rd.off+1⟩) (as:={st with ls:=bs.reverse}) (f:=f) (C:=callC st.ls C) (.refl c) ⟨H1,fun y v hy=>hbs.rev.at hy,rfl,Nat.succ_le_succ room⟩ (fun r as'=>match r with
    | .ok a=>fun P=>o (.ok (flowV a)) {as' with ls:=st.ls} P
    | .exc _=>fun P=>by cases P with | mk D d t _ P=>exact o (.exc _) {as' with ls:=st.ls,σ:=as'.σ.set _ (.exc D d true)} P) (fun r as' c' lm' s'=>match r with
    | .ok a=>fun P x' I' b hb=>kk (.ok (flowV a)) {as' with ls:=st.ls} c' s' P rfl x' (H.undeep I'.hp rfl) _ (by cases hb with
      | next=>exact .none
      | ret hv=>exact hv)
    | .exc i=>fun P x' I' ev hev _=>by
      cases P with | mk D d t hi P =>
      exact leaving_ok I'.hp hev hi fun c2 s2 x2 H2=>kk (.exc i) {as' with ls:=st.ls,σ:=as'.σ.set i (.exc D d true)} c2 s2 P rfl (x'.trans x2) (H.undeep H2 rfl) ev (x2.r _ _ hev) ⟨D,d,true,set_self' hi⟩) P
inductive WkR {α:Type} (W:α→α→Prop) (σ σ':List AObj):Res α→Res α→Prop
  | ok {a b}:W a b→WkR W σ σ' (.ok a) (.ok b)
  | exc {i}:σ'[i]?=σ[i]?→WkR W σ σ' (.exc i) (.exc i)
inductive WkF:AFlow→AFlow→Prop
  | next:WkF .next .next
  | ret {a b}:Weak a b→WkF (.ret a) (.ret b)
theorem WkF.refl:∀ f,WkF f f
  | .next=>.next
  | .ret a=>.ret (.refl a)
theorem WkF.rel {c:Cc} {a b:AFlow} {f:Flow} (h:WkF a b) (r:FlowR c a f):FlowR c b f:=by
  cases h with
  | next=>exact r
  | ret w=>cases r with | ret r=>exact .ret (w _ _ r)
noncomputable def Runs {α:Type} (W:α→α→Prop) (m:EM α) (rd:Rd) (ls:List (Str × AV)) (σ:List AObj) (r:Res α) (ls':List (Str × AV)) (σ':List AObj):Prop :=
  ∃ orc ps r0 ls0 σ0,m.run rd ⟨ls,σ,orc,[]⟩=some (r0,⟨ls0,σ0,[],ps⟩)∧AllP ps∧WkR W σ0 σ' r0 r∧WkLs ls0 ls'∧WkS σ0 σ'
theorem Runs.of {α:Type} {W:α→α→Prop} {m:EM α} {rd:Rd} {ls ls':List (Str × AV)} {σ σ':List AObj} {r:Res α} (hW:∀ a,W a a) {orc:List Orc} {ps:List Prop} (e:m.run rd ⟨ls,σ,orc,[]⟩=some (r,⟨ls',σ',[],ps⟩)) (h:AllP ps):Runs W m rd ls σ r ls' σ' :=
  ⟨orc,ps,r,ls',σ',e,h,match r with
    | .ok a=>.ok (hW a)
    | .exc i=>.exc rfl,.refl _,.refl _⟩
noncomputable def boxOut (k n:Nat) (σr:List AObj) (r:Res AV) (σ1:List AObj):Option (Res AV × List AObj):=gdO (Nat.ble k σ1.length) (match r with
  | .ok v=>obn (mapO (cvO true (posX k n []) σ1 12) (take' k σ1)) fun σb=>obn (cv true (posX k n []) σ1 12 v) fun v'=>some (.ok v',σb++(σr++[]))
  | .exc i=>exnO σ1[i]? fun _ d _=>obn d fun j=>gdO (Nat.ble k i) (gdO (Nat.ble k j) (gdO (!Nat.beq i j) (obn (mapO (cvO true (posX k n [i,j]) σ1 12) (take' k σ1)) fun σb=>obn (mapO (objAt (cvO true (posX k n [i,j]) σ1 12) σ1) [i,j]) fun σk=>some (.exc n,σb++(σr++σk))))))
theorem WkS.app {a b x y:List AObj} (h:WkS a b) (k:WkS x y):WkS (a++x) (b++y):=by
  induction h with
  | nil=>exact k
  | cons h1 h2 ih=>exact .cons h1 ih
theorem take_drop' {α:Type} (k:Nat) (l:List α):take' k l++drop' k l=l:=by rw [take'_eq,drop'_eq,List.take_append_drop]
noncomputable def cutO {γ:Type} (o:List Orc) (f:Nat→List AV→List AObj→Res AV→List AObj→List Orc→Option γ):Option γ:=match o with
  | []=>none
  | x::t=>match x with
    | .cut k as σ r σ'=>f k as σ r σ' t
    | _=>none
theorem Ok.cutO {γ:Type} {C:γ→Prop} {G:Prop} {f:Nat→List AV→List AObj→Res AV→List AObj→List Orc→Option γ}:∀ {o:List Orc},Ok C (T.cutO o f)→(∀ k as σ r σ' t,Ok C (f k as σ r σ' t)→G)→G
  | .cut k as σ r σ'::t,P,h=>h k as σ r σ' t P
noncomputable def cutP (H:List AV→EM AV) (as:List AV) (rd:Rd) (s:AS) (k:Nat) (as0:List AV) (σw:List AObj) (r:Res AV) (σ1:List AObj) (as1:List AV) (σf:List AObj):List Prop:=(rd.dep≤500)::WkL as as0::WkS (take' k s.σ) σw::Runs Weak (H as1) ⟨rd.sc,none,rd.dep,0⟩ [] σf r [] σ1::s.obl
noncomputable def cutR (H:List AV→EM AV) (as:List AV) (rd:Rd) (s:AS):Option (Res AV × AS):=noHnd rd.hnd (cutO s.orc fun k as0 σw r σ1 rest=>gdO (Nat.beq σw.length k) (obn (mapO (cv false (posB k) σw 12) as0) fun as1=>obn (mapO (cvO false (posB k) σw 12) σw) fun σf=>obn (boxOut k s.σ.length (drop' k s.σ) r σ1) fun p =>
  some (p.1,⟨s.ls,p.2,rest,cutP H as rd s k as0 σw r σ1 as1 σf⟩)))
noncomputable def cutV (H:List AV→EM AV) (as:List AV):EM AV:=⟨cutR H as,fun rd s r s' e=>Ok.noHnd (e▸rfl:Ok (·=(r,s')) (cutR H as rd s)) fun _ P=>P.cutO fun _ _ _ _ _ _ P=>P.gdO fun _ P=>P.obn fun _ _ P=>P.obn fun _ _ P=>P.obn fun _ _ P o=>(obl_of P o).2.2.2.2⟩
theorem kept_some {f:AObj→Option AObj} {σ:List AObj} {r:List Addr} (hl:r.length=σ.length) {L:List Nat}:∀ {σk:List AObj},mapO (objAt f σ) L=some σk→∃ kr,mapO (fun i=>r[i]?) L=some kr:=by
  induction L with
  | nil=>exact fun _=>⟨[],rfl⟩
  | cons i L ih=>exact fun e=>let ⟨_,e1,e⟩:=obn_some e;let ⟨_,e2,_⟩:=map_some e;let ⟨_,e3,_⟩:=obn_some e1;let ⟨kr,hk⟩:=ih e2;⟨r[i]'(hl▸at_lt e3)::kr,(congrArg (fun z=>obn z fun b=>Option.map (b::·) (mapO (fun i=>r[i]?) L)) (List.getElem?_eq_getElem (hl▸at_lt e3))).trans (congrArg (Option.map _) hk)⟩
section
variable {g:Gd} {dep:Nat} {c:Cc} {fs:List Out} {A:Around}
theorem cut_back {c1:Cc} {σw τ σ1:List AObj} {s s1:Shared} (H:Hp g none dep c (σw++τ) fs A s) (x1:Ext (c.focus σw.length s.heap) c1) (H1:Hp g none dep c1 σ1 fs A s1) (hk1:σw.length≤σ1.length) {L:List Nat} {σb σk:List AObj} (hLk:∀ i∈L,σw.length≤i) (hLn:L.Nodup)
    (eb:mapO (cvO true (posX σw.length (σw++τ).length L) σ1 12) (take' σw.length σ1)=some σb) (ek:mapO (objAt (cvO true (posX σw.length (σw++τ).length L) σ1 12) σ1) L=some σk) :
    ∃ c',Ext c c'∧Hp g none dep c' (σb++(τ++σk)) fs A s1∧Mv g.hb true (posX σw.length (σw++τ).length L) c1 c' σ1 s1.heap:=by
  obtain ⟨kr,hL⟩:=kept_some H1.st.len ek
  have htl:(c1.r.take σw.length).length=σw.length:=List.length_take_of_le (H1.st.len▸hk1)
  have hfr:∀ a∈c.r.drop σw.length,∃ o,s.heap.get? a=some o∧c1.F a=some o:=fun a m =>
    let ⟨i,hi⟩:=List.mem_iff_getElem?.mp (List.mem_of_mem_drop m)
    let ⟨o,p,_⟩:=H.st.mem i a hi
    ⟨o,p,(congrFun x1.F a).trans ((if_pos m).trans p)⟩
  have xe:Mv g.hb true (posX σw.length (σw++τ).length L) c1 (c1.splice σw.length (c.r.drop σw.length) kr c.F s1.heap) σ1 s1.heap→Ext c (c1.splice σw.length (c.r.drop σw.length) kr c.F s1.heap):=fun m =>
    ⟨fun a o q=>m.G _ _ (x1.G _ _ q),fun i a q=>(Nat.lt_or_ge i σw.length).elim (fun z=>app_l (at_take z (x1.r i a (at_take z q)))) fun z=>by
      have:=app_r (a:=c1.r.take σw.length) (app_l (b:=kr) (at_drop z q))
      rwa [htl,Nat.add_sub_cancel' z] at this,x1.tb,x1.w,rfl⟩
  have lr:c.r.length=σw.length+τ.length:=H.st.len.trans List.length_append
  have lt:(σw++τ).length=σw.length+(c.r.drop σw.length).length:=by rw [List.length_append,List.length_drop,lr,Nat.add_sub_cancel_left]
  obtain ⟨q1,q2⟩:=H1.splice (rb:=c.r.drop σw.length) (σr:=τ) (F2:=c.F) hk1 (fun a o q=>(congrFun x1.F a).trans ((if_neg fun z=>no_some ((H.own (List.mem_of_mem_drop z)).2.symm.trans q)).trans q))
    (fun a m=>let ⟨o,_,q⟩:=hfr a m;⟨⟨o,q⟩,(H.own (List.mem_of_mem_drop m)).2,H.low a (List.mem_of_mem_drop m)⟩) (H.nd3.sublist (List.drop_sublist ..)) hL hLk hLn lt eb ek
    fun m=>have al:=H.st.al.drop σw.length;⟨al.1.trans (congrArg List.length (List.drop_left)),fun i a b e1 e2=>let ⟨o,p1,p2⟩:=al.2 i a b e1 (List.drop_left.symm▸e2);let ⟨o',p3,p4⟩:=hfr a (List.mem_of_getElem? e1);⟨o,H1.st.keep _ _ (.inr (Option.some.inj (p3.symm.trans p1)▸p4)),p2.mono (xe m)⟩⟩
  exact ⟨_,xe q2,q1,q2⟩
theorem focus_mv' {σw τ:List AObj} {s:Shared} (H:Hp g none dep c (σw++τ) fs A s):Mv g.hb false (posB σw.length) c (c.focus σw.length s.heap) σw s.heap :=
  have m:=focus_mv H σw.length
  ⟨m.P1,m.G,m.P3,m.tb,m.w,fun i a e=>let ⟨o,p,q⟩:=m.mem i a e;⟨o,p,fun b hb=>q b (app_l hb)⟩,m.low⟩
theorem cvO_false {pos:Nat→Option Nat} {σ σ2:List AObj} (n:Nat):cv false pos σ n=cv false pos σ2 n:=by
  induction n with
  | zero=>rfl
  | succ n ih=>exact congrArg (cvS false pos σ) ih
theorem Hp.focus' {σw τ σf:List AObj} {s:Shared} (H:Hp g none dep c (σw++τ) fs A s) (e:mapO (cvO false (posB σw.length) σw 12) σw=some σf):Hp g none dep (c.focus σw.length s.heap) σf fs A s:=by
  refine H.focus σw.length ?_
  rw [take'_eq,List.take_left]
  exact (congrArg (fun z=>mapO z σw) (funext fun b=>by unfold cvO;rw [cvO_false 12])).trans e
theorem cut_ok {H:List AV→EM AV} {f:Value} (hH:∀ as,SndH g (H as) as f) {as as0 as1:List AV} {vs:List Value} {sc:Scope} {σw τ σf σ1 σ':List AObj} {r0 r':Res AV} {s:Shared} {Q:Value→Shared→Prop} {E:Value→Shared→Prop} (hv:VRels c as vs) (Hx:Hp g none dep c (σw++τ) fs A s)
    (e1:mapO (cv false (posB σw.length) σw 12) as0=some as1) (e2:mapO (cvO false (posB σw.length) σw 12) σw=some σf) (hd:dep≤500) (hw:WkL as as0) (R:Runs Weak (H as1) ⟨sc,none,dep,0⟩ [] σf r0 [] σ1)
    (kk:∀ c' s',Ext c c'→Hp g none dep c' σ' fs A s'→After VRel c' σ' r' Q E s') (P:Ok (·=(r',σ')) (boxOut σw.length (σw++τ).length τ r0 σ1)):codeAny (model g.prog g.w) A (.call f ⟨vs,[]⟩) (retK Q E) s:=by
  obtain ⟨orc,ps,rr0,ls0,σ10,hrun,hps,hwr,-,hwk⟩:=R
  refine hH as1 ⟨sc,none,dep,0⟩ ⟨[],σf,orc,[]⟩ vs _ fs A s Q E (fun r as=>(r,as)=(rr0,⟨ls0,σ10,[],ps⟩)) (mapO_rel (cv_ok (focus_mv' Hx) 12) e1 (hw.rel hv)) (Hx.focus' e2) hd (fun r as e=>(Prod.mk.inj e).2▸hps) (fun r as' c1 s1 e _ x1 H10=>?_) (hrun▸rfl)
  cases e
  have H1:=H10.weak hwk
  refine P.gdO fun hk P=>?_
  have hk:=Nat.le_of_ble_eq_true hk
  cases hwr with
  | ok hw =>
    refine Ok.obn P fun σb g1 P=>P.obn fun v' g2 P=>?_
    obtain ⟨c',x,J,m⟩:=cut_back Hx x1 H1 hk (L:=[]) (σk:=[]) (fun i m=>nomatch m) .nil g1 rfl
    cases (P:_=_)
    exact fun b hb=>kk c' s1 x J b (cv_ok m 12 _ _ _ g2 (hw _ _ hb))
  | @exc i hw =>
    refine Ok.exnO P fun D d t g0 P=>P.obn fun j g1 P=>P.gdO fun g2 P=>P.gdO fun g3 P=>P.gdO fun g4 P=>P.obn fun σb g5 P=>P.obn fun σk g6 P=>?_
    have hij:i ≠ j:=fun z=>by rw [z,Nat.beq_refl] at g4;exact no_tf g4
    obtain ⟨c',x,J,m⟩:=cut_back Hx x1 H1 hk (L:=[i,j]) (fun y m=>(List.mem_cons.mp m).elim (fun z=>z▸Nat.le_of_ble_eq_true g2) fun m=>List.mem_singleton.mp m▸Nat.le_of_ble_eq_true g3) (List.nodup_cons.mpr ⟨fun z=>hij (List.mem_singleton.mp z),List.pairwise_singleton ..⟩) g5 g6
    have bf:Nat.blt i σw.length=false:=Bool.eq_false_iff.mpr fun z=>absurd (Nat.le_of_ble_eq_true z) (Nat.not_lt.mpr (Nat.le_of_ble_eq_true g2))
    have hn:posX σw.length (σw++τ).length [i,j] i=some (σw++τ).length:=by
      delta posX
      rw [bf]
      show cond (Nat.beq i i) _ _=_
      rw [Nat.beq_refl];rfl
    obtain ⟨b1,h1,g6⟩:=obn_some g6
    obtain ⟨σ2,h2,g6⟩:=map_some g6
    have h1:obn σ1[i]? (cvO true (posX σw.length (σw++τ).length [i,j]) σ1 12)=some b1:=h1
    rw [g0,g1] at h1
    have h1:obn (posX σw.length (σw++τ).length [i,j] j) (fun p=>some (.exc D (some p) t))=some b1:=h1
    obtain ⟨p,_,h1⟩:=obn_some h1
    cases (P:_=_)
    refine fun ev hev _=>kk c' s1 x J ev (m.P1 _ _ _ hn hev) ⟨D,some p,t,?_⟩
    have lb:σb.length=σw.length:=(mapO_al g5).1.symm.trans (by rw [take'_eq];exact List.length_take_of_le hk)
    have q:=app_r (a:=σb) (app_r (a:=τ) (i:=0) (b:=σk) (x:=b1) (by rw [← g6];rfl))
    rw [lb,Nat.add_zero,← List.length_append] at q
    rw [q,← Option.some.inj h1]
theorem cutV_ok {H:List AV→EM AV} {f:Value} (hH:∀ as,SndH g (H as) as f) {c₀:Cc} {as:List AV} {vs:List Value} (hv:VRels c₀ as vs):SndC g c₀ (cutV H as) (.call f ⟨vs,[]⟩) VRel :=
  fun rd st c fr outs lm A s Q E C x I o kk P=>Ok.noHnd (x:=T.cutO st.orc _) P fun hh P=>P.cutO fun k as0 σw r0 σ1 rest P=>P.gdO fun e0 P=>P.obn fun as1 e1 P=>P.obn fun σf e2 P=>P.obn fun p e3 P=>by
    cases Nat.eq_of_beq_eq_true e0
    obtain ⟨hdep,hwl,hws,R,_⟩:=o _ _ P
    have hws:=hws.app (WkS.refl (drop' σw.length st.σ))
    rw [take_drop'] at hws
    have HI:=I.hp
    rw [hh] at HI
    exact cut_ok hH (hv.mono x) (HI.weak hws) e1 e2 hdep hwl R (fun c' s' x' H'=>kk _ _ c' lm s' P x' (I.next x' rfl (hh▸H'))) (hws.al.1▸e3▸rfl)
end
end T
namespace T
noncomputable def nodupN:List Nat→Bool
  | []=>true
  | a::r=>cond (memN r a) false (nodupN r)
theorem memN_of {l:List Nat} {a:Nat} (h:a∈l):memN l a=true:=memP_iff.mpr ⟨a,h,Nat.beq_refl a⟩
theorem nodupN_ok {l:List Nat}:nodupN l=true→l.Nodup:=by
  induction l with
  | nil=>exact fun _=>.nil
  | cons a r ih=>exact fun h=>cond_el h (fun _ z=>no_tf z) fun e z=>List.nodup_cons.mpr ⟨fun m=>no_tf (e.symm.trans (memN_of m)),ih z⟩
noncomputable def nsO {γ:Type} (o:List Orc) (f:List Nat→List Orc→Option γ):Option γ:=match o with
  | []=>none
  | x::t=>match x with
    | .ns I=>f I t
    | _=>none
theorem Ok.nsO {γ:Type} {C:γ→Prop} {G:Prop} {f:List Nat→List Orc→Option γ}:∀ {o:List Orc},Ok C (T.nsO o f)→(∀ I t,Ok C (f I t)→G)→G
  | .ns I::t,P,h=>h I t P
noncomputable def compC (n0:Nat) (ls:List (Str × AV)) (σ:List AObj) (I:List Nat):Option (List (Str × AV) × List AObj):=gdO (Nat.ble n0 σ.length) (gdO (allF (Nat.ble n0) I) (gdO (nodupN I) (obn (mapO (cvO true (posX n0 n0 I) σ 12) (take' n0 σ)) fun σb=>obn (mapO (objAt (cvO true (posX n0 n0 I) σ 12) σ) I) fun σk=>obn (mapS (cv true (posX n0 n0 I) σ 12) ls) fun ls' =>
  some (ls',σb++([]++σk)))))
noncomputable def compR (n0:Nat) (rd:Rd) (s:AS):Option (Res Unit × AS):=noHnd rd.hnd (nsO s.orc fun I rest=>obn (compC n0 s.ls s.σ I) fun q=>some (.ok (),⟨q.1,q.2,rest,s.obl⟩))
noncomputable def compactE (n0:Nat):EM Unit:=⟨compR n0,fun rd s r s' e=>Ok.noHnd (e▸rfl:Ok (·=(r,s')) (compR n0 rd s)) fun _ P=>P.nsO fun _ _ P=>P.obn fun _ _ P o=>obl_of P o⟩
section
variable {g:Gd}
theorem comp_at {n0:Nat} {rd:Rd} {as:AS} {G:Prop} {L:List Nat} {cb c:Cc} {f:Frm} {outs:List Out} {lm:Str→Option Value} {A:Around} {s:Shared} {q:List (Str × AV) × List AObj} (hh:rd.hnd=none) (P:compC n0 as.ls as.σ L=some q) (I:Inv g rd c f outs lm as A s) (x:Ext cb c) (hn:cb.r.length=n0)
    {orc':List Orc} {obl':List Prop} (k:∀ c',Inv g rd c' f outs lm ⟨q.1,q.2,orc',obl'⟩ A s→Ext cb c'→G):G :=
  Ok.gdO (P▸rfl:Ok (·=q) (compC n0 as.ls as.σ L)) fun e0 P=>P.gdO fun e1 P=>P.gdO fun e2 P=>P.obn fun σb e3 P=>P.obn fun σk e4 P=>P.obn fun ls' e5 P=>by
    have H:=I.hp
    rw [hh] at H
    obtain ⟨kr,hkr⟩:=kept_some H.st.len e4
    obtain ⟨q1,q2⟩:=H.splice (rb:=[]) (σr:=[]) (F2:=c.F) (Nat.le_of_ble_eq_true e0) (fun _ _ h=>h) (fun a m=>nomatch m) .nil hkr (fun i m=>Nat.le_of_ble_eq_true (allF_iff.mp e1 i m)) (nodupN_ok e2) rfl e3 e4 fun _=>.nil
    cases (P:_=q)
    refine k _ ⟨hh▸q1,fun y v hy=>let ⟨u,z1,z2⟩:=mapS_at e5 hy;let ⟨v',p,z⟩:=I.ls y u z1;⟨v',p,cv_ok q2 12 _ _ _ z2 z⟩,I.sc,I.room⟩ ⟨fun a o q=>q2.G _ _ (x.G _ _ q),fun i a q=>q2.P1 i i a ?_ (x.r _ _ q),x.tb,x.w,x.F⟩
    show cond (Nat.blt i n0) (some i) _=_
    rw [show Nat.blt i n0=true from Nat.ble_eq_true_of_le (hn▸at_lt q)];rfl
theorem compact_ok {n0:Nat} {rd:Rd} {as:AS} {C:Res Unit→AS→Prop} {G:Prop} {cb c:Cc} {f:Frm} {outs:List Out} {lm:Str→Option Value} {A:Around} {s:Shared} (P:EOk C ((compactE n0).run rd as)) (I:Inv g rd c f outs lm as A s) (x:Ext cb c) (hn:cb.r.length=n0)
    (k:∀ as' c',C (.ok ()) as'→Inv g rd c' f outs lm as' A s→Ext cb c'→G):G :=
  Ok.noHnd (x:=T.nsO as.orc _) P fun hh P=>P.nsO fun L rest P=>P.obn fun q e P=>comp_at hh e I x hn fun c' I' x'=>k _ c' P I' x'
theorem comp_run {n0:Nat} {rd:Rd} {ls:List (Str × AV)} {σ:List AObj} {K:List Nat} {q:List (Str × AV) × List AObj} (hh:rd.hnd=none) (e:compC n0 ls σ K=some q) (orc:List Orc) (obl:List Prop):(compactE n0).run rd ⟨ls,σ,.ns K::orc,obl⟩=some (.ok (),⟨q.1,q.2,orc,obl⟩):=by
  show noHnd rd.hnd (obn (compC n0 ls σ K) _)=_
  rw [hh,e];rfl
noncomputable def whileG (n0:Nat) (mt:EM Bool) (mb mo:EM AFlow):Nat→EM AFlow
  | 0=>flt
  | n+1=>bnd mt fun b=>pk b (bnd mb (loopK (bnd (compactE n0) fun _=>whileG n0 mt mb mo n))) mo
noncomputable def whileC (mt:EM Bool) (mb mo:EM AFlow) (n:Nat):EM AFlow:=⟨fun rd s=>(noteE (whileG s.σ.length mt mb mo n)).run rd s,fun rd as r as' e=>(noteE (whileG as.σ.length mt mb mo n)).mono rd as r as' e⟩
theorem S_whileC {t:Expr} {b o:List Stmt} {pos:Pos} {mt:EM Bool} {mb mo:EM AFlow} (ht:SB g mt t) (hb:SS g mb b) (ho:SS g mo o) (n:Nat):SS1 g (whileC mt mb mo n) (.While t b o pos):=by
  refine fun c₀=>.q fun rd as c f outs lm A s Q E C x I ob kk P=>?_
  have kk:Cont g rd c f outs A FlowR Q E C:=kk
  have P:EOk C ((noteE (whileG as.σ.length mt mb mo n)).run rd as):=P
  refine wpAny_While (codeAny_whileLoop (LoopI g rd c f outs A fun k st=>EOk (noteC C) ((whileG as.σ.length mt mb mo k).run rd st)) (fun k s hI=>?_) n ⟨c,lm,as,P.note,.refl c,I⟩)
  cases hI with | mk c1 lm1 as1 P x1 I1 =>
  cases k with
  | zero=>exact P.elim
  | succ k =>
    refine (ht c1 _ (fun _=>rfl)).stepN kk ob (.refl c1) x1 I1 P fun q as2 c2 lm2 s2 q' P x2 I2 hq=>?_
    have hq:q=q':=hq
    rw [← hq]
    cases q with
    | false=>exact (ho c2).runN kk ob (.refl c2) (x1.trans x2) I2 P
    | true =>
      refine (hb c2).stepN kk ob (.refl c2) (x1.trans x2) I2 P fun fl as3 c3 lm3 s3 fl' P x3 I3 hfl=>?_
      cases hfl with
      | next=>exact compact_ok (EOk.bnd P) I3 ((x1.trans x2).trans x3) I.hp.st.len fun as4 c4 P I4 x4=>⟨k,Nat.lt_succ_self k,c4,lm3,as4,P,x4,I4⟩
      | ret hv=>exact kk _ _ c3 lm3 s3 P ((x1.trans x2).trans x3) I3 _ (.ret hv)
noncomputable def stmO {γ:Type} (o:List Orc) (f:List (Str × AV)→List AObj→Res AFlow→List (Str × AV)→List AObj→List Orc→Option γ):Option γ:=match o with
  | []=>none
  | x::t=>match x with
    | .stm ls σ r ls' σ'=>f ls σ r ls' σ' t
    | _=>none
theorem Ok.stmO {γ:Type} {C:γ→Prop} {G:Prop} {f:List (Str × AV)→List AObj→Res AFlow→List (Str × AV)→List AObj→List Orc→Option γ}:∀ {o:List Orc},Ok C (T.stmO o f)→(∀ ls σ r ls' σ' t,Ok C (f ls σ r ls' σ' t)→G)→G
  | .stm ls σ r ls' σ'::t,P,h=>h ls σ r ls' σ' t P
noncomputable def stmR (m:EM AFlow) (rd:Rd) (s:AS):Option (Res AFlow × AS):=stmO s.orc fun ls0 σ0 r ls1 σ1 rest=>some (r,⟨ls1,σ1,rest,(rd.dep≤500)::WkLs s.ls ls0::WkS s.σ σ0::Runs WkF m ⟨rd.sc,rd.hnd,rd.dep,0⟩ ls0 σ0 r ls1 σ1::s.obl⟩)
noncomputable def cutS (m:EM AFlow):EM AFlow:=⟨stmR m,fun rd s r s' e=>Ok.stmO (e▸rfl:Ok (·=(r,s')) (stmR m rd s)) fun _ _ _ _ _ _ P o=>(obl_of P o).2.2.2.2⟩
theorem Inv.weak {rd rd':Rd} {c:Cc} {f:Frm} {outs:List Out} {lm:Str→Option Value} {as as':AS} {A:Around} {s:Shared} (I:Inv g rd c f outs lm as A s) (w:WkS as.σ as'.σ) (l:WkLs as.ls as'.ls) (h1:rd'.hnd=rd.hnd) (h2:rd'.dep=rd.dep) (h3:rd'.sc=rd.sc) (h4:rd'.dep≤500+rd'.off):Inv g rd' c f outs lm as' A s :=
  ⟨h1▸h2▸I.hp.weak w,fun y v hy=>let ⟨u,z1,z2⟩:=l y v hy;let ⟨v',p,z⟩:=I.ls y u z1;⟨v',p,z2 _ _ z⟩,I.sc.trans h3.symm,h4⟩
theorem cutS_ok {m:EM AFlow} {t:Env→Sem Flow} (h:∀ c,Snd g c m t FlowR):∀ c,Snd g c (cutS m) t FlowR:=fun c₀=>.q fun rd as c f outs lm A s Q E C x I ob kk P=>Ok.stmO (o:=as.orc) P fun ls0 σ0 r0 ls1 σ1 rest P=>by
  obtain ⟨hdep,hwl,hws,⟨orc,ps,rr0,lsx,σx,hrun,hps,hwr,hwls,hwk⟩,_⟩:=ob _ _ P
  refine h c₀ _ _ _ _ hrun c f outs lm A s Q E x (I.weak hws hwl rfl rfl rfl hdep) hps fun c' lm' s' x' I'=>?_
  have q:=kk _ _ c' lm' s' P x' (I'.weak hwk hwls rfl rfl rfl I.room)
  cases hwr with
  | ok hw=>exact fun b hb=>q b (hw.rel hb)
  | exc hw=>exact fun ev hev ⟨D,d,tr,hx⟩=>q ev hev ⟨D,d,tr,hw.trans hx⟩
theorem S_cut {m:EM AFlow} {t:Stmt} (h:SS1 g m t):SS1 g (cutS m) t:=cutS_ok h
theorem S_cutL {m:EM AFlow} {t:List Stmt} (h:SS g m t):SS g (cutS m) t:=cutS_ok h
end
end T
namespace T
structure Tabs where
  gl:List (Str × AV)
  fns:List FnE
  attrs:List (Addr × Str)
  excs:List (Addr × Addr × Str)
  me:MeT
  isi:IsT
  keep:List Addr
  cls:List (Addr × Addr)
  exs:List (Addr × Addr)
  cuts:List Addr
  cutL:List Nat
structure TabsOk (g:Gd) (t:Tabs):Prop where
  gl:∀ x a,lk t.gl x=some a→GlobOk g x a
  fns:∀ f∈t.fns,FnOk g f
  attrs:∀ p∈t.attrs,AttrOk g.K p.1 p.2
  excs:∀ p∈t.excs,ExcAttr g.K p.1 p.2.1 p.2.2
  me:MeTOk g.K t.me
  isi:IsTOk g.K t.isi
  keep:∀ a∈t.keep,keepIn g.K (.ref a)=true
  cls:∀ p∈t.cls,ClsOk g p.1 p.2
  exs:∀ p∈t.exs,ExcCls g.K p.1 p.2
  hb:HbOk g
structure Hooks where
  fn:Addr→List AV→EM AV
  st:Stmt→EM AFlow
structure HooksOk (g:Gd) (H:Hooks):Prop where
  fn:∀ a as,SndH g (H.fn a as) as (.ref a)
  st:∀ s,SS1 g (H.st s) s
structure Ev where
  ex:Expr→EM AV
  tr:Expr→EM Bool
  st:Stmt→EM AFlow
  asg:Expr→AV→EM Unit
  cl:AV→List AV→EM AV
structure EvOk (g:Gd) (r:Ev):Prop where
  ex:∀ e,SE g (r.ex e) e
  tr:∀ e,SB g (r.tr e) e
  st:∀ s,SS1 g (r.st s) s
  asg:∀ e,SA g (r.asg e) e
  cl:∀ c f as f' vs,VRel c f f'→VRels c as vs→Snd g c (r.cl f as) (fun _=>call f' vs []) VRel
noncomputable def grd {α:Type} (b:Bool) (m:EM α):EM α:=match b with
  | true=>m
  | false=>flt
noncomputable def withO {α β:Type} (o:Option α) (f:α→EM β):EM β:=match o with
  | some a=>f a
  | none=>flt
noncomputable def oneL {α:Type}:List α→Option α
  | [a]=>some a
  | _=>none
noncomputable def nilB {α:Type}:List α→Bool
  | []=>true
  | _=>false
section
variable {g:Gd} {c:Cc} {α β γ:Type} {t:Env→Sem γ} {R:Cc→α→γ→Prop}
theorem Snd.pk {x y:EM α} (h1:Snd g c x t R) (h2:Snd g c y t R):∀ b,Snd g c (T.pk b x y) t R
  | .true=>h1
  | .false=>h2
theorem Snd.grd {m:EM α}:∀ {b:Bool},(b=.true→Snd g c m t R)→Snd g c (T.grd b m) t R
  | .true,h=>h rfl
  | .false,_=>.flt
theorem Snd.withO {f:β→EM α}:∀ {o:Option β},(∀ a,o=some a→Snd g c (f a) t R)→Snd g c (T.withO o f) t R
  | some a,h=>h a rfl
  | none,_=>.flt
theorem LeafN.pk {t:Sem γ} {f h:Rd→List Orc→List AObj→Option (α × List AObj × List Prop × List Orc)} {b:Rd→List Orc→List AObj→Bool} (h1:LeafN g c f t R) (h2:LeafN g c h t R):LeafN g c (fun rd orc σ=>T.pk (b rd orc σ) (f rd orc σ) (h rd orc σ)) t R:=fun rd orc σ=>by
  cases hb:b rd orc σ with
  | true=>simp only [hb,T.pk];exact h1 rd orc σ
  | false=>simp only [hb,T.pk];exact h2 rd orc σ
theorem oneL_ok:∀ {l:List β} {a:β},oneL l=some a→l=[a]
  | [_],_,h=>congrArg (fun x=>[x]) (Option.some.inj h)
theorem nil_ok:∀ {l:List β},nilB l=true→l=[]
  | [],_=>rfl
theorem and_ok:∀ {a b:Bool},(a && b)=true→a=true∧b=true
  | true,true,_=>⟨rfl,rfl⟩
theorem not_ok:∀ {a:Bool},(!a)=true→a=false
  | false,_=>rfl
end
noncomputable def isMut:AV→Bool
  | .mut _=>true
  | _=>false
noncomputable def attrOf:Expr→Option (Expr × Str × Pos)
  | .Attribute o n p=>some (o,n,p)
  | _=>none
noncomputable def sliceOf:Expr→Option (Option Expr × Option Expr × Option Expr × Pos)
  | .Slice a b c p=>some (a,b,c,p)
  | _=>none
noncomputable def tupOf:Expr→Option (List Expr × Nat × Pos)
  | .Tuple es k p=>some (es,k,p)
  | _=>none
theorem attrOf_ok {e:Expr} {x:Expr × Str × Pos} (h:attrOf e=some x):e=.Attribute x.1 x.2.1 x.2.2:=by
  cases e with
  | Attribute=>exact Option.some.inj h▸rfl
  | _=>exact no_some h
theorem sliceOf_ok {e:Expr} {x:Option Expr × Option Expr × Option Expr × Pos} (h:sliceOf e=some x):e=.Slice x.1 x.2.1 x.2.2.1 x.2.2.2:=by
  cases e with
  | Slice=>exact Option.some.inj h▸rfl
  | _=>exact no_some h
theorem tupOf_ok {e:Expr} {x:List Expr × Nat × Pos} (h:tupOf e=some x):e=.Tuple x.1 x.2.1 x.2.2:=by
  cases e with
  | Tuple=>exact Option.some.inj h▸rfl
  | _=>exact no_some h
section
variable {g:Gd} {t:Tabs} {c:Cc}
noncomputable def getA (t:Tabs) (v:AV) (n:Str):EM AV:=pk (isMut v) (sop (opGetE t.excs v n)) (sop (opGet t.attrs v n))
theorem getA_ok (T:TabsOk g t) {v:AV} {v':Value} {n:Str} {ex:Bool} (h:VRel c v v'):Snd g c (getA t v n) (fun _=>getAttr v' n ex) VRel:=.pk (.leaf fun _=>leaf_getE T.excs h) (.leaf fun _=>leaf_get T.attrs h) _
noncomputable def setA (t:Tabs) (v:AV) (n:Str) (b:AV):EM Unit:=pk (isMut v) (sop (opSetE t.excs v n b)) (sop (opSet t.attrs v n b))
theorem setA_ok (T:TabsOk g t) {v b:AV} {v' b':Value} {n:Str} (h:VRel c v v') (hb:VRel c b b'):Snd g c (setA t v n b) (fun _=>setAttr v' n b') VU:=.pk (.leaf fun _=>leaf_setE T.excs h hb) (.leaf fun _=>leaf_set T.attrs h hb) _
noncomputable def isMult:Operator→Bool
  | .Mult=>true
  | _=>false
noncomputable def binA (op:Operator) (a b:AV):EM AV:=match isMult op with
  | true=>pk (isMut a) (sopN (opMul0 a b)) (sopN (opBin .Mult a b))
  | false=>sopN (opBin op a b)
theorem isMult_ok {op:Operator} (h:isMult op=true):op=.Mult:=by
  cases op with
  | Mult=>rfl
  | _=>exact no_tf h
theorem binA_ok {op:Operator} {a b:AV} {a' b':Value} (ha:VRel c a a') (hb:VRel c b b'):Snd g c (binA op a b) (fun _=>binaryOp op a' b') VRel:=by
  unfold binA
  cases h:isMult op with
  | true=>rw [isMult_ok h];exact .pk (.leafN fun _=>leaf_mul0 ha hb) (.leafN fun _=>leaf_bin ha hb) _
  | false=>exact .leafN fun _=>leaf_bin ha hb
noncomputable def cmpA (op:CmpOp) (a b:AV):EM AV:=match op with
  | .In=>pk (isMut b) (sopN (opIn false a b)) (sopN (opInF false a b))
  | .NotIn=>pk (isMut b) (sopN (opIn true a b)) (sopN (opInF true a b))
  | op=>sopN (opCmp op a b)
theorem cmpA_ok {op:CmpOp} {a b:AV} {a' b':Value} (ha:VRel c a a') (hb:VRel c b b'):Snd g c (cmpA op a b) (fun _=>compareOp op a' b') VRel:=by
  cases op<;>first
    | exact .leafN fun _=>leaf_cmp ha hb
    | exact .pk (.leafN fun _=>leaf_in (neg:=false) ha hb) (.leafN fun _=>leaf_inF (neg:=false) ha hb) _
    | exact .pk (.leafN fun _=>leaf_in (neg:=true) ha hb) (.leafN fun _=>leaf_inF (neg:=true) ha hb) _
noncomputable def isDictO (σ:List AObj):AV→Bool
  | .mut i=>match σ[i]? with
    | some (.list _ _)=>false
    | _=>true
  | _=>false
noncomputable def isFd:AV→Bool
  | .fd _=>true
  | _=>false
noncomputable def opSub (a b:AV):Rd→List Orc→List AObj→Option (AV × List AObj × List Prop × List Orc):=fun rd orc σ=>pk (isFd a) (opItemF a b rd orc σ) (pk (isDictO σ a) (opItemD a b rd orc σ) (opIdx a b rd orc σ))
theorem leaf_sub {a b:AV} {a' b':Value} (ha:VRel c a a') (hb:VRel c b b'):LeafN g c (opSub a b) (subT a' b') VRel:=.pk (leaf_itemF hb ha) (.pk (leaf_subD hb ha) (leaf_idx ha hb))
noncomputable def isBk:AObj→AV→Bool
  | .bd _,_=>true
  | .ed,.tup _=>true
  | _,_=>false
noncomputable def bkO (σ:List AObj) (a b:AV):Bool:=match a with
  | .mut i=>(match σ[i]? with
    | some o=>isBk o b
    | none=>false)
  | _=>false
noncomputable def opSetS (a b v:AV):Rd→List Orc→List AObj→Option (Unit × List AObj × List Prop × List Orc):=fun rd orc σ=>pk (bkO σ a b) (opSetB a b v rd orc σ) (pk (isDictO σ a) (opSetD a b v rd orc σ) (opSetI a b v rd orc σ))
theorem leaf_setS (hb:HbOk g) {a b v:AV} {a' b' v':Value} (h1:VRel c a a') (h2:VRel c b b') (h3:VRel c v v'):LeafN g c (opSetS a b v) (setItem a' b' v') (fun _ _ _=>True):=.pk (leaf_setB hb h1 h2 h3) (.pk (leaf_setD h2 h1 h3) (leaf_setI h1 h2 h3))
noncomputable def opSlc (a l u:AV):Rd→List Orc→List AObj→Option (AV × List AObj × List Prop × List Orc):=fun rd orc σ=>pk (strOf a).isSome (opSlcS a l u rd orc σ) (opSlcL a l u rd orc σ)
theorem leaf_slc {pos:Pos} {a l u:AV} {a' l' u':Value} (ha:VRel c a a') (hl:VRel c l l') (hu:VRel c u u'):LeafN g c (opSlc a l u) (slcT pos a' l' u') VRel:=.pk (leaf_slcS ha hl hu) (leaf_slcL ha hl hu)
noncomputable def isStrL:List AV→Bool
  | .str _::_=>true
  | _=>false
noncomputable def opLenA (as:List AV):Rd→List Orc→List AObj→Option (AV × List AObj × List Prop × List Orc):=fun rd orc σ=>pk (isStrL as) (opLenS as rd orc σ) (opLen as rd orc σ)
theorem leaf_lenA {as:List AV} {vs:List Value} (h:VRels c as vs):LeafN g c (opLenA as) (call (.builtin "len") vs []) VRel:=.pk (leaf_lenS h) (leaf_len h)
noncomputable def three:List AV→Option (AV × AV × AV)
  | [a,b,c]=>some (a,b,c)
  | _=>none
theorem three_ok:∀ {l:List AV} {x:AV × AV × AV},three l=some x→l=[x.1,x.2.1,x.2.2]
  | [_,_,_],_,h=>by cases h;rfl
noncomputable def callBI (t:Tabs) (b:BI) (as:List AV):EM AV:=match b with
  | .len=>sopN (opLenA as)
  | .isinstance=>sopN (opIsi t.isi as)
  | .max=>sopN (opMax as)
  | .sorted=>sopN (opSorted as)
  | .append=>sopN (opAppend as)
  | .pop=>sopN (opPop as)
  | .index=>sopN (opIndex as)
  | .dget=>sopN (opGetB as)
  | .dpop=>withO (three as) fun x=>sopN (opPopD x.1 x.2.1 x.2.2)
  | .join=>sopN (opJoin as)
  | .excInit=>sop (opExcInit t.excs as)
theorem callBI_ok (T:TabsOk g t) {b:BI} {as:List AV} {vs:List Value} (h:VRels c as vs):Snd g c (callBI t b as) (fun _=>call (.builtin b.id) vs []) VRel:=by
  cases b with
  | len=>exact .leafN fun _=>leaf_lenA h
  | isinstance=>exact .leafN fun _=>leaf_isi T.isi h
  | max=>exact .leafN fun _=>leaf_max h
  | sorted=>exact .leafN fun _=>leaf_sorted h
  | append=>exact .leafN fun _=>leaf_append h
  | pop=>exact .leafN fun _=>leaf_pop h
  | index=>exact .leafN fun _=>leaf_index h
  | dget=>exact .leafN fun _=>leaf_getB T.hb h
  | dpop =>
    refine .withO fun x e=>?_
    rw [three_ok e] at h
    exact h.consE (G:=fun vs=>Snd g c _ (fun _=>call (.builtin "dict.pop") vs []) VRel) fun _ _ h1 h=>h.consE (G:=fun vs=>Snd g c _ (fun _=>call (.builtin "dict.pop") (_::vs) []) VRel) fun _ _ h2 h=>h.consE (G:=fun vs=>Snd g c _ (fun _=>call (.builtin "dict.pop") (_::_::vs) []) VRel) fun _ _ _ h=>h.nilE (G:=fun vs=>Snd g c _ (fun _=>call (.builtin "dict.pop") (_::_::_::vs) []) VRel) (.leafN fun _=>leaf_popD h2 h1)
  | join=>exact .leafN fun _=>leaf_join h
  | excInit=>exact .leaf fun _=>leaf_excInit T.excs h
noncomputable def callTI (b:TI) (as:List AV):EM AV:=match b with
  | .str=>sopN (opStr as)
  | .range=>sopN (opRange as)
  | _=>flt
theorem callTI_ok {b:TI} {as:List AV} {vs:List Value} (h:VRels c as vs):Snd g c (callTI b as) (fun _=>call (.type b.id) vs []) VRel:=by
  cases b<;>first | exact .leafN fun _=>leaf_str h | exact .leafN fun _=>leaf_range h | exact .flt
noncomputable def lkF:List FnE→Addr→Option FnE
  | [],_=>none
  | f::r,a=>cond (Nat.beq f.addr a) (some f) (lkF r a)
theorem lkF_ok {a:Addr} {f:FnE} {l:List FnE}:lkF l a=some f→f∈l∧f.addr=a:=by
  induction l with
  | nil=>exact no_some
  | cons x r ih=>exact fun h=>cond_some h (fun e z=>z▸⟨.head _,Nat.eq_of_beq_eq_true e⟩) fun h=>⟨.tail _ (ih h).1,(ih h).2⟩
noncomputable def lkA:List (Addr × Addr)→Addr→Option Addr
  | [],_=>none
  | p::r,a=>cond (Nat.beq p.1 a) (some p.2) (lkA r a)
theorem lkA_ok {a f:Addr} {l:List (Addr × Addr)}:lkA l a=some f→(a,f)∈l:=by
  induction l with
  | nil=>exact no_some
  | cons x r ih=>exact fun h=>cond_some h (fun e z=>z▸Nat.eq_of_beq_eq_true e▸.head _) fun h=>.tail _ (ih h)
noncomputable def callT (t:Tabs) (r:Ev) (a:Addr) (as:List AV):EM AV:=withO (lkF t.fns a) fun fe=>callFn fe (stsE r.st fe.body) as
theorem callT_okH (T:TabsOk g t) {r:Ev} (R:EvOk g r) (a:Addr) (as:List AV):SndH g (callT t r a as) as (.ref a):=by
  delta callT
  cases e:lkF t.fns a with
  | some fe=>exact (lkF_ok e).2▸callFn_okH (T.fns _ (lkF_ok e).1) (S_sts R.st _)
  | none=>exact fun _ _ _ _ _ _ _ _ _ _ _ _ _ _ _ P=>P.elim
noncomputable def clR2 (t:Tabs) (r:Ev) (a:Addr) (as:List AV):EM AV:=match lkA t.exs a with
  | some f=>callExc a (callT t r f) as
  | none=>callT t r a as
noncomputable def clR1 (t:Tabs) (r:Ev) (a:Addr) (as:List AV):EM AV:=match lkA t.cls a with
  | some f=>callCls a (callT t r f) as
  | none=>clR2 t r a as
noncomputable def clS (t:Tabs) (H:Hooks) (r:Ev) (f:AV) (as:List AV):EM AV:=match f with
  | .ref a=>pk (memN t.cuts a) (cutV (H.fn a) as) (clR1 t r a as)
  | .bi b=>callBI t b as
  | .typ b=>callTI b as
  | _=>flt
theorem clR2_ok (T:TabsOk g t) {r:Ev} (R:EvOk g r) {a:Addr} {as:List AV} {vs:List Value} (h:VRels c as vs):Snd g c (clR2 t r a as) (fun _=>call (.ref a) vs []) VRel:=by
  unfold clR2
  cases e:lkA t.exs a with
  | some f=>exact callExc_ok (T.exs _ (lkA_ok e)) (fun c as vs hv=>(callT_okH T R f as).toC hv) h
  | none=>exact ((callT_okH T R _ as).toC h).call
theorem clR1_ok (T:TabsOk g t) {r:Ev} (R:EvOk g r) {a:Addr} {as:List AV} {vs:List Value} (h:VRels c as vs):Snd g c (clR1 t r a as) (fun _=>call (.ref a) vs []) VRel:=by
  unfold clR1
  cases e:lkA t.cls a with
  | some f=>exact callCls_ok (T.cls _ (lkA_ok e)) (fun c as vs hv=>(callT_okH T R f as).toC hv) h
  | none=>exact clR2_ok T R h
theorem clS_ok (T:TabsOk g t) {H:Hooks} (hH:HooksOk g H) {r:Ev} (R:EvOk g r) {f:AV} {as:List AV} {f':Value} {vs:List Value} (hf:VRel c f f') (h:VRels c as vs):Snd g c (clS t H r f as) (fun _=>call f' vs []) VRel:=by
  cases f with
  | ref a=>exact hf.elim (G:=fun f'=>Snd g c (pk (memN t.cuts a) (cutV (H.fn a) as) (clR1 t r a as)) (fun _=>call f' vs []) VRel) (.pk (cutV_ok (fun as=>hH.fn _ as) h).call (clR1_ok T R h) _)
  | bi n=>exact hf.elim (G:=fun f'=>Snd g c (callBI t n as) (fun _=>call f' vs []) VRel) (callBI_ok T h)
  | typ n=>exact hf.elim (G:=fun f'=>Snd g c (callTI n as) (fun _=>call f' vs []) VRel) (callTI_ok h)
  | _=>exact .flt
noncomputable def imL:List Expr→Bool
  | .Constant (.str _) _ _::_=>true
  | .Tuple _ _ _::_=>true
  | .Name _ _::_=>true
  | _=>false
noncomputable def imD:List Expr→Bool
  | .Name _ _::_=>true
  | _=>false
noncomputable def exS (t:Tabs) (r:Ev) (e:Expr):EM AV:=match e with
  | .Constant k _ _=>constE k
  | .Name x _=>nameX t.gl x
  | .BinOp l op x _=>bnd (r.ex l) fun a=>bnd (r.ex x) fun b=>binA op a b
  | .UnaryOp op x _=>bnd (r.ex x) fun a=>sopN (opNeg op a)
  | .IfExp q b o _=>bnd (r.tr q) fun z=>match z with | true=>r.ex b | false=>r.ex o
  | .Compare l ops xs _=>withO (oneL ops) fun op=>withO (oneL xs) fun x=>grd (notSet x) (bnd (r.ex l) fun a=>bnd (r.ex x) fun b=>cmpA op a b)
  | .BoolOp op vs _=>boolE truthE op (vs.map r.ex)
  | .Call fn args ks pos=>grd (nilB ks) (match attrOf fn with
    | some x=>grd (plainBase x.1) (grd (!anyStar args) (grd (Nat.blt args.length 30) (grd (Nat.beq x.2.2.endLine pos.line) (bnd (r.ex x.1) fun ov=>bnd (sop (opGm t.attrs t.me ov x.2.1)) fun p=>match keepAV t.keep p.1 with | true=>bnd (evs r.ex args) fun as=>r.cl p.1 (p.2++as) | false=>flt))))
    | none=>grd (notAttr fn) (grd (!anyStar args) (bnd (r.ex fn) fun f=>match keepAV t.keep f with | true=>bnd (evs r.ex args) fun as=>r.cl f as | false=>flt)))
  | .Attribute o n _=>grd (plainBase o) (bnd (r.ex o) fun a=>getA t a n)
  | .Subscript o i _=>(match sliceOf i with
    | some x=>(match x.2.2.1 with
      | none=>bnd (r.ex o) fun a=>bnd (optE r.ex x.1) fun l=>bnd (optE r.ex x.2.1) fun u=>sopN (opSlc a l u)
      | some _=>flt)
    | none=>grd (notSlice i) (bnd (r.ex o) fun a=>bnd (r.ex i) fun b=>sopN (opSub a b)))
  | .Tuple es _ _=>tupE r.ex es
  | .List es _=>listE (imL es) r.ex es
  | .Dict ks vs _=>pk (nilB ks && nilB vs) dict0E (dictE (imD vs) r.ex ks vs)
  | _=>flt
theorem exS_ok (T:TabsOk g t) {r:Ev} (R:EvOk g r) (e:Expr):SE g (exS t r e) e:=by
  cases e with
  | Constant=>exact S_const
  | Name=>exact S_name T.gl
  | BinOp=>exact S_bin (R.ex _) (R.ex _) fun c a b a' b' h1 h2=>binA_ok h1 h2
  | UnaryOp=>exact S_un (R.ex _) fun c a a' h=>.leafN fun _=>leaf_neg h
  | IfExp=>exact S_ifexp (R.tr _) (R.ex _) (R.ex _)
  | Compare l ops xs pos =>
    refine fun c=>.withO fun op e1=>.withO fun x e2=>.grd fun h=>?_
    rw [oneL_ok e1,oneL_ok e2]
    exact S_cmp h (R.ex _) (R.ex _) (fun c a b a' b' h1 h2=>cmpA_ok h1 h2) c
  | BoolOp=>exact S_bool truthE_ok R.ex
  | Call fn args ks pos =>
    refine fun c=>.grd fun e1=>?_
    rw [nil_ok e1]
    cases ha:attrOf fn with
    | some x =>
      rw [attrOf_ok ha]
      exact .grd fun h1=>.grd fun h2=>.grd fun h3=>.grd fun h4=>S_callM (gm:=fun a n=>sop (opGm t.attrs t.me a n)) R.ex T.keep h1 (not_ok h2) h3 h4 (fun c a a' pl h=>.leaf fun _=>leaf_gm T.attrs T.me h) R.cl c
    | none=>exact .grd fun h1=>.grd fun h2=>S_callN R.ex T.keep h1 (not_ok h2) R.cl c
  | Attribute=>exact fun c=>.grd fun h=>S_attr h (R.ex _) (fun c a a' h=>getA_ok T h) c
  | Subscript o i pos =>
    intro c
    show Snd g c (match sliceOf i with | some x=>_ | none=>_) _ _
    cases hs:sliceOf i with
    | some x =>
      rw [sliceOf_ok hs]
      obtain ⟨lo,up,st,sp⟩:=x
      cases st with
      | none=>exact S_slc (R.ex _) R.ex (fun c a l u a' l' u' h1 h2 h3=>.leafN fun _=>leaf_slc h1 h2 h3) c
      | some=>exact .flt
    | none=>exact .grd fun h=>S_sub h (R.ex _) (R.ex _) (fun c a b a' b' h1 h2=>.leafN fun _=>leaf_sub h1 h2) c
  | Tuple=>exact S_tup R.ex
  | List=>exact S_list R.ex
  | Dict ks vs pos =>
    intro c
    show Snd g c (pk (nilB ks && nilB vs) _ _) _ _
    cases hb:(nilB ks && nilB vs) with
    | true=>rw [nil_ok (and_ok hb).1,nil_ok (and_ok hb).2];exact S_dict0 c
    | false=>exact S_dict R.ex c
  | _=>exact fun _=>.flt
theorem SB.flt {e:Expr}:SB g flt e:=fun _ _ _=>.flt
noncomputable def trS (r:Ev) (e:Expr):EM Bool:=match e with
  | .UnaryOp .Not x _=>bnd (r.tr x) fun b=>ret (!b)
  | .BoolOp op vs _=>allE op (vs.map r.tr)
  | .Compare l ops xs _=>withO (oneL ops) fun op=>withO (oneL xs) fun x=>grd (notSet x) (bnd (r.ex l) fun a=>bnd (r.ex x) fun b=>bnd (cmpA op a b) truthE)
  | e=>grd (plainT e) (bnd (r.ex e) truthE)
theorem SB.grd {m:EM Bool} {e:Expr} {b:Bool} (h:b=true→SB g m e):SB g (grd b m) e:=by
  cases b with
  | true=>exact h rfl
  | false=>exact SB.flt
theorem SB.withO {β:Type} {f:β→EM Bool} {e:Expr} {o:Option β} (h:∀ a,o=some a→SB g (f a) e):SB g (withO o f) e:=by
  cases o with
  | some a=>exact h a rfl
  | none=>exact SB.flt
theorem trS_ok {r:Ev} (R:EvOk g r) (e:Expr):SB g (trS r e) e:=by
  cases e with
  | UnaryOp op x pos =>
    cases op with
    | Not=>exact T_not (R.tr _)
    | _=>exact SB.grd fun h=>T_plain truthE_ok h (R.ex _)
  | BoolOp=>exact T_bool R.tr
  | Compare l ops xs pos =>
    refine SB.withO fun op e1=>SB.withO fun x e2=>SB.grd fun h=>?_
    rw [oneL_ok e1,oneL_ok e2]
    exact T_cmp truthE_ok h (R.ex _) (R.ex _) fun c a b a' b' h1 h2=>cmpA_ok h1 h2
  | _=>exact SB.grd fun h=>T_plain truthE_ok h (R.ex _)
noncomputable def asgS (t:Tabs) (r:Ev) (e:Expr) (v:AV):EM Unit:=match e with
  | .Name x _=>setL x v
  | .Attribute o n _=>bnd (r.ex o) fun b=>setA t b n v
  | .Subscript o i _=>bnd (r.ex o) fun a=>bnd (r.ex i) fun b=>sopN (opSetS a b v)
  | .Tuple ts _ _=>grd (!anyStar ts) (bnd (unpackE ts.length v) fun as=>asgs r.asg ts as)
  | _=>flt
theorem asgS_ok (T:TabsOk g t) {r:Ev} (R:EvOk g r) (e:Expr):SA g (asgS t r e) e:=by
  cases e with
  | Name=>exact A_name
  | Attribute=>exact A_attr (R.ex _) fun c a b a' b' h1 h2=>setA_ok T h1 h2
  | Subscript=>exact A_sub (R.ex _) (R.ex _) fun c a b v a' b' v' h1 h2 h3=>.leafN fun _=>leaf_setS T.hb h1 h2 h3
  | Tuple=>exact fun c v v' hv rd=>Snd.grd (fun h=>A_tup R.asg (not_ok h) c v v' hv) rd
  | _=>exact fun _ _ _ _=>.flt
noncomputable def asgStS (r:Ev) (tg v:Expr):EM AFlow:=match tupOf tg,tupOf v with
  | some x,some y=>bnd (sop fun rd σ=>obn (pairE rd.sc x.1 y.1) fun p=>some (p,σ)) fun p=>bnd (r.ex v) fun a=>bnd (unpackE 2 a) (pairK p)
  | _,_=>grd (noComp v) (grd (notPair tg v) (grd (!isStar tg) (bnd (r.ex v) fun a=>bnd (r.asg tg a) fun _=>ret .next)))
theorem SS1.flt {e:Stmt}:SS1 g flt e:=fun _=>.flt
theorem SS1.grd {m:EM AFlow} {e:Stmt} {b:Bool} (h:b=true→SS1 g m e):SS1 g (grd b m) e:=by
  cases b with
  | true=>exact h rfl
  | false=>exact SS1.flt
theorem SS1.withO {β:Type} {f:β→EM AFlow} {e:Stmt} {o:Option β} (h:∀ a,o=some a→SS1 g (f a) e):SS1 g (withO o f) e:=by
  cases o with
  | some a=>exact h a rfl
  | none=>exact SS1.flt
theorem SS1.pk {x y:EM AFlow} {e:Stmt} {b:Bool} (h1:b=true→SS1 g x e) (h2:SS1 g y e):SS1 g (T.pk b x y) e:=by
  cases b with
  | true=>exact h1 rfl
  | false=>exact h2
theorem asg_one {r:Ev} (R:EvOk g r) {tg v:Expr} {pos:Pos}:SS1 g (grd (noComp v) (grd (notPair tg v) (grd (!isStar tg) (bnd (r.ex v) fun a=>bnd (r.asg tg a) fun _=>ret .next)))) (.Assign [tg] v pos):=SS1.grd fun h1=>SS1.grd fun h2=>SS1.grd fun h3=>S_asg h1 h2 (R.ex _) (R.asg _) (not_ok h3)
theorem asgStS_ok {r:Ev} (R:EvOk g r) {tg v:Expr} {pos:Pos}:SS1 g (asgStS r tg v) (.Assign [tg] v pos):=by
  unfold asgStS
  cases h1:tupOf tg with
  | none=>exact asg_one R
  | some x =>
    cases h2:tupOf v with
    | none=>exact asg_one R
    | some y=>rw [tupOf_ok h1,tupOf_ok h2];exact S_pair (R.ex _)
noncomputable def hdOf:List ExceptHandler→Option (Expr × Str × Stmt × List Stmt × Pos)
  | [.ExceptHandler (some q) (some n) (b₀::suite) p]=>some (q,n,b₀,suite,p)
  | _=>none
theorem hdOf_ok {l:List ExceptHandler} {x:Expr × Str × Stmt × List Stmt × Pos} (h:hdOf l=some x):l=[.ExceptHandler (some x.1) (some x.2.1) (x.2.2.1::x.2.2.2.1) x.2.2.2.2]:=by
  match l,h with
  | [.ExceptHandler (some q) (some n) (b₀::suite) p],h=>cases h;rfl
noncomputable def stU (t:Tabs) (r:Ev) (s:Stmt):EM AFlow:=match s with
  | .Expr e _=>grd (noComp e) (bnd (r.ex e) fun _=>ret .next)
  | .Return o _=>(match o with
    | some e=>bnd (r.ex e) fun a=>ret (.ret a)
    | none=>ret (.ret .none))
  | .Pass _=>ret .next
  | .If q b o _=>bnd (r.tr q) fun z=>match z with | true=>stsE r.st b | false=>stsE r.st o
  | .While q b o _=>noteE (whileE (r.tr q) (stsE r.st b) (stsE r.st o) 8)
  | .For x it b o _=>grd (nilB o) (grd (notSetE it) (forS (isName x) (r.ex it) (r.asg x) (stsE r.st b) 16))
  | .Assign ts v _=>withO (oneL ts) fun tg=>asgStS r tg v
  | .AugAssign tg op e _=>withO (attrOf tg) fun x=>bnd (r.ex x.1) fun ov=>bnd (bnd (getA t ov x.2.1) fun old=>bnd (r.ex e) fun v=>sopN (opIn2 op old v)) fun new=>bnd (setA t ov x.2.1 new) fun _=>ret .next
  | .Raise x y _=>withO x fun x=>grd y.isNone (bnd (r.ex x) (raiseE t.excs))
  | .Try b hs els fin _=>grd (nilB els) (pk (nilB fin) (withO (hdOf hs) fun x=>tryE t.excs (stsE r.st b) (r.ex x.1) x.2.1 (stsE r.st (x.2.2.1::x.2.2.2.1))) (grd (nilB hs) (match fin with
    | f₀::fs=>finE (stsE r.st b) (stsE r.st (f₀::fs))
    | []=>flt)))
  | _=>flt
theorem none_ok {α:Type}:∀ {o:Option α},o.isNone=true→o=none
  | none,_=>rfl
theorem stU_ok (T:TabsOk g t) {r:Ev} (R:EvOk g r) (s:Stmt):SS1 g (stU t r s) s:=by
  cases s with
  | Expr=>exact SS1.grd fun h=>S_expr h (R.ex _)
  | Return o=>cases o with
    | some=>exact S_ret (R.ex _)
    | none=>exact S_ret0
  | Pass=>exact S_pass
  | If=>exact S_if (R.tr _) (S_sts R.st _) (S_sts R.st _)
  | While=>exact S_while (R.tr _) (S_sts R.st _) (S_sts R.st _) 8
  | For=>exact SS1.grd fun e=>nil_ok e▸SS1.grd fun h=>S_for h (R.ex _) (R.asg _) (S_sts R.st _) 16
  | Assign=>exact SS1.withO fun tg e=>oneL_ok e▸asgStS_ok R
  | AugAssign=>exact SS1.withO fun x e=>attrOf_ok e▸S_aug (R.ex _) (R.ex _) (fun c a a' h=>getA_ok T h) (fun c a b a' b' h1 h2=>.leafN fun _=>leaf_in2 h1 h2) (fun c a b a' b' h1 h2=>setA_ok T h1 h2)
  | Raise=>exact SS1.withO fun x e=>e▸SS1.grd fun h=>none_ok h▸S_raise T.excs (R.ex _)
  | Try b hs els fin pos =>
    refine SS1.grd fun e=>?_
    cases els with
    | cons=>cases e
    | nil =>
    cases fin with
    | nil=>exact SS1.withO fun x eh=>hdOf_ok eh▸S_try T.excs (S_sts R.st _) (R.ex _) (S_sts R.st _)
    | cons=>exact SS1.grd fun eh=>nil_ok eh▸S_fin (S_sts R.st _) (S_sts R.st _)
  | _=>exact SS1.flt
theorem Ok.eq {γ:Type} {x:γ}:∀ {o:Option γ},Ok (·=x) o→o=some x
  | some _,P=>congrArg some P
noncomputable def askM (m:Nat→EM AFlow):EM AFlow:=⟨fun rd s=>askN s.orc fun k t=>(m k).run rd {s with orc:=t},fun rd s r s' e=>Ok.askN (e▸rfl:Ok (·=(r,s')) (askN s.orc fun k t=>(m k).run rd {s with orc:=t})) fun k t P=>(m k).mono rd {s with orc:=t} r s' P.eq⟩
theorem S_askM {m:Nat→EM AFlow} {s:Stmt} (h:∀ n,SS1 g (m n) s):SS1 g (askM m) s:=fun c₀=>.q fun rd as c f outs lm A s Q E C x I ob kk P =>
  Ok.askN (o:=as.orc) P fun k t P=>(h k c₀).run (as:={as with orc:=t}) x ⟨I.hp,I.ls,I.sc,I.room⟩ ob kk P
noncomputable def tidyS (m:EM AFlow):EM AFlow:=⟨fun rd s=>obn (m.run rd s) fun p=>nextR p.1 (obn ((compactE s.σ.length).run rd p.2) fun q=>some (.ok .next,q.2)),
  fun _ s r s'=>(Mo.run rfl fun p=>nextR_ok (C:=Mo p.2) Mo.no fun _=>Mo.run rfl fun _=>Mo.yes rfl:Mo s _) (r,s')⟩
theorem S_tidy {m:EM AFlow} {s:Stmt} (h:SS1 g m s):SS1 g (tidyS m) s:=fun c₀=>.q fun rd as c f outs lm A s Q E C x I ob kk P =>
  (h c₀).run (C:=fun r s=>EOk C (nextR r (obn ((compactE as.σ.length).run rd s) fun q=>some (.ok .next,q.2)))) x I (fun r as1 P=>nextR_get P fun _ P=>EOk.obl (fun _ _=>ob _ _) (EOk.run P)) (fun r as1 c1 lm1 s1 P x1 I1=>nextR_get P fun e P=>e▸fun fl hfl=>by
    cases hfl
    exact compact_ok (EOk.run P) I1 x1 I.hp.st.len fun as2 c2 P I2 x2=>kk _ _ c2 lm1 s1 P x2 I2 _ .next) (EOk.run P)
noncomputable def stC (t:Tabs) (r:Ev) (s:Stmt):EM AFlow:=match s with
  | .While q b o _=>askM fun n=>whileC (r.tr q) (cutS (stsE r.st b)) (stsE r.st o) n
  | .For x it b o _=>grd (nilB o) (grd (notSetE it) (askM fun n=>forS (isName x) (r.ex it) (r.asg x) (cutS (stsE r.st b)) n))
  | .Try b h o f p=>tidyS (stU t r (.Try b h o f p))
  | .If q b o p=>stU t r (.If q b o p)
  | _=>flt
theorem stC_ok (T:TabsOk g t) {r:Ev} (R:EvOk g r) (s:Stmt):SS1 g (stC t r s) s:=by
  cases s with
  | While=>exact S_askM fun n=>S_whileC (R.tr _) (S_cutL (S_sts R.st _)) (S_sts R.st _) n
  | For=>exact SS1.grd fun e=>nil_ok e▸SS1.grd fun h=>S_askM fun n=>S_for h (R.ex _) (R.asg _) (S_cutL (S_sts R.st _)) n
  | Try=>exact S_tidy (stU_ok T R _)
  | If q b o p=>exact stU_ok T R (.If q b o p)
  | _=>exact SS1.flt
noncomputable def lineOf:Stmt→Nat
  | .While _ _ _ p=>p.line
  | .For _ _ _ _ p=>p.line
  | .If _ _ _ p=>p.line
  | .Try _ _ _ _ p=>p.line
  | _=>0
noncomputable def stS (t:Tabs) (H:Hooks) (r:Ev) (s:Stmt):EM AFlow:=match memN t.cutL (lineOf s) with
  | true=>cutS (H.st s)
  | false=>stU t r s
theorem stS_ok (T:TabsOk g t) {H:Hooks} (hH:HooksOk g H) {r:Ev} (R:EvOk g r) (s:Stmt):SS1 g (stS t H r s) s:=by
  unfold stS
  cases memN t.cutL (lineOf s) with
  | true=>exact S_cut (hH.st s)
  | false=>exact stU_ok T R s
noncomputable def ev0:Ev:=⟨fun _=>flt,fun _=>flt,fun _=>flt,fun _ _=>flt,fun _ _=>flt⟩
noncomputable def evS (t:Tabs) (H:Hooks) (r:Ev):Ev:=⟨exS t r,trS r,stS t H r,asgS t r,clS t H r⟩
noncomputable def ev (t:Tabs) (H:Hooks) (n:Nat):Ev:=Nat.rec ev0 (fun _ r=>evS t H r) n
theorem ev_ok (T:TabsOk g t) {H:Hooks} (hH:HooksOk g H):∀ n,EvOk g (ev t H n)
  | 0=>⟨fun _ _=>.flt,fun _=>SB.flt,fun _=>SS1.flt,fun _ _ _ _ _=>.flt,fun _ _ _ _ _ _ _=>.flt⟩
  | n+1=>⟨exS_ok T (ev_ok T hH n),trS_ok (ev_ok T hH n),stS_ok T hH (ev_ok T hH n),asgS_ok T (ev_ok T hH n),fun _ _ _ _ _ h1 h2=>clS_ok T hH (ev_ok T hH n) h1 h2⟩
noncomputable def hk (t:Tabs) (n:Nat):Hooks:=Nat.rec ⟨fun _ _=>flt,fun _=>flt⟩ (fun _ H=>⟨callT t (ev t H 200),stC t (ev t H 200)⟩) n
theorem hk_ok (T:TabsOk g t):∀ n,HooksOk g (hk t n)
  | 0=>⟨(fun _ _ _ _ _ _ _ _ _ _ _ _ _ _ _ _ _ P=>P.elim),fun _=>SS1.flt⟩
  | n+1=>⟨callT_okH T (ev_ok T (hk_ok T n) 200),stC_ok T (ev_ok T (hk_ok T n) 200)⟩
end
end T
namespace T
noncomputable def funO {γ:Type} (o:Option Obj) (f:Value→Option Addr→FuncData→Array (Option Value)→γ) (d:γ):γ:=match o with
  | some ⟨c,d,.func fd,s⟩=>f c d fd s
  | _=>d
theorem funO_ok {β:Type} {o:Option Obj} {f:Value→Option Addr→FuncData→Array (Option Value)→Option β} (h:(funO o f none).isSome=true):∃ c d fd s,o=some ⟨c,d,.func fd,s⟩:=by
  cases o with
  | none=>exact no_tf h
  | some x =>
    obtain ⟨c,d,dt,s⟩:=x
    cases dt with
    | func fd=>exact ⟨c,d,fd,s,rfl⟩
    | _=>exact no_tf h
noncomputable def fdOf (K:Frag) (a:Addr):FuncData:=funO (K.lookup a) (fun _ _ fd _=>fd) default
noncomputable def bodyOf:FuncBody→List Stmt
  | .stmts l=>l
  | _=>[]
noncomputable def getF (K:Frag) (a:Addr) (ads:List AV):FnE:=⟨a,(fdOf K a).params.args.map (·.arg),(fdOf K a).qualname,(fdOf K a).scope,bodyOf (fdOf K a).body,ads⟩
noncomputable def plainFd (fd:FuncData):FuncData:=fnOf fd.name fd.qualname ⟨[],fd.params.args,none,[],fd.params.kw_defaults,none,fd.params.defaults⟩ (bodyOf fd.body) fd.scope fd.defaults fd.kwdefaults fd.doc fd.pyModule fd.annotations fd.code fd.closureTuple
noncomputable def isCell:NameKind→Bool
  | .cell=>true
  | _=>false
noncomputable def noCell (l:List (Str × NameKind)):Bool:=allF (fun p=>!isCell p.2) l
theorem noCell_ok {l:List (Str × NameKind)} (h:noCell l=true) (x:Str × NameKind) (m:x∈l):x.2 ≠ .cell:=fun e=>no_tf (e▸allF_iff.mp h x m:(!isCell .cell)=true)
noncomputable def isFun:ScopeKind→Bool
  | .function=>true
  | _=>false
theorem isFun_ok {k:ScopeKind} (h:isFun k=true):k=.function:=by
  cases k with
  | function=>rfl
  | _=>exact no_tf h
noncomputable def dvC {γ:Type} (K:Frag) (dV:Value) (n:γ) (f:Array Value→γ) (d:γ):γ:=match dV with
  | .none=>n
  | .ref T=>(match K.lookup T with
    | some ⟨_,_,.seq vs _,_⟩=>f vs
    | _=>d)
  | _=>d
noncomputable def dsOf (K:Frag) (dV:Value):List Value:=dvC K dV [] (·.toList) []
noncomputable def dvOk (K:Frag) (dV:Value):Bool:=dvC K dV true (fun _=>true) false
theorem dvOk_ok {K:Frag} {dV:Value} (h:dvOk K dV=true):(dV=.none∧dsOf K dV=[])∨∃ T oT n,dV=.ref T∧K.lookup T=some oT∧oT.data=.seq (dsOf K dV).toArray n:=by
  cases dV with
  | none=>exact .inl ⟨rfl,rfl⟩
  | ref T =>
    delta dsOf dvOk dvC at *
    dsimp only at *
    cases e:K.lookup T with
    | none=>rw [e] at h;exact no_tf h
    | some x =>
      obtain ⟨c,d,dt,s⟩:=x
      rw [e] at h
      cases dt with
      | seq vs n=>exact .inr ⟨T,_,n,rfl,e,rfl⟩
      | _=>exact no_tf h
  | _=>exact no_tf h
noncomputable def adOk (a:AV) (v:Value):Bool:=match a with
  | .any=>true
  | .none=>(match v with
    | .none=>true
    | _=>false)
  | .bool b=>(match v with
    | .bool c=>cond b c (!c)
    | _=>false)
  | .int i=>(match v with
    | .int j _=>decide (i=j)
    | _=>false)
  | .str x=>(match v with
    | .str y _=>seq x y
    | _=>false)
  | _=>false
noncomputable def adsOk:List AV→List Value→Bool
  | [],vs=>vs.isEmpty
  | a::r,vs=>(match vs with
    | []=>false
    | v::t=>cond (adOk a v) (adsOk r t) false)
theorem adOk_rel {c:Cc} {a:AV} {v:Value} (h:adOk a v=true):VRel c a v:=by
  cases a with
  | any=>exact .any _
  | none=>cases v with
    | none=>exact .none
    | _=>exact no_tf h
  | bool b=>cases v with
    | bool d=>cases b with
      | true=>exact (h:d=true)▸.bool _
      | false=>cases d with
        | true=>exact no_tf h
        | false=>exact .bool _
    | _=>exact no_tf h
  | int i=>cases v with
    | int j t=>exact of_decide_eq_true h▸.int _ t
    | _=>exact no_tf h
  | str x=>cases v with
    | str y t=>exact seq_iff.mp h▸.str _ t
    | _=>exact no_tf h
  | _=>exact no_tf h
theorem adsOk_rel {c:Cc} {a:List AV}:∀ {v:List Value},adsOk a v=true→VRels c a v:=by
  induction a with
  | nil=>intro v h;cases v with
    | nil=>exact .nil
    | cons _ _=>exact no_tf h
  | cons a r ih=>intro v h;cases v with
    | nil=>exact no_tf h
    | cons x t=>exact .cons (adOk_rel (cond_ff h).1) (ih (cond_ff h).2)
noncomputable def fnChk (K:Frag) (a:Addr) (ads:List AV):Bool × Bool × Bool × Bool × Bool × Bool × Bool × Bool:=(codeIn K (fdOf K a).code (fdOf K a).qualname,(fdOf K a).scope.isCoroutine,(fdOf K a).scope.isGenerator,isFun (fdOf K a).scope.kind,noCell (fdOf K a).scope.names,
  allF (isLoc (fdOf K a).scope) ((fdOf K a).params.args.map (·.arg)),dvOk K (fdOf K a).defaults,adsOk ads (dsOf K (fdOf K a).defaults))
noncomputable def shapeOf (K:Frag) (a:Addr):Option Obj:=funO (K.lookup a) (fun c d fd s=>some ⟨c,d,.func (plainFd fd),s⟩) none
theorem fnOk_at {g:Gd} {a:Addr} {ads:List AV} {fd:FuncData} {oc:Value} {od:Option Addr} {osl:Array (Option Value)} (e:g.K.lookup a=some ⟨oc,od,.func fd,osl⟩) (ef:fd=plainFd fd) (c1:codeIn g.K fd.code fd.qualname=true) (c2:fd.scope.isCoroutine=false) (c3:fd.scope.isGenerator=false) (c4:isFun fd.scope.kind=true)
    (c5:noCell fd.scope.names=true) (c6:allF (isLoc fd.scope) (fd.params.args.map (·.arg))=true) (c7:dvOk g.K fd.defaults=true) (c8:adsOk ads (dsOf g.K fd.defaults)=true):FnOk g ⟨a,fd.params.args.map (·.arg),fd.qualname,fd.scope,bodyOf fd.body,ads⟩ :=
  ⟨oc,od,osl,fd.name,fd.params.args,fd.params.kw_defaults,fd.params.defaults,fd.defaults,fd.kwdefaults,fd.doc,fd.pyModule,fd.annotations,fd.code,fd.closureTuple,e.trans (congrArg (fun z=>some (Obj.mk oc od (.func z) osl)) ef),c1,c2,c3,isFun_ok c4,noCell_ok c5,fun n m=>isLoc_ok (allF_iff.mp c6 n m),rfl,dsOf g.K fd.defaults,fun _=>adsOk_rel c8,dvOk_ok c7⟩
theorem fnOk_of {g:Gd} {a:Addr} {ads:List AV} (h1:(shapeOf g.K a).isSome=true) (h2:g.K.lookup a=shapeOf g.K a) (h3:fnChk g.K a ads=(true,false,false,true,true,true,true,true)):FnOk g (getF g.K a ads):=by
  obtain ⟨oc,od,fd,osl,e⟩:=funO_ok h1
  have hfd:fdOf g.K a=fd:=congrArg (fun o=>funO o (fun _ _ fd _=>fd) default) e
  have hs:shapeOf g.K a=some ⟨oc,od,.func (plainFd fd),osl⟩:=congrArg (fun o=>funO o (fun c d fd s=>some (Obj.mk c d (.func (plainFd fd)) s)) none) e
  delta getF
  delta fnChk at h3
  rw [hfd] at h3 ⊢
  exact fnOk_at e (Data.func.inj (congrArg Obj.data (Option.some.inj (e.symm.trans (h2.trans hs))))) (congrArg (·.1) h3) (congrArg (·.2.1) h3) (congrArg (·.2.2.1) h3) (congrArg (·.2.2.2.1) h3) (congrArg (·.2.2.2.2.1) h3) (congrArg (·.2.2.2.2.2.1) h3) (congrArg (·.2.2.2.2.2.2.1) h3) (congrArg (·.2.2.2.2.2.2.2) h3)
theorem attrOk_of {K:Frag} {C:Addr} {ns:List Str} (h1:(plainGet K C sInit,hasDictIn K C,plainOver K C)=(true,true,true)) (h2:findIn K (.ref C) "__setattr__" = some (some (.builtin "object.__setattr__")))
    (h3:ns.map (findIn K (.ref C))=ns.map fun _=>some none):∀ n∈ns,AttrOk K C n:=by
  simp only [Prod.mk.injEq] at h1
  intro n m
  have e:findIn K (.ref C) n=some none:=by
    have:=List.map_inj_left.mp h3 n m
    exact this
  refine ⟨h1.1,h1.2.1,⟨none,e,rfl⟩,h2,h1.2.2,?_⟩
  unfold takerIn
  rw [e];rfl
theorem excAttr_of {K:Frag} {C fI:Addr} {ns:List Str} (h1:findIn K (.ref C) "__getattribute__" = some (some (.builtin "BaseException.__getattribute__"))) (h2:findIn K (.ref C) "__getattr__" = some none)
    (h3:(mroIn K C (.type "BaseException"),hasDictIn K C)=(some true,true)) (h4:findIn K (.ref C) "__setattr__" = some (some (.builtin "object.__setattr__"))) (h5:ns.map (findIn K (.ref C))=ns.map fun _=>some none) (h6:ExcCls K C fI):∀ n∈ns,ExcAttr K C fI n:=by
  simp only [Prod.mk.injEq] at h3
  intro n m
  have e:findIn K (.ref C) n=some none:=List.map_inj_left.mp h5 n m
  refine ⟨h1,h2,h3.1,h3.2,e,h4,?_,h6⟩
  unfold takerIn
  rw [e];rfl
theorem meOk_of {K:Frag} {C:Addr} {ms:List (Str × Addr)} (h1:findIn K (.ref C) "__getattribute__" = some (some (.builtin "object.__getattribute__"))) (h2:findIn K (.ref C) "__getattr__" = some none)
    (h3:ms.map (fun p=>findIn K (.ref C) p.1)=ms.map fun p=>some (some (.ref p.2))) (h4:ms.map (fun p=>typeIn K (.ref p.2))=ms.map fun _=>some (.type "function")):∀ p∈ms,MeOk K (C,p.1,p.2) :=
  fun p m=>⟨h1,h2,List.map_inj_left.mp h3 p m,List.map_inj_left.mp h4 p m⟩
theorem glob_of {g:Gd} {x:Str} {v:Value} {a:AV} (X:g.K.In g.B) (h:nsIn g.K mainGlobals x=some (some v)) (hd:(x == ("__classdict__" : Str))=false) (r:∀ c,VRel c a v):GlobOk g x a:=⟨hd,v,r,.inl (mg_of X g.TB.g h)⟩
theorem blt_of {g:Gd} {x:Str} {v:Value} {a:AV} (X:g.K.In g.B) (h:nsIn g.K mainGlobals x=some none) (hb:bootBuiltins x=some v) (hd:(x == ("__classdict__" : Str))=false) (hn:x ≠ "__name__") (r:∀ c,VRel c a v):GlobOk g x a :=
  ⟨hd,v,r,.inr ⟨mg_none_of X g.TB.g h,(g.TB.builtins x hn).trans hb⟩⟩
end T
open PySem PySem.W PyProof.Rows
namespace T
noncomputable def treeOf:List Obj→Nat→BT→BT
  | [],_,T=>T
  | o::r,n,T=>treeOf r (n+1) (T.ins n o)
noncomputable def goG (ok:Thread→Bool) (st:SharedT→Thread→Option (SharedT × Thread)):Nat→SharedT→Thread→Option (SharedT × Thread)
  | 0,s,t=>some (s,t)
  | n+1,s,t=>match through t with
    | true=>some (s,t)
    | false=>match ok t with
      | false=>none
      | true=>match st s t with
        | some (s',t')=>goG ok st n s' t'
        | none=>none
noncomputable def goT (tb:String→Option Builtin) (p:Program) (w:World) (n₀:Nat) (ann:Option Value):Nat→SharedT→Thread→Option (SharedT × Thread):=goG (stepOk n₀ ann) (stepT (denote tb) p w)
theorem goT_ok {tb:String→Option Builtin} {p:Program} {w:World} {n₀:Nat} {ann:Option Value}:∀ {n:Nat} {s s':SharedT} {t t':Thread},goT tb p w n₀ ann n s t=some (s',t')→through t'=true→topRun tb p w n₀ ann (n+1) s.abs t=some s'.abs
  | 0,s,s',t,t',h,k=>by cases h;unfold topRun;rw [k]
  | n+1,s,s',t,t',h,k=>by
    unfold goT goG at h
    unfold topRun
    cases ht:through t with
    | true=>rw [ht] at h;cases h;rfl
    | false =>
      rw [ht] at h
      cases hk:stepOk n₀ ann t with
      | false=>rw [hk] at h;cases h
      | true =>
        rw [hk] at h
        cases hs:stepT (denote tb) p w s t with
        | none=>rw [hs] at h;cases h
        | some r=>obtain ⟨s₂,t₂⟩:=r;rw [hs] at h;dsimp only;rw [stepT_spec hs];exact goT_ok h k
noncomputable def treeC:List Obj→Nat→BT→Option BT
  | [],_,T=>some T
  | o::r,n,T=>match ((T.ins n o).get n).isSome with
    | true=>treeC r (n+1) (T.ins n o)
    | false=>none
theorem treeC_ok {life:Life}:∀ {l:List Obj} {n:Nat} {T T':BT} {pre:List Obj},treeC l n T=some T'→absHeap T n life=⟨pre.toArray,life⟩→absHeap T' (n+l.length) life=⟨(pre++l).toArray,life⟩
  | [],n,T,T',pre,h,e=>by cases h;simpa using e
  | o::r,n,T,T',pre,h,e=>by
    unfold treeC at h
    split at h
    · rename_i g
      have q:=treeC_ok (pre:=pre++[o]) h (by rw [absHeap_ins g,e];simp [Heap.push])
      rw [show n+(o::r).length=n+1+r.length by simp;omega,q];simp
    · cases h
structure Fns where
  tb:String→Option Builtin
  ok:Nat→Option Value→Thread→Bool
  st:(Code→Sem Fin)→Program→World→SharedT→Thread→Option (SharedT × Thread)
  den:(String→Option Builtin)→Code→Sem Fin
  imp:(String→Option Builtin)→Program→World→Nat→Shared→Thread→Option Shared
  fence:Program→Shared→Option Shared
  mods:List Stmt→List Str
  ns:Heap→Addr→Str→Option Value
noncomputable def fnsM:Fns:=⟨treeTable,stepOk,stepT,denote,importEnds,fenceModules?,importedModules,Heap.nsMap⟩
noncomputable def allT {β:Type} (f:Fns) (seen:Program→List Str→List Str→(Shared→Bool)→Bool→Shared→β) (p q:Program) (loose:List Str) (Xt:Shared→Bool) (as:List Addr) (w:World) (N M m₀:Nat) (ann:Option Value):Option (Option Value × Bool × Bool × β × List (Option Obj)):=match (f.imp f.tb (opening p) w N (start (opening p)).1 (start (opening p)).2).bind (f.fence p) with
  | some s0=>(match s0.heap.isNs mainGlobals && s0.gens.size == 0,Nat.beq s0.heap.objs.size m₀,treeC s0.heap.objs.toList 0 .nil with
    | true,true,some T=>(match goG (f.ok m₀ ann) (f.st (f.den f.tb) p w) M ⟨T,m₀,s0.heap.life,s0.gens,s0.drawn,s0.toks,s0.os⟩ (topStub p) with
      | some (s,t)=>some (f.ns s0.heap mainGlobals "__annotations__",through t,staticsOk (f.mods p.main.body) s0.heap s.abs.heap && namesBound p s.abs.heap && gensDone s.abs && laidKept s0.heap s.abs.heap,seen q loose (f.mods p.main.body) Xt true s.abs,as.map fun a=>match Nat.blt a s.n with
        | true=>(s.tree.get a).bind alive
        | false=>none)
      | none=>none)
    | _,_,_=>none)
  | none=>none
theorem get_tree {s:SharedT} {a:Addr}:∀ {o:Obj},(match Nat.blt a s.n with
    | true=>(s.tree.get a).bind alive
    | false=>none)=some o→s.abs.heap.get? a=some o:=by
  intro o h
  split at h
  · rename_i e
    cases q:s.tree.get a with
    | none=>rw [q] at h;cases h
    | some o'=>rw [q] at h;exact (abs_get (Nat.le_of_ble_eq_true e) q).trans h
  · cases h
theorem left_one {p q:Program} {loose:List Str} {Xt:Shared→Bool} {K:Params→Frag} {as:List Addr} {e:∀ P,as=(K P).map (·.1)} {N M m₀:Nat} {ann:Option Value} (le:Nat.ble (M+1) N=true)
    (look:∀ w:World,allT fnsM openSeen p q loose Xt as w N M m₀ ann=some (ann,true,true,openGood q loose,(K w.params).map fun p=>some p.2)):LeftO p q loose Xt (kHook K as e).obs (kHook K as e).val N:=fun w=>by
  have l:=look w
  unfold allT at l
  unfold openEnds
  have h00:(fnsM.imp fnsM.tb (opening p) w N (start (opening p)).1 (start (opening p)).2).bind (fnsM.fence p)=fencedOpening treeTable p w N:=rfl
  rw [h00] at l
  cases h0:fencedOpening treeTable p w N with
  | none=>rw [h0] at l;cases l
  | some s =>
    rw [h0] at l
    dsimp only at l
    split at l
    · rename_i T b1 b2 b3
      split at l
      · rename_i s1 t hr
        simp only [Option.some.injEq,Prod.mk.injEq] at l
        obtain ⟨la,l1,l2,l3,l4⟩:=l
        have hr:goT treeTable p w m₀ ann M ⟨T,m₀,s.heap.life,s.gens,s.drawn,s.toks,s.os⟩ (topStub p)=some (s1,t):=hr
        have la:s.heap.nsMap mainGlobals "__annotations__" = ann:=la
        have l2:(staticsOk (importedModules p.main.body) s.heap s1.abs.heap && namesBound p s1.abs.heap && gensDone s1.abs && laidKept s.heap s1.abs.heap)=true:=l2
        have l3:openSeen q loose (importedModules p.main.body) Xt true s1.abs=openGood q loose:=l3
        have r:=goT_ok hr l1
        have b2:=Nat.eq_of_beq_eq_true b2
        have e0:absHeap T m₀ s.heap.life=s.heap:=by
          have q:=treeC_ok (life:=s.heap.life) (pre:=[]) b3 (by first | rfl | (delta absHeap;rfl))
          rw [Nat.zero_add] at q
          rw [show m₀=s.heap.objs.toList.length by rw [← b2];rfl,q];rfl
        have r:topRun treeTable p w m₀ ann (M+1) ⟨absHeap T m₀ s.heap.life,s.gens,s.drawn,s.toks,s.os⟩ (topStub p)=some s1.abs:=r
        rw [e0] at r
        have r:=topRun_mono (N - (M+1)) _ _ _ _ r
        rw [show M+1+(N - (M+1))=N by have:=Nat.le_of_ble_eq_true le;omega] at r
        show (topFrom treeTable p w N s).map _=_
        have tf:topFrom treeTable p w N s=some s1.abs:=by
          unfold topFrom
          rw [b1,b2,la,r]
          show (match staticsOk (importedModules p.main.body) s.heap s1.abs.heap && namesBound p s1.abs.heap && gensDone s1.abs && laidKept s.heap s1.abs.heap with | true=>_ | false=>_)=_
          rw [l2]
        rw [tf]
        refine congrArg some (Prod.ext l3 ?_)
        show as.map s1.abs.heap.get?=(K w.params).map fun p=>some p.2
        rw [← l4]
        refine List.map_congr_left fun a ha=>?_
        have key:∀ (l:List Addr) (k:List Obj),(l.map fun a=>match Nat.blt a s1.n with | true=>(s1.tree.get a).bind alive | false=>none)=k.map some→∀ a∈l,∃ o,(match Nat.blt a s1.n with | true=>(s1.tree.get a).bind alive | false=>none)=some o:=fun l=>by
          induction l with
          | nil=>intro k _ a m;cases m
          | cons x l ih =>
            intro k h a m
            cases k with
            | nil=>cases h
            | cons y k =>
              obtain ⟨h1,h2⟩:=List.cons.inj h
              rcases List.mem_cons.mp m with rfl | m
              · exact ⟨y,h1⟩
              · exact ih k h2 a m
        obtain ⟨o,ho⟩:=key as ((K w.params).map (·.2)) (by rw [l4,List.map_map];rfl) a ha
        rw [ho,get_tree ho]
      · cases l
    · cases l
end T
open PySem PySem.W PyProof.Rows
namespace T
noncomputable abbrev pw:Program:=PySem.Challenge.pw_np0143_01
noncomputable def nth:List Stmt→Nat→Stmt
  | [],_=>.Pass default
  | s::r,n=>Nat.rec s (fun n _=>nth r n) n
noncomputable def tA (i:Nat):Stmt:=nth pw.main.body i
noncomputable def mA (i j:Nat):Stmt:=match tA i with
  | .ClassDef _ _ _ b _ _ _ _ _ _ _=>nth b j
  | s=>s
noncomputable def fnO (s:Stmt) (q:Str) (dV pm:Value) (c:Addr):Obj:=match s with
  | .FunctionDef n a b _ _ _ sc _ _ _=>{cls:=.type "function",data:=.func {name:=n,qualname:=q,params:=a,body:=.stmts b,scope:=sc,globals:=3,closure:=[],defaults:=dV,kwdefaults:=.none,pyModule:=pm,code:=.ref c}}
  | _=>default
noncomputable def vs (x:Str) (t:Nat):Value:=.str x t
noncomputable def coO (n:Str) (t:Nat) (q:Str) (l ac po fl:Int) (a b c d e:Addr) (x:Int) (y:Nat):Obj:={cls:=.type "code",data:=.fields #[.str n t,.str q (t+1),.str "/claim/cut.py" (t+2),.int l 0,.int ac 0,.int po 0,.int 0 0,.int 3 0,.ref a,.bool true,.int fl 0,.ref b,.none,.ref c,.ref d,.ref e,.int x 0,.int l 0,.str "/claim/cut.py" y]}
noncomputable def de (P:Params) (k:Str) (t:Nat) (v:Value):DictEntry:=⟨PyData.keyHash P k,.str k t,v⟩
noncomputable def KP (P:Params):Frag:=[
  (2,{cls:=.none,data:=.dict #[de P "type.__subclasses__.Exception.0" 221 (.int 38 0),de P "type.__subclasses__.Exception.n" 222 (.int 2 0),de P "type.__subclasses__.Exception.1" 297 (.int 84 0)] 3}),
  (3,{cls:=.type "dict",data:=.dict #[de P "__name__" 165 (vs "law_np0143_01" 1206),de P "__doc__" 166 (.none),de P "__package__" 167 (.none),de P "__loader__" 168 (.builtin "__main__.__loader__#opaque"),de P "__spec__" 169 (.none),de P "__annotations__" 170 (.ref 6),de P "__builtins__" 171 (.ref 4),de P "__file__" 173 (vs "/claim/cut.py" 172),de P "__cached__" 174 (.none),de P "_wall" 193 (.ref 21),de P "TclFault" 224 (.ref 38),de P "Misused" 240 (.ref 51),de P "OutOfFuel" 256 (.ref 63),de P "Raised" 300 (.ref 84),de P "Nest" 336 (.ref 105),de P "Pause" 367 (.ref 126),de P "error" 376 (.ref 139),de P "cut" 384 (.ref 146),de P "note" 392 (.ref 153),de P "note_row" 400 (.ref 160),de P "end_return" 407 (.ref 167),de P "end_proc" 417 (.ref 174),de P "Act" 455 (.ref 191),de P "taker" 471 (.ref 202),de P "note_source" 483 (.ref 209),de P "Machine" 619 (.ref 296),de P "run_code" 631 (.ref 307),de P "Code" 670 (.ref 324),de P "Var" 705 (.ref 345),de P "Host" 819 (.ref 430),de P "no_variable" 828 (.ref 441),de P "var_in" 836 (.ref 448),de P "put_value" 845 (.ref 455),de P "elements_in" 855 (.ref 462),de P "pair_of" 862 (.ref 469),de P "act" 872 (.ref 476),de P "SmallHost" 1026 (.ref 593),de P "set_slot" 1038 (.ref 602),de P "taken" 1048 (.ref 609),de P "op_push" 1058 (.ref 616),de P "op_pop" 1068 (.ref 623),de P "op_load" 1078 (.ref 630),de P "op_load_name" 1088 (.ref 637),de P "op_load_element" 1098 (.ref 644),de P "op_store" 1109 (.ref 651),de P "op_store_name" 1119 (.ref 658),de P "op_store_element" 1131 (.ref 665),de P "op_join" 1142 (.ref 672),de P "call" 1150 (.ref 679),de P "op_invoke" 1160 (.ref 686),de P "go" 1169 (.ref 693),de P "op_start" 1179 (.ref 700),de P "op_jump" 1189 (.ref 707),de P "op_fail" 1199 (.ref 714),de P "plain_ops" 1205 (.ref 721),de P "_law_digit" 1215 (.ref 728),de P "_law_names" 1221 (.ref 735),de P "_law_items" 1237 (.ref 742),de P "_law_deeds" 1248 (.ref 749),de P "_law_rows" 1259 (.ref 756),de P "_law_maker" 1272 (.ref 763),de P "_law_idle" 1280 (.ref 770),de P "_law_deed" 1296 (.ref 777),de P "_law_source" 1307 (.ref 784),de P "_law_change" 1316 (.ref 791),de P "_law_run" 1325 (.ref 798),de P "_law_asked" 1335 (.ref 805),de P "_law_call" 1349 (.ref 812),de P "_law_play" 1363 (.ref 819),de P "_law_calls" 1372 (.ref 826),de P "_law_round" 1399 (.ref 833),de P "law" 1406 (.ref 840)] 72}),
  (37,{cls:=.type "dict",data:=.dict #[de P "__module__" 203 (vs "tclcore.faults" 194),de P "__firstlineno__" 207 (.int 5 206),de P "__init__" 215 (.ref 35),de P "__static_attributes__" 217 (.ref 36),de P "__weakref__" 219 (.ref 39),de P "__doc__" 220 (.none)] 3}),
  (38,{cls:=.type "type",data:=.cls {name:=Str.ofString "TclFault",bases:=[.type "Exception"],mro:=[.ref 38,.type "Exception",.type "BaseException",.type "object"],ns:=37,qualname:=Str.ofString "TclFault",subclasses:=[.ref 51,.ref 63]},slots:=#[some (.ref 22),none,some (vs "TclFault" 196),some (vs "TclFault" 204),some (.builtin "Exception.__new__"),some (.bool true)]}),
  (39,{cls:=.type "getset_descriptor",data:=.fields #[vs "__weakref__" 218,.ref 38,.builtin "ExceptionGroup.__weakref__",.none]}),
  (50,{cls:=.type "dict",data:=.dict #[de P "__module__" 232 (vs "tclcore.faults" 194),de P "__firstlineno__" 236 (.int 10 235),de P "__static_attributes__" 237 (.ref 49),de P "__doc__" 238 (.none)] 2}),
  (51,{cls:=.type "type",data:=.cls {name:=Str.ofString "Misused",bases:=[.ref 38],mro:=[.ref 51,.ref 38,.type "Exception",.type "BaseException",.type "object"],ns:=50,qualname:=Str.ofString "Misused" },slots:=#[some (.ref 42),none,some (vs "Misused" 225),some (vs "Misused" 233),some (.builtin "Exception.__new__"),some (.bool true)]}),
  (62,{cls:=.type "dict",data:=.dict #[de P "__module__" 248 (vs "tclcore.faults" 194),de P "__firstlineno__" 252 (.int 12 251),de P "__static_attributes__" 253 (.ref 61),de P "__doc__" 254 (.none)] 2}),
  (63,{cls:=.type "type",data:=.cls {name:=Str.ofString "OutOfFuel",bases:=[.ref 38],mro:=[.ref 63,.ref 38,.type "Exception",.type "BaseException",.type "object"],ns:=62,qualname:=Str.ofString "OutOfFuel" },slots:=#[some (.ref 54),none,some (vs "OutOfFuel" 241),some (vs "OutOfFuel" 249),some (.builtin "Exception.__new__"),some (.bool true)]}),
  (74,{cls:=.type "tuple",data:=.seq #[.ref 73,.int 0 270,.int 0 271]}),
  (80,coO "__init__" 272 "Raised.__init__" 16 6 0 181 75 76 77 78 79 281 282),
  (81,fnO (mA 5 0) "Raised.__init__" (.ref 74) (vs "tclcore.faults" 194) 80),
  (83,{cls:=.type "dict",data:=.dict #[de P "__module__" 264 (vs "tclcore.faults" 194),de P "__firstlineno__" 268 (.int 14 267),de P "__init__" 283 (.ref 81),de P "__static_attributes__" 293 (.ref 82),de P "__weakref__" 295 (.ref 85),de P "__doc__" 296 (.none)] 3}),
  (84,{cls:=.type "type",data:=.cls {name:=Str.ofString "Raised",bases:=[.type "Exception"],mro:=[.ref 84,.type "Exception",.type "BaseException",.type "object"],ns:=83,qualname:=Str.ofString "Raised" },slots:=#[some (.ref 66),none,some (vs "Raised" 257),some (vs "Raised" 265),some (.builtin "Exception.__new__"),some (.bool true)]}),
  (85,{cls:=.type "getset_descriptor",data:=.fields #[vs "__weakref__" 294,.ref 84,.builtin "ExceptionGroup.__weakref__",.none]}),
  (95,{cls:=.type "tuple",data:=.seq #[.none,.bool false,vs "" 313]}),
  (101,coO "__init__" 314 "Nest.__init__" 29 5 0 181 96 97 98 99 100 322 323),
  (102,fnO (mA 6 0) "Nest.__init__" (.ref 95) (vs "tclcore.faults" 194) 101),
  (104,{cls:=.type "dict",data:=.dict #[de P "__module__" 308 (vs "tclcore.faults" 194),de P "__firstlineno__" 312 (.int 27 311),de P "__init__" 324 (.ref 102),de P "__static_attributes__" 329 (.ref 103),de P "__dict__" 331 (.ref 106),de P "__weakref__" 333 (.ref 107),de P "__doc__" 334 (.none)] 4}),
  (105,{cls:=.type "type",data:=.cls {name:=Str.ofString "Nest",bases:=[.type "object"],mro:=[.ref 105,.type "object"],ns:=104,qualname:=Str.ofString "Nest" },slots:=#[none,none,some (vs "Nest" 301),some (vs "Nest" 309),some (.builtin "object.__new__"),some (.bool true)]}),
  (106,{cls:=.type "getset_descriptor",data:=.fields #[vs "__dict__" 330,.ref 105,.builtin "function.__dict__",.builtin "function.__dict__#set"]}),
  (107,{cls:=.type "getset_descriptor",data:=.fields #[vs "__weakref__" 332,.ref 105,.builtin "ExceptionGroup.__weakref__",.none]}),
  (125,{cls:=.type "dict",data:=.dict #[de P "__module__" 344 (vs "tclcore.faults" 194),de P "__firstlineno__" 348 (.int 34 347),de P "__init__" 357 (.ref 123),de P "__static_attributes__" 360 (.ref 124),de P "__dict__" 362 (.ref 127),de P "__weakref__" 364 (.ref 128),de P "__doc__" 365 (.none)] 4}),
  (126,{cls:=.type "type",data:=.cls {name:=Str.ofString "Pause",bases:=[.type "object"],mro:=[.ref 126,.type "object"],ns:=125,qualname:=Str.ofString "Pause" },slots:=#[none,none,some (vs "Pause" 337),some (vs "Pause" 345),some (.builtin "object.__new__"),some (.bool true)]}),
  (127,{cls:=.type "getset_descriptor",data:=.fields #[vs "__dict__" 361,.ref 126,.builtin "function.__dict__",.builtin "function.__dict__#set"]}),
  (128,{cls:=.type "getset_descriptor",data:=.fields #[vs "__weakref__" 363,.ref 126,.builtin "ExceptionGroup.__weakref__",.none]}),
  (132,{cls:=.type "tuple",data:=.seq #[.ref 131]}),
  (138,coO "error" 369 "error" 39 2 0 181 133 134 135 136 137 374 375),
  (139,fnO (tA 8) "error" (.ref 132) (vs "tclcore.faults" 194) 138),
  (145,coO "cut" 377 "cut" 41 2 0 181 140 141 142 143 144 382 383),
  (146,fnO (tA 9) "cut" (.none) (vs "tclcore.faults" 194) 145),
  (152,coO "note" 385 "note" 45 2 0 181 147 148 149 150 151 390 391),
  (153,fnO (tA 10) "note" (.none) (vs "tclcore.faults" 194) 152),
  (159,coO "note_row" 393 "note_row" 53 2 0 181 154 155 156 157 158 398 399),
  (160,fnO (tA 11) "note_row" (.none) (vs "tclcore.faults" 194) 159),
  (166,coO "end_return" 401 "end_return" 60 1 0 181 161 162 163 164 165 405 406),
  (167,fnO (tA 12) "end_return" (.none) (vs "tclcore.faults" 194) 166),
  (173,coO "end_proc" 408 "end_proc" 68 2 0 181 168 169 170 171 172 415 416),
  (174,fnO (tA 13) "end_proc" (.none) (vs "tclcore.faults" 194) 173),
  (187,coO "__init__" 432 "Act.__init__" 85 3 0 181 182 183 184 185 186 438 439),
  (188,fnO (mA 15 0) "Act.__init__" (.none) (vs "tclcore.machine" 418) 187),
  (190,{cls:=.type "dict",data:=.dict #[de P "__module__" 427 (vs "tclcore.machine" 418),de P "__firstlineno__" 431 (.int 83 430),de P "__init__" 440 (.ref 188),de P "__static_attributes__" 448 (.ref 189),de P "__dict__" 450 (.ref 192),de P "__weakref__" 452 (.ref 193),de P "__doc__" 453 (.none)] 4}),
  (191,{cls:=.type "type",data:=.cls {name:=Str.ofString "Act",bases:=[.type "object"],mro:=[.ref 191,.type "object"],ns:=190,qualname:=Str.ofString "Act" },slots:=#[none,none,some (vs "Act" 420),some (vs "Act" 428),some (.builtin "object.__new__"),some (.bool true)]}),
  (192,{cls:=.type "getset_descriptor",data:=.fields #[vs "__dict__" 449,.ref 191,.builtin "function.__dict__",.builtin "function.__dict__#set"]}),
  (193,{cls:=.type "getset_descriptor",data:=.fields #[vs "__weakref__" 451,.ref 191,.builtin "ExceptionGroup.__weakref__",.none]}),
  (201,coO "taker" 456 "taker" 93 3 0 181 196 197 198 199 200 469 470),
  (202,fnO (tA 16) "taker" (.none) (vs "tclcore.machine" 418) 201),
  (208,coO "note_source" 472 "note_source" 100 2 0 181 203 204 205 206 207 481 482),
  (209,fnO (tA 17) "note_source" (.none) (vs "tclcore.machine" 418) 208),
  (222,coO "__init__" 496 "Machine.__init__" 108 4 0 181 217 218 219 220 221 503 504),
  (223,fnO (mA 18 0) "Machine.__init__" (.none) (vs "tclcore.machine" 418) 222),
  (229,coO "code_for" 506 "Machine.code_for" 118 3 0 181 224 225 226 227 228 514 515),
  (230,fnO (mA 18 1) "Machine.code_for" (.none) (vs "tclcore.machine" 418) 229),
  (236,coO "enter" 517 "Machine.enter" 126 2 0 181 231 232 233 234 235 522 523),
  (237,fnO (mA 18 2) "Machine.enter" (.none) (vs "tclcore.machine" 418) 236),
  (243,coO "drop" 525 "Machine.drop" 132 1 0 181 238 239 240 241 242 529 530),
  (244,fnO (mA 18 3) "Machine.drop" (.none) (vs "tclcore.machine" 418) 243),
  (250,coO "give" 532 "Machine.give" 135 2 0 181 245 246 247 248 249 537 538),
  (251,fnO (mA 18 4) "Machine.give" (.none) (vs "tclcore.machine" 418) 250),
  (257,coO "leave" 540 "Machine.leave" 142 2 0 181 252 253 254 255 256 545 546),
  (258,fnO (mA 18 5) "Machine.leave" (.none) (vs "tclcore.machine" 418) 257),
  (264,coO "take" 548 "Machine.take" 146 2 0 181 259 260 261 262 263 554 555),
  (265,fnO (mA 18 6) "Machine.take" (.none) (vs "tclcore.machine" 418) 264),
  (271,coO "go_on" 557 "Machine.go_on" 158 4 0 181 266 267 268 269 270 570 571),
  (272,fnO (mA 18 7) "Machine.go_on" (.none) (vs "tclcore.machine" 418) 271),
  (278,coO "unwind" 573 "Machine.unwind" 169 2 0 181 273 274 275 276 277 581 582),
  (279,fnO (mA 18 8) "Machine.unwind" (.none) (vs "tclcore.machine" 418) 278),
  (285,coO "step" 584 "Machine.step" 186 1 0 181 280 281 282 283 284 593 594),
  (286,fnO (mA 18 9) "Machine.step" (.none) (vs "tclcore.machine" 418) 285),
  (292,coO "run" 596 "Machine.run" 201 1 0 181 287 288 289 290 291 601 602),
  (293,fnO (mA 18 10) "Machine.run" (.none) (vs "tclcore.machine" 418) 292),
  (295,{cls:=.type "dict",data:=.dict #[de P "__module__" 491 (vs "tclcore.machine" 418),de P "__firstlineno__" 495 (.int 106 494),de P "__init__" 505 (.ref 223),de P "code_for" 516 (.ref 230),de P "enter" 524 (.ref 237),de P "drop" 531 (.ref 244),de P "give" 539 (.ref 251),de P "leave" 547 (.ref 258),de P "take" 556 (.ref 265),de P "go_on" 572 (.ref 272),de P "unwind" 583 (.ref 279),de P "step" 595 (.ref 286),de P "run" 603 (.ref 293),de P "__static_attributes__" 612 (.ref 294),de P "__dict__" 614 (.ref 297),de P "__weakref__" 616 (.ref 298),de P "__doc__" 617 (.none)] 4}),
  (296,{cls:=.type "type",data:=.cls {name:=Str.ofString "Machine",bases:=[.type "object"],mro:=[.ref 296,.type "object"],ns:=295,qualname:=Str.ofString "Machine" },slots:=#[none,none,some (vs "Machine" 484),some (vs "Machine" 492),some (.builtin "object.__new__"),some (.bool true)]}),
  (297,{cls:=.type "getset_descriptor",data:=.fields #[vs "__dict__" 613,.ref 296,.builtin "function.__dict__",.builtin "function.__dict__#set"]}),
  (298,{cls:=.type "getset_descriptor",data:=.fields #[vs "__weakref__" 615,.ref 296,.builtin "ExceptionGroup.__weakref__",.none]}),
  (306,coO "run_code" 620 "run_code" 214 2 0 181 301 302 303 304 305 629 630),
  (307,fnO (tA 19) "run_code" (.none) (vs "tclcore.machine" 418) 306),
  (320,coO "__init__" 646 "Code.__init__" 230 6 0 181 315 316 317 318 319 655 656),
  (321,fnO (mA 21 0) "Code.__init__" (.none) (vs "tclcore.compcore" 632) 320),
  (323,{cls:=.type "dict",data:=.dict #[de P "__module__" 641 (vs "tclcore.compcore" 632),de P "__firstlineno__" 645 (.int 228 644),de P "__init__" 657 (.ref 321),de P "__static_attributes__" 663 (.ref 322),de P "__dict__" 665 (.ref 325),de P "__weakref__" 667 (.ref 326),de P "__doc__" 668 (.none)] 4}),
  (324,{cls:=.type "type",data:=.cls {name:=Str.ofString "Code",bases:=[.type "object"],mro:=[.ref 324,.type "object"],ns:=323,qualname:=Str.ofString "Code" },slots:=#[none,none,some (vs "Code" 634),some (vs "Code" 642),some (.builtin "object.__new__"),some (.bool true)]}),
  (325,{cls:=.type "getset_descriptor",data:=.fields #[vs "__dict__" 664,.ref 324,.builtin "function.__dict__",.builtin "function.__dict__#set"]}),
  (326,{cls:=.type "getset_descriptor",data:=.fields #[vs "__weakref__" 666,.ref 324,.builtin "ExceptionGroup.__weakref__",.none]}),
  (344,{cls:=.type "dict",data:=.dict #[de P "__module__" 680 (vs "tclcore.spaces" 671),de P "__firstlineno__" 684 (.int 237 683),de P "__init__" 691 (.ref 342),de P "__static_attributes__" 698 (.ref 343),de P "__dict__" 700 (.ref 346),de P "__weakref__" 702 (.ref 347),de P "__doc__" 703 (.none)] 4}),
  (345,{cls:=.type "type",data:=.cls {name:=Str.ofString "Var",bases:=[.type "object"],mro:=[.ref 345,.type "object"],ns:=344,qualname:=Str.ofString "Var" },slots:=#[none,none,some (vs "Var" 673),some (vs "Var" 681),some (.builtin "object.__new__"),some (.bool true)]}),
  (346,{cls:=.type "getset_descriptor",data:=.fields #[vs "__dict__" 699,.ref 345,.builtin "function.__dict__",.builtin "function.__dict__#set"]}),
  (347,{cls:=.type "getset_descriptor",data:=.fields #[vs "__weakref__" 701,.ref 345,.builtin "ExceptionGroup.__weakref__",.none]}),
  (357,{cls:=.type "tuple",data:=.seq #[.int 40 720,.none]}),
  (363,coO "__init__" 721 "Host.__init__" 249 3 0 181 358 359 360 361 362 727 728),
  (364,fnO (mA 25 0) "Host.__init__" (.ref 357) (vs "tclcore.host" 706) 363),
  (370,coO "tool" 730 "Host.tool" 260 2 0 181 365 366 367 368 369 735 736),
  (371,fnO (mA 25 1) "Host.tool" (.none) (vs "tclcore.host" 706) 370),
  (377,coO "spend" 738 "Host.spend" 265 1 0 181 372 373 374 375 376 742 743),
  (378,fnO (mA 25 2) "Host.spend" (.none) (vs "tclcore.host" 706) 377),
  (384,coO "where" 745 "Host.where" 270 1 0 181 379 380 381 382 383 749 750),
  (385,fnO (mA 25 3) "Host.where" (.none) (vs "tclcore.host" 706) 384),
  (391,coO "run" 752 "Host.run" 273 2 0 181 386 387 388 389 390 758 759),
  (392,fnO (mA 25 4) "Host.run" (.none) (vs "tclcore.host" 706) 391),
  (405,coO "call" 769 "Host.call" 286 2 0 181 400 401 402 403 404 775 776),
  (406,fnO (mA 25 6) "Host.call" (.none) (vs "tclcore.host" 706) 405),
  (412,coO "finish" 778 "Host.finish" 296 2 0 181 407 408 409 410 411 784 785),
  (413,fnO (mA 25 7) "Host.finish" (.none) (vs "tclcore.host" 706) 412),
  (419,coO "leave" 787 "Host.leave" 306 2 0 181 414 415 416 417 418 792 793),
  (420,fnO (mA 25 8) "Host.leave" (.none) (vs "tclcore.host" 706) 419),
  (429,{cls:=.type "dict",data:=.dict #[de P "__module__" 715 (vs "tclcore.host" 706),de P "__firstlineno__" 719 (.int 247 718),de P "__init__" 729 (.ref 364),de P "tool" 737 (.ref 371),de P "spend" 744 (.ref 378),de P "where" 751 (.ref 385),de P "run" 760 (.ref 392),de P "run_global" 768 (.ref 399),de P "call" 777 (.ref 406),de P "finish" 786 (.ref 413),de P "leave" 794 (.ref 420),de P "outcome" 802 (.ref 427),de P "__static_attributes__" 812 (.ref 428),de P "__dict__" 814 (.ref 431),de P "__weakref__" 816 (.ref 432),de P "__doc__" 817 (.none)] 4}),
  (430,{cls:=.type "type",data:=.cls {name:=Str.ofString "Host",bases:=[.type "object"],mro:=[.ref 430,.type "object"],ns:=429,qualname:=Str.ofString "Host",subclasses:=[.ref 593]},slots:=#[none,none,some (vs "Host" 708),some (vs "Host" 716),some (.builtin "object.__new__"),some (.bool true)]}),
  (431,{cls:=.type "getset_descriptor",data:=.fields #[vs "__dict__" 813,.ref 430,.builtin "function.__dict__",.builtin "function.__dict__#set"]}),
  (432,{cls:=.type "getset_descriptor",data:=.fields #[vs "__weakref__" 815,.ref 430,.builtin "ExceptionGroup.__weakref__",.none]}),
  (468,coO "pair_of" 856 "pair_of" 330 1 0 181 463 464 465 466 467 860 861),
  (469,fnO (tA 30) "pair_of" (.none) (vs "tclcore.host" 706) 468),
  (475,coO "act" 863 "act" 334 4 0 181 470 471 472 473 474 870 871),
  (476,fnO (tA 31) "act" (.none) (vs "tclcore.host" 706) 475),
  (484,{cls:=.type "tuple",data:=.seq #[.int 40 885,.none]}),
  (490,coO "__init__" 886 "SmallHost.__init__" 340 3 0 181 485 486 487 488 489 892 893),
  (491,fnO (mA 32 0) "SmallHost.__init__" (.ref 484) (vs "tclcore.host" 706) 490),
  (555,{cls:=.type "tuple",data:=.seq #[.none]}),
  (561,coO "put" 973 "SmallHost.put" 378 4 0 181 556 557 558 559 560 980 981),
  (562,fnO (mA 32 10) "SmallHost.put" (.ref 555) (vs "tclcore.host" 706) 561),
  (568,coO "remove" 983 "SmallHost.remove" 382 2 0 181 563 564 565 566 567 988 989),
  (569,fnO (mA 32 11) "SmallHost.remove" (.none) (vs "tclcore.host" 706) 568),
  (575,coO "add" 991 "SmallHost.add" 388 2 0 181 570 571 572 573 574 999 1000),
  (576,fnO (mA 32 12) "SmallHost.add" (.none) (vs "tclcore.host" 706) 575),
  (582,coO "is_first" 1002 "SmallHost.is_first" 394 2 0 181 577 578 579 580 581 1007 1008),
  (583,fnO (mA 32 13) "SmallHost.is_first" (.none) (vs "tclcore.host" 706) 582),
  (589,coO "begin" 1010 "SmallHost.begin" 397 2 0 181 584 585 586 587 588 1017 1018),
  (590,fnO (mA 32 14) "SmallHost.begin" (.none) (vs "tclcore.host" 706) 589),
  (592,{cls:=.type "dict",data:=.dict #[de P "__module__" 880 (vs "tclcore.host" 706),de P "__firstlineno__" 884 (.int 338 883),de P "__init__" 894 (.ref 491),de P "has" 902 (.ref 498),de P "place" 910 (.ref 505),de P "read_var" 919 (.ref 512),de P "write_var" 929 (.ref 519),de P "read" 937 (.ref 526),de P "write" 946 (.ref 533),de P "drop" 954 (.ref 540),de P "stamp" 962 (.ref 547),de P "array" 972 (.ref 554),de P "put" 982 (.ref 562),de P "remove" 990 (.ref 569),de P "add" 1001 (.ref 576),de P "is_first" 1009 (.ref 583),de P "begin" 1019 (.ref 590),de P "__static_attributes__" 1023 (.ref 591),de P "__doc__" 1024 (.none)] 2}),
  (593,{cls:=.type "type",data:=.cls {name:=Str.ofString "SmallHost",bases:=[.ref 430],mro:=[.ref 593,.ref 430,.type "object"],ns:=592,qualname:=Str.ofString "SmallHost" },slots:=#[some (.ref 477),none,some (vs "SmallHost" 873),some (vs "SmallHost" 881),some (.builtin "object.__new__"),some (.bool true)]}),
  (608,coO "taken" 1039 "taken" 408 2 0 181 603 604 605 606 607 1046 1047),
  (609,fnO (tA 35) "taken" (.none) (vs "tclcore.ops" 1027) 608),
  (615,coO "op_push" 1049 "op_push" 413 4 0 181 610 611 612 613 614 1056 1057),
  (616,fnO (tA 36) "op_push" (.none) (vs "tclcore.ops" 1027) 615),
  (671,coO "op_join" 1132 "op_join" 431 4 0 181 666 667 668 669 670 1140 1141),
  (672,fnO (tA 44) "op_join" (.none) (vs "tclcore.ops" 1027) 671),
  (678,coO "call" 1143 "call" 434 2 0 181 673 674 675 676 677 1148 1149),
  (679,fnO (tA 45) "call" (.none) (vs "tclcore.ops" 1027) 678),
  (685,coO "op_invoke" 1151 "op_invoke" 439 4 0 181 680 681 682 683 684 1158 1159),
  (686,fnO (tA 46) "op_invoke" (.none) (vs "tclcore.ops" 1027) 685),
  (699,coO "op_start" 1170 "op_start" 445 4 0 181 694 695 696 697 698 1177 1178),
  (700,fnO (tA 48) "op_start" (.none) (vs "tclcore.ops" 1027) 699),
  (720,coO "plain_ops" 1200 "plain_ops" 459 0 0 181 715 716 717 718 719 1203 1204),
  (721,fnO (tA 51) "plain_ops" (.none) (vs "tclcore.ops" 1027) 720),
  (727,coO "_law_digit" 1208 "_law_digit" 462 2 0 181 722 723 724 725 726 1213 1214),
  (728,fnO (tA 53) "_law_digit" (.none) (vs "law_np0143_01" 1206) 727),
  (734,coO "_law_names" 1216 "_law_names" 464 0 0 181 729 730 731 732 733 1219 1220),
  (735,fnO (tA 54) "_law_names" (.none) (vs "law_np0143_01" 1206) 734),
  (741,coO "_law_items" 1222 "_law_items" 466 5 0 181 736 737 738 739 740 1235 1236),
  (742,fnO (tA 55) "_law_items" (.none) (vs "law_np0143_01" 1206) 741),
  (748,coO "_law_deeds" 1238 "_law_deeds" 482 2 0 181 743 744 745 746 747 1246 1247),
  (749,fnO (tA 56) "_law_deeds" (.none) (vs "law_np0143_01" 1206) 748),
  (755,coO "_law_rows" 1249 "_law_rows" 488 3 0 181 750 751 752 753 754 1257 1258),
  (756,fnO (tA 57) "_law_rows" (.none) (vs "law_np0143_01" 1206) 755),
  (762,coO "_law_maker" 1260 "_law_maker" 503 3 0 181 757 758 759 760 761 1270 1271),
  (763,fnO (tA 58) "_law_maker" (.none) (vs "law_np0143_01" 1206) 762),
  (769,coO "_law_idle" 1273 "_law_idle" 510 2 0 181 764 765 766 767 768 1278 1279),
  (770,fnO (tA 59) "_law_idle" (.none) (vs "law_np0143_01" 1206) 769),
  (776,coO "_law_deed" 1281 "_law_deed" 512 3 0 181 771 772 773 774 775 1294 1295),
  (777,fnO (tA 60) "_law_deed" (.none) (vs "law_np0143_01" 1206) 776),
  (783,coO "_law_source" 1297 "_law_source" 526 2 0 181 778 779 780 781 782 1305 1306),
  (784,fnO (tA 61) "_law_source" (.none) (vs "law_np0143_01" 1206) 783),
  (790,coO "_law_change" 1308 "_law_change" 537 3 0 181 785 786 787 788 789 1314 1315),
  (791,fnO (tA 62) "_law_change" (.none) (vs "law_np0143_01" 1206) 790),
  (797,coO "_law_run" 1317 "_law_run" 541 2 0 181 792 793 794 795 796 1323 1324),
  (798,fnO (tA 63) "_law_run" (.none) (vs "law_np0143_01" 1206) 797),
  (804,coO "_law_asked" 1326 "_law_asked" 551 3 0 181 799 800 801 802 803 1333 1334),
  (805,fnO (tA 64) "_law_asked" (.none) (vs "law_np0143_01" 1206) 804),
  (811,coO "_law_call" 1336 "_law_call" 557 3 0 181 806 807 808 809 810 1347 1348),
  (812,fnO (tA 65) "_law_call" (.none) (vs "law_np0143_01" 1206) 811),
  (818,coO "_law_play" 1350 "_law_play" 571 4 0 181 813 814 815 816 817 1361 1362),
  (819,fnO (tA 66) "_law_play" (.none) (vs "law_np0143_01" 1206) 818),
  (825,coO "_law_calls" 1364 "_law_calls" 591 2 0 181 820 821 822 823 824 1370 1371),
  (826,fnO (tA 67) "_law_calls" (.none) (vs "law_np0143_01" 1206) 825),
  (832,coO "_law_round" 1373 "_law_round" 596 3 0 181 827 828 829 830 831 1397 1398),
  (833,fnO (tA 68) "_law_round" (.none) (vs "law_np0143_01" 1206) 832),
  (839,coO "law" 1400 "law" 638 1 0 181 834 835 836 837 838 1404 1405),
  (840,fnO (tA 69) "law" (.none) (vs "law_np0143_01" 1206) 839)]
noncomputable def asK:List Addr:=[2,3,37,38,39,50,51,62,63,74,80,81,83,84,85,95,101,102,104,105,106,107,125,126,127,128,132,138,139,145,146,152,153,159,160,166,167,173,174,187,188,190,191,192,193,201,202,208,209,222,223,229,230,236,237,243,244,250,251,257,258,264,265,271,272,278,279,285,286,292,293,295,296,297,298,306,307,320,321,323,324,325,326,344,345,346,347,357,363,364,370,371,377,378,384,385,391,392,405,406,412,413,419,420,429,430,431,432,468,469,475,476,484,490,491,555,561,562,568,569,575,576,582,583,589,590,592,593,608,609,615,616,671,672,678,679,685,686,699,700,720,721,727,728,734,735,741,742,748,749,755,756,762,763,769,770,776,777,783,784,790,791,797,798,804,805,811,812,818,819,825,826,832,833,839,840]
end T
namespace T
theorem all_cons {α:Type} {Q:α→Prop} {a:α} {l:List α} (h:Q a) (t:∀ x∈l,Q x):∀ x∈a::l,Q x:=fun x m=>(List.mem_cons.mp m).elim (fun e=>e▸h) (t x)
theorem all_nil {α:Type} {Q:α→Prop}:∀ x∈([]:List α),Q x:=fun x m=>nomatch m
theorem all_app {α:Type} {Q:α→Prop} {a b:List α} (h:∀ x∈a,Q x) (k:∀ x∈b,Q x):∀ x∈a++b,Q x:=fun x m=>(List.mem_append.mp m).elim (h x) (k x)
theorem all_map {α β:Type} {Q:β→Prop} {f:α→β} {l:List α} (h:∀ a∈l,Q (f a)):∀ x∈l.map f,Q x:=fun x m=>let ⟨a,m,e⟩:=List.mem_map.mp m;e▸h a m
theorem map_at {α β:Type} {f h:α→β} {l:List α} (e:l.map f=l.map h) (a:α) (m:a∈l):f a=h a:=List.map_inj_left.mp e a m
noncomputable def fnT:List (Addr × List AV):=[(81,[.any,.int 0,.int 0]),(102,[.none,.bool false,.str ⟨⟨[]⟩⟩]),(139,[.any]),(364,[.int 40,.none]),(491,[.int 40,.none]),(562,[.none])]++[146,153,160,167,174,188,202,209,223,230,237,244,251,258,265,272,279,286,293,307,321,371,378,385,392,406,413,420,469,476,569,576,583,590,609,616,672,679,686,700,721,728,735,742,749,756,763,770,777,784,791,798,805,812,819,826,833,840].map fun a=>(a,[])
noncomputable def tFns (P:Params):List FnE:=fnT.map fun q=>getF (KP P) q.1 q.2
noncomputable def glA:List (Str × Addr):=[(sOf [82,97,105,115,101,100],84),(sOf [78,101,115,116],105),(sOf [80,97,117,115,101],126),(sOf [101,114,114,111,114],139),(sOf [99,117,116],146),(sOf [110,111,116,101],153),(sOf [110,111,116,101,95,114,111,119],160),(sOf [101,110,100,95,114,101,116,117,114,110],167),(sOf [101,110,100,95,112,114,111,99],174),(sOf [65,99,116],191),(sOf [116,97,107,101,114],202),(sOf [110,111,116,101,95,115,111,117,114,99,101],209),(sOf [77,97,99,104,105,110,101],296),(sOf [114,117,110,95,99,111,100,101],307),(sOf [67,111,100,101],324),(sOf [72,111,115,116],430),(sOf [112,97,105,114,95,111,102],469),(sOf [97,99,116],476),(sOf [83,109,97,108,108,72,111,115,116],593),(sOf [116,97,107,101,110],609),(sOf [111,112,95,112,117,115,104],616),(sOf [111,112,95,112,111,112],623),(sOf [111,112,95,108,111,97,100],630),(sOf [111,112,95,108,111,97,100,95,110,97,109,101],637),(sOf [111,112,95,108,111,97,100,95,101,108,101,109,101,110,116],644),(sOf [111,112,95,115,116,111,114,101],651),(sOf [111,112,95,115,116,111,114,101,95,110,97,109,101],658),(sOf [111,112,95,115,116,111,114,101,95,101,108,101,109,101,110,116],665),(sOf [111,112,95,106,111,105,110],672),(sOf [99,97,108,108],679),(sOf [111,112,95,105,110,118,111,107,101],686),(sOf [103,111],693),(sOf [111,112,95,115,116,97,114,116],700),(sOf [111,112,95,106,117,109,112],707),(sOf [111,112,95,102,97,105,108],714),(sOf [112,108,97,105,110,95,111,112,115],721),(sOf [95,108,97,119,95,100,105,103,105,116],728),(sOf [95,108,97,119,95,110,97,109,101,115],735),(sOf [95,108,97,119,95,105,116,101,109,115],742),(sOf [95,108,97,119,95,100,101,101,100,115],749),(sOf [95,108,97,119,95,114,111,119,115],756),(sOf [95,108,97,119,95,109,97,107,101,114],763),(sOf [95,108,97,119,95,105,100,108,101],770),(sOf [95,108,97,119,95,100,101,101,100],777),(sOf [95,108,97,119,95,115,111,117,114,99,101],784),(sOf [95,108,97,119,95,99,104,97,110,103,101],791),(sOf [95,108,97,119,95,114,117,110],798),(sOf [95,108,97,119,95,97,115,107,101,100],805),(sOf [95,108,97,119,95,99,97,108,108],812),(sOf [95,108,97,119,95,112,108,97,121],819),(sOf [95,108,97,119,95,99,97,108,108,115],826),(sOf [95,108,97,119,95,114,111,117,110,100],833)]
noncomputable def glB:List (Str × AV × Value):=[(sOf [108,101,110],.bi .len,.builtin "len"),(sOf [105,115,105,110,115,116,97,110,99,101],.bi .isinstance,.builtin "isinstance"),(sOf [109,97,120],.bi .max,.builtin "max"),(sOf [115,111,114,116,101,100],.bi .sorted,.builtin "sorted"),(sOf [115,116,114],.typ .str,.type "str"),(sOf [114,97,110,103,101],.typ .range,.type "range"),(sOf [69,120,99,101,112,116,105,111,110],.typ .exception,.type "Exception"),(sOf [116,117,112,108,101],.typ .tuple,.type "tuple")]
noncomputable def tGl:List (Str × AV):=glA.map (fun q=>(q.1,.ref q.2))++glB.map fun q=>(q.1,q.2.1)
noncomputable def ns296:List Str:=[sOf [104,111,115,116],sOf [111,112,115],sOf [109,97,107,101,114],sOf [97,99,116,115],sOf [98,111,111,107],sOf [112,97,117,115,101],sOf [115,116,101,112,115],sOf [116,101,120,116]]
noncomputable def ns191:List Str:=[sOf [99,111,100,101],sOf [110,101,115,116],sOf [112,99],sOf [115,116,97,99,107],sOf [115,108,111,116,115],sOf [101,97,99,104],sOf [99,97,117,103,104,116]]
noncomputable def ns324:List Str:=[sOf [114,111,119,115],sOf [114,97,110,103,101,115],sOf [110,97,109,101,115],sOf [115,111,117,114,99,101,115],sOf [101,112,111,99,104]]
noncomputable def ns593:List Str:=[sOf [116,111,111,108,115],sOf [105,110,108,105,110,101],sOf [108,105,109,105,116],sOf [102,117,101,108],sOf [100,101,112,116,104],sOf [115,112,101,110,116],sOf [101,112,111,99,104],sOf [102,114,97,109,101],sOf [99,111,114,111,117,116,105,110,101],sOf [118,97,114,115],sOf [99,111,109,109,97,110,100,115],sOf [102,105,114,115,116,115]]
noncomputable def ns105:List Str:=[sOf [115,99,114,105,112,116],sOf [98,97,99,107],sOf [105,115,95,112,114,111,99],sOf [108,97,98,101,108]]
noncomputable def nsX:List Str:=[sOf [99,111,100,101],sOf [118,97,108,117,101],sOf [101,114,114,111,114,99,111,100,101],sOf [108,101,118,101,108],sOf [114,101,116],sOf [105,110,102,111],sOf [105,115,95,110,111,116,101,100],sOf [108,105,110,101],sOf [101,120,116,114,97]]
noncomputable def at1 (C:Addr) (l:List Str):List (Addr × Str):=l.map fun n=>(C,n)
noncomputable def tAttrs:List (Addr × Str):=at1 296 ns296++(at1 191 ns191++(at1 324 ns324++(at1 593 ns593++(at1 105 ns105))))
noncomputable def tExcs:List (Addr × Addr × Str):=nsX.map fun n=>(84,81,n)
noncomputable def ms296:List (Str × Addr):=[(sOf [99,111,100,101,95,102,111,114],230),(sOf [101,110,116,101,114],237),(sOf [100,114,111,112],244),(sOf [103,105,118,101],251),(sOf [108,101,97,118,101],258),(sOf [116,97,107,101],265),(sOf [103,111,95,111,110],272),(sOf [117,110,119,105,110,100],279),(sOf [115,116,101,112],286),(sOf [114,117,110],293)]
noncomputable def ms593:List (Str × Addr):=[(sOf [116,111,111,108],371),(sOf [115,112,101,110,100],378),(sOf [119,104,101,114,101],385),(sOf [114,117,110],392),(sOf [99,97,108,108],406),(sOf [102,105,110,105,115,104],413),(sOf [108,101,97,118,101],420),(sOf [112,117,116],562),(sOf [114,101,109,111,118,101],569),(sOf [97,100,100],576),(sOf [105,115,95,102,105,114,115,116],583),(sOf [98,101,103,105,110],590)]
noncomputable def tMs:List (Addr × Str × Addr):=ms296.map (fun q=>(296,q.1,q.2))++ms593.map (fun q=>(593,q.1,q.2))
noncomputable def tMe:MeT:=⟨tMs,[(430,sInit,364)],[(296,sOf [109,97,107,101,114])]⟩
noncomputable def tIsi:IsT:=⟨[(105,105)],[105,126],[770]⟩
noncomputable def tKeep:List Addr:=[81,102,139,146,153,160,167,174,188,202,209,223,230,237,244,251,258,265,272,279,286,293,307,321,364,371,378,385,392,406,413,420,469,476,491,562,569,576,583,590,609,616,672,679,686,700,721,728,735,742,749,756,763,770,777,784,791,798,805,812,819,826,833,840,105,191,296,324,593,84]
noncomputable def tCls:List (Addr × Addr):=[(105,102),(191,188),(296,223),(324,321),(593,491)]
noncomputable def tabs (P:Params):Tabs:=⟨tGl,tFns P,tAttrs,tExcs,tMe,tIsi,tKeep,tCls,[(84,81)],[728,742,749,756,763,562,569,576,777,784,819,812,798,805,833,307,826],[207,472,489,573,616,627,631]⟩
section
variable (P:Params)
theorem fo1:fnT.map (fun q=>(shapeOf (KP P) q.1).isSome)=fnT.map fun _=>true:=by kernel_rfl
theorem fo2:fnT.map (fun q=>(KP P).lookup q.1)=fnT.map fun q=>shapeOf (KP P) q.1:=by kernel_rfl
theorem fo3:fnT.map (fun q=>fnChk (KP P) q.1 q.2)=fnT.map fun _=>(true,false,false,true,true,true,true,true):=by kernel_rfl
theorem fns_ok {g:Gd} (e:g.K=KP P):∀ f∈tFns P,FnOk g f:=all_map fun q m=>e▸fnOk_of (e.symm▸map_at (fo1 P) q m) (e.symm▸map_at (fo2 P) q m) (e.symm▸map_at (fo3 P) q m)
theorem ao296:∀ n∈ns296,AttrOk (KP P) 296 n:=attrOk_of (by kernel_rfl) (by kernel_rfl) (by kernel_rfl)
theorem ao191:∀ n∈ns191,AttrOk (KP P) 191 n:=attrOk_of (by kernel_rfl) (by kernel_rfl) (by kernel_rfl)
theorem ao324:∀ n∈ns324,AttrOk (KP P) 324 n:=attrOk_of (by kernel_rfl) (by kernel_rfl) (by kernel_rfl)
theorem ao593:∀ n∈ns593,AttrOk (KP P) 593 n:=attrOk_of (by kernel_rfl) (by kernel_rfl) (by kernel_rfl)
theorem ao105:∀ n∈ns105,AttrOk (KP P) 105 n:=attrOk_of (by kernel_rfl) (by kernel_rfl) (by kernel_rfl)
theorem mo296:∀ p∈ms296,MeOk (KP P) (296,p.1,p.2):=meOk_of (by kernel_rfl) (by kernel_rfl) (by kernel_rfl) (by kernel_rfl)
theorem mo593:∀ p∈ms593,MeOk (KP P) (593,p.1,p.2):=meOk_of (by kernel_rfl) (by kernel_rfl) (by kernel_rfl) (by kernel_rfl)
theorem exo:ExcCls (KP P) 84 81:=by
  have h:∃ o,(KP P).lookup 84=some o∧∃ d:ExcD,o=d.obj 84:=⟨_,rfl,⟨_,_,_,_,_,_,_,_,_,_,_,_,_,_,_⟩,rfl⟩
  obtain ⟨o,e1,d,e2⟩:=h
  exact ⟨d,e2▸e1,by kernel_rfl,by kernel_rfl⟩
theorem xo:∀ n∈nsX,ExcAttr (KP P) 84 81 n:=excAttr_of (by kernel_rfl) (by kernel_rfl) (by kernel_rfl) (by kernel_rfl) (by kernel_rfl) (exo P)
theorem uo:UsOk (KP P) (296,sOf [109,97,107,101,114]):=⟨by kernel_rfl,by kernel_rfl,by kernel_rfl⟩
theorem co:CsOk (KP P) (430,sInit,364):=⟨by kernel_rfl,.type "type",by kernel_rfl,by kernel_rfl⟩
theorem isio:IsTOk (KP P) tIsi:=⟨all_cons (by kernel_rfl) all_nil,all_cons (by kernel_rfl) (all_cons (by kernel_rfl) all_nil),all_cons (by kernel_rfl) all_nil⟩
theorem ko0:tKeep.map (fun a=>keepIn (KP P) (.ref a))=tKeep.map fun _=>true:=by kernel_rfl
theorem clo:tCls.map (fun q=>(makesIn (KP P) q.1,findIn (KP P) (.ref q.1) "__init__",typeIn (KP P) (.ref q.2)))=tCls.map fun q=>(true,some (some (.ref q.2)),some (.type "function")):=by kernel_rfl
theorem cls_ok {g:Gd} (e:g.K=KP P) (q:Addr × Addr) (m:q∈tCls):ClsOk g q.1 q.2:=by
  have h:=map_at (clo P) q m
  rw [← e] at h
  exact ⟨congrArg (·.1) h,congrArg (·.2.1) h,congrArg (·.2.2) h⟩
theorem glo:glA.map (fun p=>nsIn (KP P) mainGlobals p.1)=glA.map fun p=>some (some (.ref p.2)):=by kernel_rfl
theorem glb:glB.map (fun n=>(nsIn (KP P) mainGlobals n.1,bootBuiltins n.1,seq n.1 ("__name__" : Str),seq n.1 ("__classdict__" : Str)))=glB.map fun n=>(some none,some n.2.2,false,false):=by kernel_rfl
theorem gld:glA.map (fun n=>seq n.1 ("__classdict__" : Str))=glA.map fun _=>false:=by kernel_rfl
theorem glr:∀ q∈glB,∀ c,VRel c q.2.1 q.2.2:=all_cons (fun _=>.bi _) (all_cons (fun _=>.bi _) (all_cons (fun _=>.bi _) (all_cons (fun _=>.bi _) (all_cons (fun _=>.typ _) (all_cons (fun _=>.typ _) (all_cons (fun _=>.typ _) (all_cons (fun _=>.typ _) (all_nil))))))))
theorem lk_mem {β:Type} {x:Str} {a:β} {l:List (Str × β)}:lk l x=some a→(x,a)∈l:=by
  induction l with
  | nil=>exact no_some
  | cons q r ih=>exact fun h=>cond_some h (fun e z=>seq_iff.mp e▸z▸.head _) fun h=>.tail _ (ih h)
theorem gl_at {g:Gd} (e:g.K=KP P):∀ q∈tGl,GlobOk g q.1 q.2:=all_app (all_map fun q m=>glob_of (v:=.ref q.2) g.XB (e▸map_at (glo P) q m) ((seq_beq ..).symm.trans (map_at gld q m)) fun _=>.ref _)
  (all_map fun q m=>have h:=map_at (glb P) q m;blt_of (v:=q.2.2) g.XB (e▸congrArg (·.1) h) (congrArg (·.2.1) h) ((seq_beq ..).symm.trans (congrArg (·.2.2.2) h)) (fun z=>no_tf ((congrArg (·.2.2.1) h).symm.trans (seq_iff.mpr z))) (glr q m))
theorem attrs_ok:∀ q∈tAttrs,AttrOk (KP P) q.1 q.2:=all_app (all_map (ao296 P)) (all_app (all_map (ao191 P)) (all_app (all_map (ao324 P)) (all_app (all_map (ao593 P)) (all_map (ao105 P)))))
theorem ms_ok:∀ q∈tMs,MeOk (KP P) q:=all_app (all_map (mo296 P)) (all_map (mo593 P))
theorem tabs_ok {g:Gd} (e:g.K=KP P) (hb:HbOk g):TabsOk g (tabs P) where
  gl:=fun x a h=>gl_at P e (x,a) (lk_mem h)
  fns:=fns_ok P e
  attrs:=e▸attrs_ok P
  excs:=e▸all_map (xo P)
  me:=e▸⟨ms_ok P,all_cons (co P) all_nil,all_cons (uo P) all_nil⟩
  isi:=e▸isio P
  keep:=e▸fun a m=>map_at (ko0 P) a m
  cls:=cls_ok P e
  exs:=all_cons (e▸exo P) all_nil
  hb:=hb
end
end T
namespace T
mutual
inductive It where
  | plain (x:Str)
  | deed (j:Nat)
  | piece (t:Bool) (k:Nat) (its:Its)
inductive Its where
  | nil
  | cons (i:It) (r:Its)
end
noncomputable def nmP (t:Bool) (k:Nat):Str:=cat (match t with | true=>sOf [116] | false=>sOf [115]) (intS (.ofNat k))
noncomputable def wOf (j:Nat):Str:=cat (sOf [119]) (intS (.ofNat j))
noncomputable def noOf (x:Str):Str:=cat (sOf [110,111,32]) x
noncomputable def nmS:Nat→Str
  | 0=>sOf [105,48]
  | 1=>sOf [111,48]
  | 2=>sOf [105,49]
  | _=>sOf [111,49]
noncomputable def bump:Nat→Int→Int
  | 0,e=>e+1
  | 2,e=>e+1
  | _,e=>e
structure Dd where
  sort:Nat
  name:Nat
  to:Int
structure Pg where
  prog:Nat→Its
  eff:Nat→Int
  deed:Nat→Dd
  b:Bool
inductive LE where
  | deed (j lev:Nat)
  | run (x:Str)
noncomputable def avE:LE→AV
  | .deed j l=>.tup [.str (sOf [100,101,101,100]),.ss (intS (.ofNat j)),.ss (intS (.ofNat l))]
  | .run x=>.tup [.str (sOf [114,117,110]),.ss x]
noncomputable def pT (l:Nat):Str:=cat (sOf [80]) (intS (.ofNat l))
noncomputable def avM (x:Nat × Bool):AV:=.tup [.ss (pT x.1),.bool x.2]
structure MS where
  ep:Int
  st:Int
  sp:Int
  n0:Int
  n1:Int
  n2:Int
  n3:Int
  cm:List Str
  fi:List Str
  lg:List AV
  md:List AV
  ak:List ((Nat × Bool) × Int)
noncomputable def MS.nm (s:MS):Nat→Int
  | 0=>s.n0
  | 1=>s.n1
  | 2=>s.n2
  | _=>s.n3
noncomputable def sel (b:Bool) (x y:Int):Int:=match b with
  | true=>x
  | false=>y
noncomputable def MS.set (s:MS) (i:Nat) (v:Int) (cm fi:List Str):MS:={s with ep:=bump i s.ep,n0:=sel (Nat.beq i 0) v s.n0,n1:=sel (Nat.beq i 1) v s.n1,n2:=sel (Nat.beq i 2) v s.n2,n3:=sel (Nat.beq i 3) v s.n3,cm:=cm,fi:=fi}
noncomputable def MS.put (s:MS) (i:Nat):MS:=s.set i 1 (putK (delK s.cm (nmS i)) (nmS i)) (delK s.fi (nmS i))
noncomputable def MS.del (s:MS) (i:Nat):MS:=s.set i 0 (delK s.cm (nmS i)) (delK s.fi (nmS i))
noncomputable def MS.add1 (s:MS) (i:Nat):MS:=s.set i 2 (putK (delK s.cm (nmS i)) (nmS i)) (putK (delK s.fi (nmS i)) (nmS i))
noncomputable def MS.add (s:MS) (i:Nat):MS:=match i with
  | 0=>(s.add1 0).add1 3
  | 1=>(s.add1 1).add1 3
  | 2=>(s.add1 2).add1 3
  | _=>s.add1 3
noncomputable def akOf (s:MS) (l:Nat) (b:Bool):Option Int:=lkD s.ak (l,b)
noncomputable def MS.ask (s:MS) (l:Nat) (b:Bool):MS:=match akOf s l b with
  | some e=>if e=s.ep then s else {s with ak:=putD s.ak (l,b) s.ep,md:=s.md++[avM (l,b)]}
  | none=>{s with ak:=putD s.ak (l,b) s.ep,md:=s.md++[avM (l,b)]}
noncomputable def srcF (p:Pg) (t:Bool) (k:Nat) (s:MS):(Bool × Str) × MS :=
  let s1:MS:={s with lg:=s.lg++[avE (.run (nmP t k))]}
  if p.eff k=1 then ((true,nmP t k),s1.put 0)
  else if p.eff k=2 then ((true,nmP t k),s1.del 2)
  else if p.eff k=3 then ((false,noOf (nmP t k)),s1)
  else ((true,nmP t k),s1)
mutual
noncomputable def playI (p:Pg) (call:Nat→MS→(Bool × Str) × MS) (e:Int):It→MS→(Bool × Str) × MS
  | .plain x,s=>((true,x),{s with st:=s.st+1})
  | .deed j,s=>call j {s with st:=s.st+4}
  | .piece t k its,s=>if s.ep=e then playL p call e its [] {s with st:=s.st+1} else srcF p t k {s with st:=s.st+1}
noncomputable def playL (p:Pg) (call:Nat→MS→(Bool × Str) × MS) (e:Int):Its→List Str→MS→(Bool × Str) × MS
  | .nil,acc,s=>((true,joinE acc),{s with st:=s.st+1})
  | .cons i r,acc,s=>match playI p call e i s with
    | ((true,x),s')=>playL p call e r (acc++[x]) s'
    | ((false,x),s')=>((false,x),s')
end
noncomputable def MS.logD (m:MS) (j lev:Nat):MS:={m with lg:=m.lg++[avE (.deed j lev)]}
noncomputable def deedF (p:Pg) (lev j:Nat) (m:MS):Option Nat × MS:=match (p.deed j).sort with
  | 0=>(none,(m.logD j lev).put (p.deed j).name)
  | 1=>(none,(m.logD j lev).del (p.deed j).name)
  | 2=>(none,(m.logD j lev).add (p.deed j).name)
  | 3=>if lev < 2∧(m.logD j lev).lg.length < 12 then (some (max (lev+1) (p.deed j).to.toNat),m.logD j lev) else (none,m.logD j lev)
  | _=>(none,m.logD j lev)
theorem deedF_el {Q:Option Nat × MS→Prop} {p:Pg} {lev j:Nat} {m:MS} (h0:(p.deed j).sort=0→Q (none,(m.logD j lev).put (p.deed j).name)) (h1:(p.deed j).sort=1→Q (none,(m.logD j lev).del (p.deed j).name)) (h2:(p.deed j).sort=2→Q (none,(m.logD j lev).add (p.deed j).name))
    (h3:(p.deed j).sort=3→lev < 2→(m.logD j lev).lg.length < 12→Q (some (max (lev+1) (p.deed j).to.toNat),m.logD j lev)) (h5:(p.deed j).sort=3→¬ (lev < 2∧(m.logD j lev).lg.length < 12)→Q (none,m.logD j lev)) (h4:∀ k,(p.deed j).sort=k+4→Q (none,m.logD j lev)):Q (deedF p lev j m):=by
  unfold deedF
  match hs:(p.deed j).sort with
  | 0=>exact h0 hs
  | 1=>exact h1 hs
  | 2=>exact h2 hs
  | 3 =>
    show Q (if _ then _ else _)
    by_cases c:lev < 2∧(m.logD j lev).lg.length < 12
    · rw [if_pos c];exact h3 hs c.1 c.2
    · rw [if_neg c];exact h5 hs c
  | k+4=>exact h4 k hs
noncomputable def callF (p:Pg) (lev:Nat) (later:Nat→MS→(Bool × Str) × MS) (j:Nat) (s:MS):(Bool × Str) × MS:=match deedF p lev j {s with sp:=s.sp+1} with
  | (none,s')=>((true,wOf j),s')
  | (some l,s')=>later l s'
noncomputable def enterF (p:Pg) (call:Nat→Nat→MS→(Bool × Str) × MS) (l:Nat) (s:MS):(Bool × Str) × MS :=
  let s1:=s.ask l p.b
  playL p (call l) s.ep (p.prog l) [] s1
noncomputable def call2 (p:Pg):Nat→MS→(Bool × Str) × MS:=callF p 2 fun _ s=>((true,sOf []),s)
noncomputable def call1 (p:Pg):Nat→MS→(Bool × Str) × MS:=callF p 1 fun _ s=>enterF p (fun _=>call2 p) 2 s
noncomputable def call0 (p:Pg):Nat→MS→(Bool × Str) × MS:=callF p 0 fun l s=>enterF p (fun l=>match l with | 1=>call1 p | _=>call2 p) l s
noncomputable def callL (p:Pg):Nat→Nat→MS→(Bool × Str) × MS
  | 0=>call0 p
  | 1=>call1 p
  | _=>call2 p
mutual
noncomputable def avI:It→AV
  | .plain x=>.tup [.str (sOf [112,108,97,105,110]),.ss x]
  | .deed j=>.tup [.str (sOf [100,101,101,100]),.si (.ofNat j)]
  | .piece t k its=>.tup [.str (sOf [112,105,101,99,101]),.ss (nmP t k),.sl (avL its)]
noncomputable def avL:Its→List AV
  | .nil=>[]
  | .cons i r=>.op (avI i)::avL r
end
noncomputable def Its.len:Its→Nat
  | .nil=>0
  | .cons _ r=>r.len+1
theorem avI_cl:∀ i,Cl (avI i)
  | .plain _=>⟨3,rfl⟩
  | .deed _=>⟨3,rfl⟩
  | .piece _ _ _=>⟨3,rfl⟩
theorem avL_cl:∀ r,∀ v∈avL r,Cl v
  | .nil,v,m=>by cases m
  | .cons i r,v,m=>by
    rcases List.mem_cons.mp m with rfl | m
    · exact ⟨1,rfl⟩
    · exact avL_cl r v m
theorem avL_len:∀ r,(avL r).length=r.len
  | .nil=>rfl
  | .cons _ r=>congrArg Nat.succ (avL_len r)
inductive Rw where
  | push (v:AV) (x:Str)
  | inv
  | start (t:Bool) (k b:Nat)
  | join (n:Nat)
noncomputable def avR:Rw→AV
  | .push v _=>.tup [.str (sOf [112,117,115,104]),v,.none]
  | .inv=>.tup [.str (sOf [105,110,118,111,107,101]),.int 3,.none]
  | .start t k b=>.tup [.str (sOf [115,116,97,114,116]),.ss (nmP t k),.si (.ofNat b)]
  | .join n=>.tup [.str (sOf [106,111,105,110]),.si (.ofNat n),.none]
mutual
noncomputable def rwI (l:Nat):Nat→It→List Rw
  | _,.plain x=>[.push (.ss x) x]
  | _,.deed j=>[.push (.str (sOf [119])) (sOf [119]),.push (.ss (intS (.ofNat j))) (intS (.ofNat j)),.push (.ss (intS (.ofNat l))) (intS (.ofNat l)),.inv]
  | a,.piece t k its=>.start t k (a+1+szL its+1)::(rwL l (a+1) its++[.join its.len])
noncomputable def rwL (l:Nat):Nat→Its→List Rw
  | _,.nil=>[]
  | a,.cons i r=>rwI l a i++rwL l (a+szI i) r
noncomputable def szI:It→Nat
  | .plain _=>1
  | .deed _=>4
  | .piece _ _ its=>szL its+2
noncomputable def szL:Its→Nat
  | .nil=>0
  | .cons i r=>szI i+szL r
end
noncomputable def rwA (p:Pg) (l:Nat):List Rw:=rwL l 0 (p.prog l)++[.join (p.prog l).len]
mutual
theorem rwI_len (l:Nat):∀ (a:Nat) (i:It),(rwI l a i).length=szI i
  | _,.plain x=>rfl
  | _,.deed j=>rfl
  | a,.piece t k its=>by simp [rwI,szI,rwL_len l (a+1) its]
theorem rwL_len (l:Nat):∀ (a:Nat) (r:Its),(rwL l a r).length=szL r
  | _,.nil=>rfl
  | a,.cons i r=>by simp [rwL,szL,rwI_len l a i,rwL_len l (a+szI i) r]
end
noncomputable def cdA (p:Pg) (l:Nat) (e:Int):AV:=.fi 324 [(sOf [114,111,119,115],.sl ((rwA p l).map avR)),(sOf [114,97,110,103,101,115],.fl []),(sOf [110,97,109,101,115],.fl []),(sOf [115,111,117,114,99,101,115],.fl []),(sOf [101,112,111,99,104],.si e)]
noncomputable def bkA (p:Pg) (x:(Nat × Bool) × Int):BK × AV:=((pT x.1.1,x.1.2,sOf [58,58]),cdA p x.1.1 x.2)
noncomputable def dsS:Nat→Str
  | 0=>sOf [112,117,116]
  | 1=>sOf [114,101,109,111,118,101]
  | 2=>sOf [97,100,100]
  | 3=>sOf [110,101,115,116]
  | _=>sOf [110,111,110,101]
noncomputable def avD (d:Dd):AV:=.tup [.ss (dsS d.sort),.si (.ofNat d.name),.si d.to]
noncomputable def ddA (p:Pg):List AV:=[.op (avD (p.deed 0)),.op (avD (p.deed 1)),.op (avD (p.deed 2)),.op (avD (p.deed 3)),.op (avD (p.deed 4)),.op (avD (p.deed 5))]
end T
namespace T
theorem WkO.gone (b:AObj):WkO b .gone:=fun _ _ _ _=>trivial
noncomputable def mapI (φ:Nat→AObj→AObj):Nat→List AObj→List AObj
  | _,[]=>[]
  | i,b::r=>φ i b::mapI φ (i+1) r
theorem WkO.cond {b:Bool} {x y z:AObj} (h1:WkO x y) (h2:WkO x z):WkO x (cond b y z):=by
  cases b with
  | true=>exact h1
  | false=>exact h2
theorem WkS.mapI {φ:Nat→AObj→AObj} (h:∀ i b,WkO b (φ i b)) (i:Nat) (σ:List AObj):WkS σ (mapI φ i σ):=by
  induction σ generalizing i with
  | nil=>exact .nil
  | cons b r ih=>exact .cons (h i b) (ih (i+1))
theorem mapI_at {φ:Nat→AObj→AObj} (σ:List AObj):∀ (n i:Nat),(∀ b,φ (n+i) b=b)→(mapI φ n σ)[i]?=σ[i]?:=by
  induction σ with
  | nil=>exact fun _ _ _=>rfl
  | cons b r ih=>exact fun n i h=>match i,h with
    | 0,h=>congrArg some (h b)
    | i+1,h=>ih (n+1) i (Nat.add_right_comm n i 1▸h)
noncomputable def goneF (I:List Nat) (i:Nat) (b:AObj):AObj:=cond (memN I i) .gone b
theorem goneF_wk (I:List Nat) (i:Nat) (b:AObj):WkO b (goneF I i b):=.cond (.gone b) (.refl b)
theorem pick_lk {ls:List (Str × AV)} {x:Str} {v:AV} {ns:List Str}:lk (pick ls ns) x=some v→lk ls x=some v:=by
  induction ns with
  | nil=>exact no_some
  | cons n r ih =>
    show lk (pickC (lk ls n) n (pick ls r)) x=some v→_
    cases e:lk ls n with
    | none=>exact ih
    | some u=>exact fun h=>cond_some h (fun q z=>(seq_iff.mp q).symm▸z▸e) ih
theorem WkLs.pick (ls:List (Str × AV)) (ns:List Str):WkLs ls (pick ls ns):=fun _ v h=>⟨v,pick_lk h,.refl v⟩
noncomputable def viewI {α:Type} (φ:Nat→AObj→AObj) (N:List Str) (r:Option (Res α × AS)):Option (Res α × List (Str × AV) × List AObj × List Orc × List Prop):=Option.map (fun p=>(p.1,pick p.2.ls N,mapI φ 0 p.2.σ,p.2.orc,p.2.obl)) r
theorem Runs.mski {α:Type} {W:α→α→Prop} {m:EM α} {rd:Rd} {ls ls':List (Str × AV)} {σ σ':List AObj} {r:Res α} (hW:∀ a,W a a) {φ:Nat→AObj→AObj} (hφ:∀ i b,WkO b (φ i b)) {N:List Str} {orc:List Orc} {ps:List Prop}
    (e:viewI φ N (m.run rd ⟨ls,σ,orc,[]⟩)=some (r,ls',σ',[],ps)) (hx:∀ i,r=.exc i→∀ b,φ i b=b) (h:AllP ps):Runs W m rd ls σ r ls' σ':=by
  obtain ⟨⟨r0,l,s,o,b⟩,e1,e⟩:=map_some e
  cases e
  refine ⟨orc,_,_,_,_,e1,h,?_,.pick _ _,.mapI hφ _ _⟩
  cases r0 with
  | ok a=>exact .ok (hW a)
  | exc i=>exact .exc (mapI_at s 0 i ((Nat.zero_add i).symm▸hx i rfl))
noncomputable def view {α:Type} (I:List Nat) (N:List Str) (r:Option (Res α × AS)):Option (Res α × List (Str × AV) × List AObj × List Orc × List Prop):=viewI (goneF I) N r
noncomputable def excOk {α:Type} (I:List Nat):Res α→Bool
  | .ok _=>true
  | .exc i=>!memN I i
theorem goneF_f {I:List Nat} {i:Nat} (h:memN I i=false) (b:AObj):goneF I i b=b:=congrArg (fun z=>cond z AObj.gone b) h
theorem Runs.msk {α:Type} {W:α→α→Prop} {m:EM α} {rd:Rd} {ls ls':List (Str × AV)} {σ σ':List AObj} {r:Res α} (hW:∀ a,W a a) (I:List Nat) (N:List Str) (orc:List Orc) (ps:List Prop)
    (e:view I N (m.run rd ⟨ls,σ,orc,[]⟩)=some (r,ls',σ',[],ps)) (hx:excOk I r=true) (h:AllP ps):Runs W m rd ls σ r ls' σ':=.mski hW (goneF_wk I) e (fun i z=>goneF_f (not_ok (z▸hx:excOk I (Res.exc (α:=α) i)=true))) h
theorem WkO.trans {a b c:AObj} (h:WkO a b) (k:WkO b c):WkO a c:=fun hb x o z=>k hb x o (h hb x o z)
theorem Weak.trans {a b c:AV} (h:Weak a b) (k:Weak b c):Weak a c:=fun x v z=>k x v (h x v z)
theorem WkS.trans {a b c:List AObj} (h:WkS a b):WkS b c→WkS a c:=by
  intro k
  induction h generalizing c with
  | nil=>exact k
  | cons h1 h2 ih=>cases k with | cons k1 k2=>exact .cons (h1.trans k1) (ih k2)
theorem WkLs.trans {a b c:List (Str × AV)} (h:WkLs a b) (k:WkLs b c):WkLs a c:=fun x v e =>
  let ⟨u,e1,w1⟩:=k x v e
  let ⟨t,e2,w2⟩:=h x u e1
  ⟨t,e2,w2.trans w1⟩
theorem Runs.post {α:Type} {W:α→α→Prop} {m:EM α} {rd:Rd} {ls ls' ls2:List (Str × AV)} {σ σ' σ2:List AObj} {a b:α} (h:Runs W m rd ls σ (.ok a) ls' σ') (w:∀ x,W x a→W x b) (hl:WkLs ls' ls2) (hs:WkS σ' σ2):Runs W m rd ls σ (.ok b) ls2 σ2 :=
  let ⟨orc,ps,r0,ls0,σ0,e,h,hr,h1,h2⟩:=h
  ⟨orc,ps,r0,ls0,σ0,e,h,by cases hr with | ok z=>exact .ok (w _ z),h1.trans hl,h2.trans hs⟩
theorem Runs.postV {m:EM AV} {rd:Rd} {ls ls' ls2:List (Str × AV)} {σ σ' σ2:List AObj} {a b:AV} (h:Runs Weak m rd ls σ (.ok a) ls' σ') (w:Weak a b) (hl:WkLs ls' ls2) (hs:WkS σ' σ2):Runs Weak m rd ls σ (.ok b) ls2 σ2:=h.post (fun _ z=>z.trans w) hl hs
theorem Runs.postN {m:EM AFlow} {rd:Rd} {ls ls' ls2:List (Str × AV)} {σ σ' σ2:List AObj} (h:Runs WkF m rd ls σ (.ok .next) ls' σ') (hl:WkLs ls' ls2) (hs:WkS σ' σ2):Runs WkF m rd ls σ (.ok .next) ls2 σ2:=h.post (fun _ z=>z) hl hs
theorem cutS_run (m:EM AFlow) (rd:Rd) (ls ls0 ls1:List (Str × AV)) (σ σ0 σ1:List AObj) (r:Res AFlow) (rest:List Orc) (obl:List Prop) :
    (cutS m).run rd ⟨ls,σ,.stm ls0 σ0 r ls1 σ1::rest,obl⟩=some (r,⟨ls1,σ1,rest,(rd.dep≤500)::WkLs ls ls0::WkS σ σ0::Runs WkF m ⟨rd.sc,rd.hnd,rd.dep,0⟩ ls0 σ0 r ls1 σ1::obl⟩):=rfl
section
variable {α β:Type} {m:EM α} {f:α→EM β} {rd:Rd} {s s1:AS}
theorem bnd_ok {a:α} (h:m.run rd s=some (.ok a,s1)):(bnd m f).run rd s=(f a).run rd s1:=by
  show (match m.run rd s with | none=>none | some (.ok a,s')=>(f a).run rd s' | some (.exc i,s')=>some (.exc i,s'))=_
  rw [h]
theorem bnd_exc {i:Nat} (h:m.run rd s=some (.exc i,s1)):(bnd m f).run rd s=some (.exc i,s1):=by
  show (match m.run rd s with | none=>none | some (.ok a,s')=>(f a).run rd s' | some (.exc i,s')=>some (.exc i,s'))=_
  rw [h]
theorem sop_run {γ:Type} {g:Rd→List AObj→Option (γ × List AObj)} {a:γ} {σ':List AObj} (h:g rd s.σ=some (a,σ')):(sop g).run rd s=some (.ok a,{s with σ:=σ'}):=by
  show (match g rd s.σ with | none=>none | some (a,σ')=>some (Res.ok a,{s with σ:=σ'}))=_
  rw [h]
theorem note_ok {a:α} (h:m.run rd s=some (.ok a,s1)):(noteE m).run rd s=some (.ok a,s1):=congrArg (fun o:Option (Res α × AS)=>obn o fun p=>noteR p.1 p.2) h
theorem set_same {σ:List AObj} {i:Nat} {b:AObj} (h:σ[i]?=some b):σ.set i b=σ:=by
  obtain ⟨l,rfl⟩:=List.getElem?_eq_some_iff.mp h
  exact List.set_getElem_self l
theorem note_exc {i:Nat} {C:Addr} {d:Option Nat} (h:m.run rd s=some (.exc i,s1)) (hi:s1.σ[i]?=some (.exc C d true)):(noteE m).run rd s=some (.exc i,s1):=by
  refine (congrArg (fun o:Option (Res α × AS)=>obn o fun p=>noteR p.1 p.2) h).trans ?_
  show exnO s1.σ[i]? (fun C d _=>some (Res.exc i,{s1 with σ:=s1.σ.set i (.exc C d true)}))=_
  rw [hi]
  show some (Res.exc i,{s1 with σ:=s1.σ.set i (.exc C d true)})=_
  rw [set_same hi]
end
theorem allP_app {a b:List Prop} (h:AllP a) (k:AllP b):AllP (a++b):=allP_append.mpr ⟨h,k⟩
section
variable {mt:EM Bool} {bE:EM AFlow} {rd:Rd} {n0:Nat}
structure LpT (mt:EM Bool) (bE:EM AFlow) (rd:Rd) (n0:Nat) (ls:List (Str × AV)) (σ:List AObj) (ls2:List (Str × AV)) (σ2:List AObj):Prop where
  t:∀ orc obl,mt.run rd ⟨ls,σ,orc,obl⟩=some (.ok true,⟨ls,σ,orc,obl⟩)
  b:∃ ls1 σ1 I,Runs WkF bE ⟨rd.sc,rd.hnd,rd.dep,0⟩ ls σ (.ok .next) ls1 σ1∧∀ orc obl,(compactE n0).run rd ⟨ls1,σ1,.ns I::orc,obl⟩=some (.ok (),⟨ls2,σ2,orc,obl⟩)
inductive Lp (mt:EM Bool) (bE:EM AFlow) (rd:Rd) (n0:Nat):List (Str × AV)→List AObj→Res AFlow→List (Str × AV)→List AObj→Prop
  | stop {ls σ}:(∀ orc obl,mt.run rd ⟨ls,σ,orc,obl⟩=some (.ok false,⟨ls,σ,orc,obl⟩))→Lp mt bE rd n0 ls σ (.ok .next) ls σ
  | step {ls σ ls2 σ2 r ls' σ'}:LpT mt bE rd n0 ls σ ls2 σ2→Lp mt bE rd n0 ls2 σ2 r ls' σ'→Lp mt bE rd n0 ls σ r ls' σ'
  | exc {ls σ i ls' σ'}:(∀ orc obl,mt.run rd ⟨ls,σ,orc,obl⟩=some (.ok true,⟨ls,σ,orc,obl⟩))→Runs WkF bE ⟨rd.sc,rd.hnd,rd.dep,0⟩ ls σ (.exc i) ls' σ'→Lp mt bE rd n0 ls σ (.exc i) ls' σ'
theorem Lp.run (hd:rd.dep≤500) {ls ls':List (Str × AV)} {σ σ':List AObj} {r:Res AFlow} (h:Lp mt bE rd n0 ls σ r ls' σ') :
    ∃ n orc ps,(∀ rest obl,(whileG n0 mt (cutS bE) (ret .next) n).run rd ⟨ls,σ,orc++rest,obl⟩=some (r,⟨ls',σ',rest,ps++obl⟩))∧AllP ps:=by
  induction h with
  | stop h=>exact ⟨1,[],[],fun rest obl=>bnd_ok (h rest obl),trivial⟩
  | @step ls σ ls2 σ2 r ls' σ' h1 _ ih =>
    obtain ⟨n,orc,ps,e,hp⟩:=ih
    obtain ⟨t,l1,s1,I,hr,hc⟩:=h1
    exact ⟨n+1,.stm ls σ (.ok .next) l1 s1::.ns I::orc,ps++[rd.dep≤500,WkLs ls ls,WkS σ σ,Runs WkF bE ⟨rd.sc,rd.hnd,rd.dep,0⟩ ls σ (.ok .next) l1 s1],fun rest obl=>(bnd_ok (t _ _)).trans ((bnd_ok (cutS_run ..)).trans ((bnd_ok (hc _ _)).trans (List.append_assoc ps _ obl▸e rest _))),allP_app hp ⟨hd,.refl _,.refl _,hr,trivial⟩⟩
  | @exc ls σ i ls' σ' t hr =>
    exact ⟨1,[.stm ls σ (.exc i) ls' σ'],[rd.dep≤500,WkLs ls ls,WkS σ σ,Runs WkF bE ⟨rd.sc,rd.hnd,rd.dep,0⟩ ls σ (.exc i) ls' σ'],fun rest obl=>(bnd_ok (t _ _)).trans (bnd_exc (cutS_run ..)),⟨hd,.refl _,.refl _,hr,trivial⟩⟩
inductive LpS (mt:EM Bool) (bE:EM AFlow) (rd:Rd) (n0:Nat) (ls:List (Str × AV)):List AObj→List AObj→Prop
  | refl {σ}:LpS mt bE rd n0 ls σ σ
  | step {σ σ1 σ2}:LpT mt bE rd n0 ls σ ls σ1→LpS mt bE rd n0 ls σ1 σ2→LpS mt bE rd n0 ls σ σ2
theorem LpS.trans {ls:List (Str × AV)} {a b c:List AObj} (h:LpS mt bE rd n0 ls a b) (k:LpS mt bE rd n0 ls b c):LpS mt bE rd n0 ls a c:=by
  induction h with
  | refl=>exact k
  | step h1 _ ih=>exact .step h1 (ih k)
theorem LpS.lp {ls ls':List (Str × AV)} {a b c:List AObj} {r:Res AFlow} (h:LpS mt bE rd n0 ls a b) (k:Lp mt bE rd n0 ls b r ls' c):Lp mt bE rd n0 ls a r ls' c:=by
  induction h with
  | refl=>exact k
  | step h1 _ ih=>exact .step h1 (ih k)
theorem Lp.runs (hd:rd.dep≤500) {ls ls':List (Str × AV)} {σ σ':List AObj} (hn:σ.length=n0) (h:Lp mt bE rd n0 ls σ (.ok .next) ls' σ') :
    Runs WkF (askM fun n=>whileC mt (cutS bE) (ret .next) n) rd ls σ (.ok .next) ls' σ':=by
  obtain ⟨n,orc,ps,e,hp⟩:=h.run hd
  have e:=e [] []
  rw [List.append_nil,List.append_nil,← hn] at e
  exact Runs.of (WkF.refl) (orc:=.n n::orc) (ps:=ps) (note_ok e) hp
theorem Lp.runsX (hd:rd.dep≤500) {ls ls':List (Str × AV)} {σ σ':List AObj} {i:Nat} {C:Addr} {d:Option Nat} (hn:σ.length=n0) (h:Lp mt bE rd n0 ls σ (.exc i) ls' σ') (hi:σ'[i]?=some (.exc C d true)) :
    Runs WkF (askM fun n=>whileC mt (cutS bE) (ret .next) n) rd ls σ (.exc i) ls' σ':=by
  obtain ⟨n,orc,ps,e,hp⟩:=h.run hd
  have e:=e [] []
  rw [List.append_nil,List.append_nil,← hn] at e
  exact Runs.of (WkF.refl) (orc:=.n n::orc) (ps:=ps) (note_exc e hi) hp
inductive Fp (tgt:AV→EM Unit) (bE:EM AFlow) (rd:Rd) (vs:List AV):Nat→List (Str × AV)→List AObj→Res AFlow→List (Str × AV)→List AObj→Prop
  | done {k ls σ}:vs[k]?=none→Fp tgt bE rd vs k ls σ (.ok .next) ls σ
  | step {k a ls ls1 lsw σ ls2 σ2 r ls' σ'}:vs[k]?=some a→(∀ orc obl,(tgt a).run rd ⟨ls,σ,orc,obl⟩=some (.ok (),⟨ls1,σ,orc,obl⟩))→WkLs ls1 lsw→Runs WkF bE ⟨rd.sc,rd.hnd,rd.dep,0⟩ lsw σ (.ok .next) ls2 σ2 →
      Fp tgt bE rd vs (k+1) ls2 σ2 r ls' σ'→Fp tgt bE rd vs k ls σ r ls' σ'
  | out {k a ls ls1 lsw σ ls2 σ2 b}:vs[k]?=some a→(∀ orc obl,(tgt a).run rd ⟨ls,σ,orc,obl⟩=some (.ok (),⟨ls1,σ,orc,obl⟩))→WkLs ls1 lsw→Runs WkF bE ⟨rd.sc,rd.hnd,rd.dep,0⟩ lsw σ (.ok (.ret b)) ls2 σ2 →
      Fp tgt bE rd vs k ls σ (.ok (.ret b)) ls2 σ2
theorem for_end {isN:Bool} {tgt:AV→EM Unit} {body:EM AFlow} {n:Nat} {k:ItK} {s:AS} (h:turnO isN rd.hnd s.σ k=some (none,s.σ)):(forE isN tgt body (n+1) k).run rd s=some (.ok .next,s):=bnd_ok (m:=sop fun rd σ=>turnO isN rd.hnd σ k) (sop_run h)
theorem for_turn {isN:Bool} {tgt:AV→EM Unit} {body:EM AFlow} {n:Nat} {k:ItK} {s:AS} {p:AV × ItK} (h:turnO isN rd.hnd s.σ k=some (some p,s.σ)):(forE isN tgt body (n+1) k).run rd s=(bnd (tgt p.1) fun _=>bnd body (loopK (forE isN tgt body n p.2))).run rd s:=bnd_ok (m:=sop fun rd σ=>turnO isN rd.hnd σ k) (sop_run h)
theorem turn_seq {σ:List AObj} {vs:List AV} {v:AV} {k:Nat} (hs:seqOf σ v=some vs):turnO true none σ (.seq v k)=some (vs[k]?.map fun a=>(a,.seq v (k+1)),σ):=by
  show obn (obn (seqOf σ v) fun vs=>some (vs[k]?.map fun a=>(a,ItK.seq v (k+1)))) _=_
  rw [hs]
  show obn (some (vs[k]?.map _)) _=_
  cases vs[k]?<;>rfl
theorem Fp.run {tgt:AV→EM Unit} {vs:List AV} {v:AV} (hv:v=.sl vs∨v=.fl vs) (hd:rd.dep≤500) (hh:rd.hnd=none) {k:Nat} {ls ls':List (Str × AV)} {σ σ':List AObj} {r:Res AFlow} (h:Fp tgt bE rd vs k ls σ r ls' σ') :
    ∃ n orc ps,(∀ rest obl,(forE true tgt (cutS bE) n (.seq v k)).run rd ⟨ls,σ,orc++rest,obl⟩=some (r,⟨ls',σ',rest,ps++obl⟩))∧AllP ps:=by
  have hs:∀ σ,seqOf σ v=some vs:=hv.elim (fun e=>e▸fun _=>rfl) fun e=>e▸fun _=>rfl
  have tn:∀ {k:Nat} {σ:List AObj} {o:Option AV},vs[k]?=o→turnO true rd.hnd σ (.seq v k)=some (o.map fun a=>(a,.seq v (k+1)),σ):=fun h=>by rw [hh,turn_seq (hs _),h]
  induction h with
  | done h=>exact ⟨1,[],[],fun rest obl=>for_end (tn h),trivial⟩
  | @step k a ls ls1 lsw σ ls2 σ2 r ls' σ' h1 h2 hw h3 _ ih =>
    obtain ⟨n,orc,ps,e,hp⟩:=ih
    exact ⟨n+1,.stm lsw σ (.ok .next) ls2 σ2::orc,ps++[rd.dep≤500,WkLs ls1 lsw,WkS σ σ,Runs WkF bE ⟨rd.sc,rd.hnd,rd.dep,0⟩ lsw σ (.ok .next) ls2 σ2],fun rest obl=>(for_turn (tn h1)).trans ((bnd_ok (h2 _ _)).trans ((bnd_ok (cutS_run ..)).trans (List.append_assoc ps _ obl▸e rest _))),allP_app hp ⟨hd,hw,.refl _,h3,trivial⟩⟩
  | @out k a ls ls1 lsw σ ls2 σ2 b h1 h2 hw h3 =>
    exact ⟨1,[.stm lsw σ (.ok (.ret b)) ls2 σ2],[rd.dep≤500,WkLs ls1 lsw,WkS σ σ,Runs WkF bE ⟨rd.sc,rd.hnd,rd.dep,0⟩ lsw σ (.ok (.ret b)) ls2 σ2],fun rest obl=>(for_turn (tn h1)).trans ((bnd_ok (h2 _ _)).trans (bnd_ok (cutS_run ..))),⟨hd,hw,.refl _,h3,trivial⟩⟩
theorem Fp.runs {tgt:AV→EM Unit} {mi:EM AV} {vs:List AV} {v:AV} (hv:v=.sl vs∨v=.fl vs) (hd:rd.dep≤500) (hh:rd.hnd=none) {ls ls':List (Str × AV)} {σ σ':List AObj} {f:AFlow} (hi:∀ orc obl,mi.run rd ⟨ls,σ,orc,obl⟩=some (.ok v,⟨ls,σ,orc,obl⟩))
    (h:Fp tgt bE rd vs 0 ls σ (.ok f) ls' σ'):Runs WkF (askM fun n=>forS true mi tgt (cutS bE) n) rd ls σ (.ok f) ls' σ':=by
  obtain ⟨n,orc,ps,e,hp⟩:=h.run hv hd hh
  have e:=e [] []
  rw [List.append_nil,List.append_nil] at e
  have hk:iterOf σ v=some (.seq v 0):=by rcases hv with rfl | rfl<;>rfl
  exact Runs.of (WkF.refl) (orc:=.n n::orc) (ps:=ps) ((bnd_ok (hi _ _)).trans ((bnd_ok (sop_run (congrArg (fun o=>obn o fun k=>some (k,σ)) hk))).trans (note_ok e))) hp
end
end T
namespace T
noncomputable def mOps:AV:=.fd [((sOf [112,117,115,104]),.ref 616),((sOf [112,111,112]),.ref 623),((sOf [108,111,97,100]),.ref 630),((sOf [108,111,97,100,95,110,97,109,101]),.ref 637),((sOf [108,111,97,100,95,101,108,101,109,101,110,116]),.ref 644),((sOf [115,116,111,114,101]),.ref 651),((sOf [115,116,111,114,101,95,110,97,109,101]),.ref 658),((sOf [115,116,111,114,101,95,101,108,101,109,101,110,116]),.ref 665),((sOf [106,111,105,110]),.ref 672),((sOf [105,110,118,111,107,101]),.ref 686),((sOf [115,116,97,114,116]),.ref 700),((sOf [106,117,109,112]),.ref 707),((sOf [102,97,105,108]),.ref 714)]
noncomputable def idleT:AV:=.tup [.ref 770,.none]
noncomputable def cmTab (p:Pg):List (Str × AV):=[(nmS 0,idleT),(nmS 1,idleT),(nmS 2,idleT),(nmS 3,idleT),((sOf [119]),.tup [.ref 777,.tup [.sl (ddA p),.bool p.b,.mut 8]])]
noncomputable def fiTab:List (Str × AV):=[(nmS 0,.bool true),(nmS 1,.bool true),(nmS 2,.bool true),(nmS 3,.bool true)]
noncomputable def effE (p:Pg):List (Str × AV):=[((sOf [48]),.si (p.eff 0)),((sOf [49]),.si (p.eff 1)),((sOf [50]),.si (p.eff 2)),((sOf [51]),.si (p.eff 3)),((sOf [52]),.si (p.eff 4)),((sOf [53]),.si (p.eff 5)),((sOf [54]),.si (p.eff 6)),((sOf [55]),.si (p.eff 7)),((sOf [56]),.si (p.eff 8)),((sOf [57]),.si (p.eff 9)),((sOf [49,48]),.si (p.eff 10))]
noncomputable def hB (p:Pg) (m:MS) (dp:Int):List AObj:=[.list false [.sl (avL (p.prog 0)),.sl (avL (p.prog 1)),.sl (avL (p.prog 2))],.sd false (effE p),
  .sd false [((sOf [116,111,111,108,115]),.mut 3),((sOf [105,110,108,105,110,101]),.mut 4),((sOf [108,105,109,105,116]),.int 40),((sOf [102,117,101,108]),.none),((sOf [100,101,112,116,104]),.int dp),((sOf [115,112,101,110,116]),.si m.sp),((sOf [101,112,111,99,104]),.si m.ep),((sOf [102,114,97,109,101]),.none),((sOf [99,111,114,111,117,116,105,110,101]),.none),((sOf [118,97,114,115]),.mut 5),((sOf [99,111,109,109,97,110,100,115]),.mut 6),((sOf [102,105,114,115,116,115]),.mut 7)],
  .sd false [((sOf [108,97,119]),.tup [.mut 0,.mut 9]),((sOf [115,111,117,114,99,101]),.tup [.mut 1,.mut 8]),((sOf [114,117,110]),.ref 784)],
  .sd false [(nmS 0,.bool true),(nmS 2,.bool true)],.ed,.kd m.cm (cmTab p),.kd m.fi fiTab,.list true m.lg,.list true m.md]
noncomputable def mB (p:Pg) (m:MS) (dp:Int) (acts text:AV) (al:List AV):List AObj:=hB p m dp++[
  .sd false [((sOf [104,111,115,116]),.inst 593 2),((sOf [111,112,115]),mOps),((sOf [109,97,107,101,114]),.ref 763),((sOf [97,99,116,115]),acts),((sOf [98,111,111,107]),.mut 12),((sOf [112,97,117,115,101]),.none),((sOf [115,116,101,112,115]),.si m.st),((sOf [116,101,120,116]),text)],
  .list false al,.bd (m.ak.map (bkA p))]
noncomputable def nest1:AObj:=.sd false [((sOf [115,99,114,105,112,116]),.str (sOf [])),((sOf [98,97,99,107]),.none),((sOf [105,115,95,112,114,111,99]),.bool false),((sOf [108,97,98,101,108]),.str (sOf []))]
noncomputable def nestF (l:Nat) (b:Bool):AV:=.fi 105 [((sOf [115,99,114,105,112,116]),.ss (pT l)),((sOf [98,97,99,107]),.none),((sOf [105,115,95,112,114,111,99]),.bool b),((sOf [108,97,98,101,108]),.str (sOf [112]))]
noncomputable def actD (code nest:AV) (pc:Int) (stk slots each:AV):AObj:=.sd false [((sOf [99,111,100,101]),code),((sOf [110,101,115,116]),nest),((sOf [112,99]),.si pc),((sOf [115,116,97,99,107]),stk),((sOf [115,108,111,116,115]),slots),((sOf [101,97,99,104]),each),((sOf [99,97,117,103,104,116]),.tup [.int 0,.str (sOf []),.none])]
end T
namespace T
noncomputable def F (P:Params) (H:Hooks) (a:Addr) (as:List AV):EM AV:=callT (tabs P) (ev (tabs P) H 200) a as
theorem hk_fn (P:Params) (n:Nat) (a:Addr) (as:List AV):(hk (tabs P) (n+1)).fn a as=F P (hk (tabs P) n) a as:=rfl
structure Fit (b:Nat) (m:MS):Prop where
  cm:m.cm.length≤b
  fi:m.fi.length≤b
theorem putK_len (l:List Str) (k:Str):(putK l k).length≤l.length+1:=by
  delta putK
  cases l.contains k with
  | true=>exact Nat.le_succ _
  | false=>exact Nat.le_of_eq List.length_append
theorem delK_len (l:List Str) (k:Str):(delK l k).length≤l.length:=by
  induction l with
  | nil=>exact Nat.le_refl _
  | cons x r ih =>
    show (cond (seq k x) r (x::delK r k)).length≤_
    cases seq k x with
    | true=>exact Nat.le_succ _
    | false=>exact Nat.succ_le_succ ih
theorem all4 {Q:Nat→Prop} (h0:Q 0) (h1:Q 1) (h2:Q 2) (h3:Q 3) (i:Nat) (hi:i < 4):Q i:=by
  match i,hi with
  | 0,_=>exact h0
  | 1,_=>exact h1
  | 2,_=>exact h2
  | 3,_=>exact h3
theorem all3 {Q:Nat→Prop} (h0:Q 0) (h1:Q 1) (h2:Q 2) (i:Nat) (hi:i < 3):Q i:=by
  match i,hi with
  | 0,_=>exact h0
  | 1,_=>exact h1
  | 2,_=>exact h2
theorem leA {a k b c:Nat} (h:a+k≤b) (e:Nat.ble b c=true):a≤c:=leL (Nat.le_trans (Nat.le_add_right a k) h) e
theorem leS {n:Nat} (h:n≤100000):n≤sizeLine:=Nat.le_trans h (by decide)
theorem up1 {a b c:Nat} (h:a≤b) (e:Nat.ble (b+1) c=true):a+1≤c:=Nat.le_trans (Nat.succ_le_succ h) (Nat.le_of_ble_eq_true e)
theorem Fit.del {b:Nat} {m:MS} (h:Fit b m) (i:Nat):Fit b (m.del i):=⟨Nat.le_trans (delK_len ..) h.cm,Nat.le_trans (delK_len ..) h.fi⟩
theorem Fit.put {b:Nat} {m:MS} (h:Fit b m) (i:Nat):Fit (b+1) (m.put i):=⟨Nat.le_trans (putK_len ..) (Nat.succ_le_succ (h.del i).cm),Nat.le_succ_of_le (h.del i).fi⟩
theorem Fit.add1 {b:Nat} {m:MS} (h:Fit b m) (i:Nat):Fit (b+1) (m.add1 i):=⟨(h.put i).cm,Nat.le_trans (putK_len ..) (Nat.succ_le_succ (h.del i).fi)⟩
theorem Fit.le {a b:Nat} {m:MS} (h:Fit a m) (l:a≤b):Fit b m:=⟨Nat.le_trans h.cm l,Nat.le_trans h.fi l⟩
noncomputable def Spec (f:List AV→EM AV) (as:List AV) (σ:List AObj) (r:Res AV) (σ':List AObj) (d:Nat):Prop:=∀ sc dep,dep≤d→Runs Weak (f as) ⟨sc,none,dep,0⟩ [] σ r [] σ'
variable (P:Params)
theorem s_del (H:Hooks) (p:Pg) (m:MS) (dp:Int) (i:Nat) (hi:i < 4) (fm:Fit 50000 m):Spec (F P H 569) [.inst 593 2,.ss (nmS i)] (hB p m dp) (.ok .none) (hB p (m.del i) dp) 500:=fun sc dep _=>by
  have h1:m.cm.length≤100000:=Nat.le_trans fm.cm (by decide)
  have h2:m.fi.length≤100000:=Nat.le_trans fm.fi (by decide)
  have q:∀ b:Bool,AllP [b=b,m.fi.length≤100000,m.cm.length≤100000]:=fun _=>⟨rfl,h2,h1,trivial⟩
  exact all4 (Q:=fun i=>Runs Weak (F P H 569 [.inst 593 2,.ss (nmS i)]) ⟨sc,none,dep,0⟩ [] (hB p m dp) (.ok .none) [] (hB p (m.del i) dp)) (Runs.msk Weak.refl [] [] [.b true] _ (by kernel_rfl) rfl (q true)) (Runs.msk Weak.refl [] [] [.b false] _ (by kernel_rfl) rfl (q false))
    (Runs.msk Weak.refl [] [] [.b true] _ (by kernel_rfl) rfl (q true)) (Runs.msk Weak.refl [] [] [.b false] _ (by kernel_rfl) rfl (q false)) i hi
noncomputable def DelOk (H:Hooks) (p:Pg):Prop:=∀ m dp i,i < 4→Fit 50000 m→Spec (H.fn 569) [.inst 593 2,.ss (nmS i)] (hB p m dp) (.ok .none) (hB p (m.del i) dp) 500
theorem s_put (H:Hooks) (p:Pg) (hH:DelOk H p) (m:MS) (dp:Int) (i:Nat) (hi:i < 4) (fm:Fit 50000 m) (t:List AV) (ht:t=[]∨t=[.none]):Spec (F P H 562) (.inst 593 2::.ss (nmS i)::.ref 770::t) (hB p m dp) (.ok .none) (hB p (m.put i) dp) 490:=fun sc dep hd=>by
  have h1:(delK m.cm (nmS i)).length≤100000:=Nat.le_trans (fm.del i).cm (by decide)
  have h3:=hH m dp i hi fm
  have tl:lk (cmTab p) (nmS i)=some idleT:=all4 (Q:=fun i=>lk (cmTab p) (nmS i)=some idleT) rfl rfl rfl rfl i hi
  rcases ht with rfl | rfl
  · exact Runs.msk Weak.refl [] [] [.cut 10 [.inst 593 2,.ss (nmS i)] (hB p m dp) (.ok .none) (hB p (m.del i) dp)]
      [lk (cmTab p) (nmS i)=some idleT,(delK m.cm (nmS i)).length≤100000,dep+1≤500,WkL [.inst 593 2,.ss (nmS i)] [.inst 593 2,.ss (nmS i)],WkS (hB p m dp) (hB p m dp),Runs Weak (H.fn 569 [.inst 593 2,.ss (nmS i)]) ⟨(fdOf (KP P) 562).scope,none,dep+1,0⟩ [] (hB p m dp) (.ok .none) [] (hB p (m.del i) dp)]
      (by kernel_rfl) rfl ⟨tl,h1,up1 hd rfl,.refl _,.refl _,h3 _ _ (up1 hd rfl),trivial⟩
  · exact Runs.msk Weak.refl [] [] [.cut 10 [.inst 593 2,.ss (nmS i)] (hB p m dp) (.ok .none) (hB p (m.del i) dp)]
      [lk (cmTab p) (nmS i)=some idleT,(delK m.cm (nmS i)).length≤100000,dep+1≤500,WkL [.inst 593 2,.ss (nmS i)] [.inst 593 2,.ss (nmS i)],WkS (hB p m dp) (hB p m dp),Runs Weak (H.fn 569 [.inst 593 2,.ss (nmS i)]) ⟨(fdOf (KP P) 562).scope,none,dep+1,0⟩ [] (hB p m dp) (.ok .none) [] (hB p (m.del i) dp)]
      (by kernel_rfl) rfl ⟨tl,h1,up1 hd rfl,.refl _,.refl _,h3 _ _ (up1 hd rfl),trivial⟩
noncomputable def PutOk (H:Hooks) (p:Pg):Prop:=∀ m dp i,i < 4→Fit 50000 m→∀ t,(t=[]∨t=[.none])→Spec (H.fn 562) (.inst 593 2::.ss (nmS i)::.ref 770::t) (hB p m dp) (.ok .none) (hB p (m.put i) dp) 490
theorem Weak.ss {x:Str}:Weak (.str x) (.ss x):=fun c v h=>h.elim (.ss x)
theorem Weak.si {i:Int}:Weak (.int i) (.si i):=fun c v h=>h.elim (.si i)
theorem Weak.unop {a:AV}:Weak (.op a) a:=fun c v h=>h.elim fun _ r _=>r
theorem Weak.op {a:AV} (h:Cl a):Weak a (.op a):=fun c v r=>.op r h
theorem wk_put (i:Nat):WkL [.inst 593 2,.str (nmS i),.ref 770,.none] [.inst 593 2,.ss (nmS i),.ref 770,.none]:=.cons (.refl _) (.cons .ss (.refl _))
theorem fi_tab (i:Nat) (hi:i < 4):lk fiTab (nmS i)=some (.bool true):=all4 (Q:=fun i=>lk fiTab (nmS i)=some (.bool true)) rfl rfl rfl rfl i hi
noncomputable def oA (p:Pg) (m:MS) (dp:Int) (i:Nat):Orc:=.cut 10 [.inst 593 2,.ss (nmS i),.ref 770,.none] (hB p m dp) (.ok .none) (hB p (m.put i) dp)
noncomputable def pA (H:Hooks) (p:Pg) (m:MS) (dp:Int) (dep:Nat) (sc:Scope) (i:Nat) (rest:List Prop):List Prop:=(lk fiTab (nmS i)=some (.bool true))::((m.put i).fi.length≤100000)::(dep+1≤500)::WkL [.inst 593 2,.str (nmS i),.ref 770,.none] [.inst 593 2,.ss (nmS i),.ref 770,.none] ::
  WkS (hB p m dp) (hB p m dp)::Runs Weak (H.fn 562 [.inst 593 2,.ss (nmS i),.ref 770,.none]) ⟨sc,none,dep+1,0⟩ [] (hB p m dp) (.ok .none) [] (hB p (m.put i) dp)::rest
theorem pA_ok {H:Hooks} {p:Pg} (hH:PutOk H p) {m:MS} {dp:Int} {dep:Nat} {sc:Scope} {i:Nat} {rest:List Prop} (hi:i < 4) (fm:Fit 45000 m) (hd:dep≤480) (h:AllP rest):AllP (pA H p m dp dep sc i rest) :=
  ⟨fi_tab i hi,Nat.le_trans (fm.put i).fi (by decide),up1 hd rfl,wk_put i,.refl _,hH m dp i hi (fm.le (by decide)) [.none] (.inr rfl) _ _ (up1 hd rfl),h⟩
theorem s_add2 (H:Hooks) (p:Pg) (hH:PutOk H p) (m:MS) (dp:Int) (i:Nat) (hi:i < 3) (fm:Fit 40000 m):Spec (F P H 576) [.inst 593 2,.fd [(nmS i,.ref 770),(nmS 3,.ref 770)]] (hB p m dp) (.ok .none) (hB p ((m.add1 i).add1 3) dp) 480:=fun sc dep hd=>by
  have q:=pA_ok hH (dp:=dp) (dep:=dep) (sc:=(fdOf (KP P) 576).scope) (i:=3) (by decide) ((fm.add1 i).le (by decide)) hd (pA_ok hH (m:=m) (dp:=dp) (dep:=dep) (sc:=(fdOf (KP P) 576).scope) (i:=i) (rest:=[]) (Nat.lt_succ_of_lt hi) (fm.le (by decide)) hd trivial)
  revert q
  exact all3 (Q:=fun i=>AllP (pA H p (m.add1 i) dp dep (fdOf (KP P) 576).scope 3 (pA H p m dp dep (fdOf (KP P) 576).scope i []))→Runs Weak (F P H 576 [.inst 593 2,.fd [(nmS i,.ref 770),(nmS 3,.ref 770)]]) ⟨sc,none,dep,0⟩ [] (hB p m dp) (.ok .none) [] (hB p ((m.add1 i).add1 3) dp))
    (fun q=>Runs.msk Weak.refl [] [] [oA p m dp 0,oA p (m.add1 0) dp 3] _ (by kernel_rfl) rfl q) (fun q=>Runs.msk Weak.refl [] [] [oA p m dp 1,oA p (m.add1 1) dp 3] _ (by kernel_rfl) rfl q) (fun q=>Runs.msk Weak.refl [] [] [oA p m dp 2,oA p (m.add1 2) dp 3] _ (by kernel_rfl) rfl q) i hi
theorem s_add1 (H:Hooks) (p:Pg) (hH:PutOk H p) (m:MS) (dp:Int) (fm:Fit 40000 m):Spec (F P H 576) [.inst 593 2,.fd [(nmS 3,.ref 770)]] (hB p m dp) (.ok .none) (hB p (m.add1 3) dp) 480:=fun sc dep hd=>by
  have q:=pA_ok hH (m:=m) (dp:=dp) (dep:=dep) (sc:=(fdOf (KP P) 576).scope) (i:=3) (rest:=[]) (by omega) (fm.le (by decide)) hd trivial
  exact Runs.msk Weak.refl [] [] [oA p m dp 3] _ (by kernel_rfl) rfl q
theorem s_add3 (H:Hooks) (p:Pg) (hH:PutOk H p) (m:MS) (dp:Int) (fm:Fit 40000 m):Spec (F P H 576) [.inst 593 2,.fd [(nmS 0,.ref 770),(nmS 1,.ref 770),(nmS 2,.ref 770)]] (hB p m dp) (.ok .none) (hB p (((m.add1 0).add1 1).add1 2) dp) 480:=fun sc dep hd=>by
  have q:=pA_ok hH (dp:=dp) (dep:=dep) (sc:=(fdOf (KP P) 576).scope) (i:=2) (by decide) (((fm.add1 0).add1 1).le (by decide)) hd (pA_ok hH (dp:=dp) (dep:=dep) (sc:=(fdOf (KP P) 576).scope) (i:=1) (by decide) ((fm.add1 0).le (by decide)) hd (pA_ok hH (m:=m) (dp:=dp) (dep:=dep) (sc:=(fdOf (KP P) 576).scope) (i:=0) (rest:=[]) (by omega) (fm.le (by decide)) hd trivial))
  exact Runs.msk Weak.refl [] [] [oA p m dp 0,oA p (m.add1 0) dp 1,oA p ((m.add1 0).add1 1) dp 2] _ (by kernel_rfl) rfl q
end T
namespace T
theorem eff_all (p:Pg):∀ t,(List.range 11).map (fun k=>lk (effE p) (Txt.slice (nmP t k) (some 1) none))=(List.range 11).map fun k=>some (.si (p.eff k))
  | true=>by kernel_rfl
  | false=>by kernel_rfl
theorem nm_all:∀ t,allF (fun k=>Nat.ble (slen (nmP t k)) 3) (List.range 11)=true
  | true=>by kernel_rfl
  | false=>by kernel_rfl
theorem eff_at (p:Pg) (t:Bool) (k:Nat) (hk:k < 11):lk (effE p) (Txt.slice (nmP t k) (some 1) none)=some (.si (p.eff k))∧slen (nmP t k)≤3 :=
  ⟨List.map_inj_left.mp (eff_all p t) k (List.mem_range.mpr hk),Nat.le_of_ble_eq_true (allF_iff.mp (nm_all t) k (List.mem_range.mpr hk))⟩
noncomputable def excO (d:Nat):AObj:=.exc 84 (some d) true
noncomputable def excS (x info:AV) (noted:Bool) (extra:AV):AObj:=.sd false [(sOf [99,111,100,101],.int 1),(sOf [118,97,108,117,101],x),(sOf [101,114,114,111,114,99,111,100,101],.any),(sOf [108,101,118,101,108],.int 0),(sOf [114,101,116],.int 0),
  (sOf [105,110,102,111],info),(sOf [105,115,95,110,111,116,101,100],.bool noted),(sOf [108,105,110,101],.int 0),(sOf [101,120,116,114,97],extra)]
noncomputable def MS.logR (m:MS) (x:Str):MS:={m with lg:=m.lg++[avE (.run x)]}
theorem srcF_el {Q:(Bool × Str) × MS→Prop} {p:Pg} {t:Bool} {k:Nat} {m:MS} (h1:p.eff k=1→Q ((true,nmP t k),(m.logR (nmP t k)).put 0)) (h2:p.eff k=2→Q ((true,nmP t k),(m.logR (nmP t k)).del 2)) (h3:p.eff k=3→Q ((false,noOf (nmP t k)),m.logR (nmP t k)))
    (h4:p.eff k ≠ 1→p.eff k ≠ 2→p.eff k ≠ 3→Q ((true,nmP t k),m.logR (nmP t k))):Q (srcF p t k m):=by
  show Q (if p.eff k=1 then _ else if p.eff k=2 then _ else if p.eff k=3 then _ else _)
  by_cases c1:p.eff k=1
  · rw [if_pos c1];exact h1 c1
  · rw [if_neg c1]
    by_cases c2:p.eff k=2
    · rw [if_pos c2];exact h2 c2
    · rw [if_neg c2]
      by_cases c3:p.eff k=3
      · rw [if_pos c3];exact h3 c3
      · rw [if_neg c3];exact h4 c1 c2 c3
noncomputable def SrcSp (f:List AV→EM AV) (p:Pg) (m:MS) (dp:Int) (t:Bool) (k:Nat):(Bool × Str) × MS→Prop
  | ((true,x),m')=>Spec f [.inst 593 2,.ss (nmP t k)] (hB p m dp) (.ok (.ss x)) (hB p m' dp) 470
  | ((false,x),m')=>Spec f [.inst 593 2,.ss (nmP t k)] (hB p m dp) (.exc 10) (hB p m' dp++[excO 11,excS (.ss x) (.str (sOf [])) false (.mut 12),.list false []]) 470
noncomputable def SrcOk (H:Hooks) (p:Pg):Prop:=∀ m dp t k,k < 11→Fit 40000 m→m.lg.length≤1000000→SrcSp (H.fn 784) p m dp t k (srcF p t k m)
section
variable {P:Params} {H:Hooks} {p:Pg} {m:MS} {dp:Int} {k dep:Nat} {sc:Scope} {x:Str} (hd:dep≤470) (e1:lk (effE p) (Txt.slice x (some 1) none)=some (.si (p.eff k))) (l2:slen x≤sizeLine) (l1:m.lg.length≤sizeLine)
include hd e1 l2 l1
theorem src1 (c:p.eff k=1) (q:Runs Weak (H.fn 562 [.inst 593 2,.ss (nmS 0),.ref 770]) ⟨(fdOf (KP P) 784).scope,none,dep+1,0⟩ [] (hB p (m.logR x) dp) (.ok .none) [] (hB p ((m.logR x).put 0) dp)):Runs Weak (F P H 784 [.inst 593 2,.ss x]) ⟨sc,none,dep,0⟩ [] (hB p m dp) (.ok (.ss x)) [] (hB p ((m.logR x).put 0) dp) :=
  Runs.msk Weak.refl [] [] [.v (.si (p.eff k)),.b true,.cut 10 [.inst 593 2,.ss (nmS 0),.ref 770] (hB p (m.logR x) dp) (.ok .none) (hB p ((m.logR x).put 0) dp),.b false,.b false]
    [(p.eff k == 3)=false,(p.eff k == 2)=false,dep+1≤500,WkL [.inst 593 2,.str (nmS 0),.ref 770] [.inst 593 2,.ss (nmS 0),.ref 770],WkS (hB p (m.logR x) dp) (hB p (m.logR x) dp),Runs Weak (H.fn 562 [.inst 593 2,.ss (nmS 0),.ref 770]) ⟨(fdOf (KP P) 784).scope,none,dep+1,0⟩ [] (hB p (m.logR x) dp) (.ok .none) [] (hB p ((m.logR x).put 0) dp),
      (p.eff k == 1)=true,lk (effE p) (Txt.slice x (some 1) none)=some (.si (p.eff k)),slen x≤sizeLine,m.lg.length≤sizeLine]
    (by kernel_rfl) rfl ⟨c▸rfl,c▸rfl,leP hd rfl,.cons (.refl _) (.cons .ss (.refl _)),.refl _,q,beq_iff_eq.mpr c,e1,l2,l1,trivial⟩
theorem src2 (c:p.eff k=2) (q:Runs Weak (H.fn 569 [.inst 593 2,.ss (nmS 2)]) ⟨(fdOf (KP P) 784).scope,none,dep+1,0⟩ [] (hB p (m.logR x) dp) (.ok .none) [] (hB p ((m.logR x).del 2) dp)):Runs Weak (F P H 784 [.inst 593 2,.ss x]) ⟨sc,none,dep,0⟩ [] (hB p m dp) (.ok (.ss x)) [] (hB p ((m.logR x).del 2) dp) :=
  Runs.msk Weak.refl [] [] [.v (.si (p.eff k)),.b false,.b true,.cut 10 [.inst 593 2,.ss (nmS 2)] (hB p (m.logR x) dp) (.ok .none) (hB p ((m.logR x).del 2) dp),.b false]
    [(p.eff k == 3)=false,dep+1≤500,WkL [.inst 593 2,.str (nmS 2)] [.inst 593 2,.ss (nmS 2)],WkS (hB p (m.logR x) dp) (hB p (m.logR x) dp),Runs Weak (H.fn 569 [.inst 593 2,.ss (nmS 2)]) ⟨(fdOf (KP P) 784).scope,none,dep+1,0⟩ [] (hB p (m.logR x) dp) (.ok .none) [] (hB p ((m.logR x).del 2) dp),
      (p.eff k == 2)=true,(p.eff k == 1)=false,lk (effE p) (Txt.slice x (some 1) none)=some (.si (p.eff k)),slen x≤sizeLine,m.lg.length≤sizeLine]
    (by kernel_rfl) rfl ⟨c▸rfl,leP hd rfl,.cons (.refl _) (.cons .ss (.refl _)),.refl _,q,beq_iff_eq.mpr c,c▸rfl,e1,l2,l1,trivial⟩
omit hd
theorem src3 (c:p.eff k=3) (l3:slen (sOf [110,111,32])+slen x≤sizeLine):Runs Weak (F P H 784 [.inst 593 2,.ss x]) ⟨sc,none,dep,0⟩ [] (hB p m dp) (.exc 10) [] (hB p (m.logR x) dp++[excO 11,excS (.ss (noOf x)) (.str (sOf [])) false (.mut 12),.list false []]) :=
  Runs.msk Weak.refl [] [] [.v (.si (p.eff k)),.b false,.b false,.b true]
    [slen (sOf [110,111,32])+slen x≤sizeLine,(p.eff k == 3)=true,(p.eff k == 2)=false,(p.eff k == 1)=false,lk (effE p) (Txt.slice x (some 1) none)=some (.si (p.eff k)),slen x≤sizeLine,m.lg.length≤sizeLine]
    (by kernel_rfl) rfl ⟨l3,beq_iff_eq.mpr c,c▸rfl,c▸rfl,e1,l2,l1,trivial⟩
theorem src4 (c1:p.eff k ≠ 1) (c2:p.eff k ≠ 2) (c3:p.eff k ≠ 3):Runs Weak (F P H 784 [.inst 593 2,.ss x]) ⟨sc,none,dep,0⟩ [] (hB p m dp) (.ok (.ss x)) [] (hB p (m.logR x) dp) :=
  Runs.msk Weak.refl [] [] [.v (.si (p.eff k)),.b false,.b false,.b false]
    [(p.eff k == 3)=false,(p.eff k == 2)=false,(p.eff k == 1)=false,lk (effE p) (Txt.slice x (some 1) none)=some (.si (p.eff k)),slen x≤sizeLine,m.lg.length≤sizeLine]
    (by kernel_rfl) rfl ⟨beq_false_of_ne c3,beq_false_of_ne c2,beq_false_of_ne c1,e1,l2,l1,trivial⟩
end
variable (P:Params)
theorem s_src (H:Hooks) (p:Pg) (hD:DelOk H p) (hP:PutOk H p) (m:MS) (dp:Int) (t:Bool) (k:Nat) (hk:k < 11) (fm:Fit 40000 m) (hl:m.lg.length≤1000000):SrcSp (F P H 784) p m dp t k (srcF p t k m) :=
  have e:=eff_at p t k hk
  have l1:m.lg.length≤sizeLine:=Nat.le_trans hl (by decide)
  have l2:slen (nmP t k)≤sizeLine:=Nat.le_trans e.2 (by decide)
  have fm':Fit 50000 (m.logR (nmP t k)):=Fit.le (a:=40000) ⟨fm.cm,fm.fi⟩ (by decide)
  srcF_el (Q:=SrcSp (F P H 784) p m dp t k) (fun c _ _ hd=>src1 hd e.1 l2 l1 c (hP _ dp 0 (by decide) fm' [] (.inl rfl) _ _ (leP hd rfl))) (fun c _ _ hd=>src2 hd e.1 l2 l1 c (hD _ dp 2 (by decide) fm' _ _ (leP hd rfl)))
    (fun c _ _ _=>src3 e.1 l2 l1 c (Nat.le_trans (Nat.add_le_add_left e.2 _) (by decide))) fun c1 c2 c3 _ _ _=>src4 e.1 l2 l1 c1 c2 c3
end T
namespace T
mutual
noncomputable def WfI:It→Prop
  | .plain x=>slen x≤3
  | .deed j=>j < 6
  | .piece _ k its=>k < 11∧WfL its
noncomputable def WfL:Its→Prop
  | .nil=>True
  | .cons i r=>WfI i∧WfL r
end
mutual
noncomputable def dpI:It→Nat
  | .plain _=>0
  | .deed _=>0
  | .piece _ _ its=>dpL its+1
noncomputable def dpL:Its→Nat
  | .nil=>0
  | .cons i r=>max (dpI i) (dpL r)
end
noncomputable def frS (P:Params) (a:Addr) (i:Nat):Stmt:=match drop' i (bodyOf (fdOf (KP P) a).body) with
  | s::_=>s
  | _=>default
noncomputable def forB:Stmt→List Stmt
  | .For _ _ b _ _=>b
  | _=>[]
noncomputable def forT:Stmt→Expr
  | .For t _ _ _ _=>t
  | _=>default
noncomputable def forI:Stmt→Expr
  | .For _ i _ _ _=>i
  | _=>default
noncomputable def nItem:Str:=sOf [105,116,101,109]
noncomputable def nItems:Str:=sOf [105,116,101,109,115]
noncomputable def nRows:Str:=sOf [114,111,119,115]
noncomputable def nLevel:Str:=sOf [108,101,118,101,108]
theorem WkLs.head {x:Str} {a b:AV} {l:List (Str × AV)} (h:Weak a b):WkLs ((x,a)::l) ((x,b)::l):=fun y v e=>by
  unfold lk at e ⊢
  cases q:seq y x with
  | true=>rw [q] at e;cases e;exact ⟨a,rfl,h⟩
  | false=>rw [q] at e;exact ⟨v,e,.refl _⟩
theorem hk_st (P:Params) (n:Nat) (s:Stmt):(hk (tabs P) (n+1)).st s=stC (tabs P) (ev (tabs P) (hk (tabs P) n) 200) s:=rfl
section
variable (P:Params)
noncomputable def rowE (H:Hooks):EM AFlow:=stsE (ev (tabs P) H 200).st (forB (frS P 756 0))
noncomputable def lsRow (l:Nat) (vs:List AV):List (Str × AV):=[(nRows,.mut 10),(nItems,.sl vs),(nLevel,.si (.ofNat l))]
theorem st756 (n:Nat):(hk (tabs P) (n+1)).st (frS P 756 0)=askM fun k=>forS true ((ev (tabs P) (hk (tabs P) n) 200).ex (forI (frS P 756 0))) ((ev (tabs P) (hk (tabs P) n) 200).asg (forT (frS P 756 0))) (cutS (rowE P (hk (tabs P) n))) k:=by kernel_rfl
noncomputable def start0 (t:Bool) (k:Nat):AV:=.tup [.str (sOf [115,116,97,114,116]),.ss (nmP t k),.int 0]
noncomputable def startN (t:Bool) (k:Nat) (b:Int):AV:=.tup [.str (sOf [115,116,97,114,116]),.ss (nmP t k),.si b]
noncomputable def RowsOk (H:Hooks) (p:Pg) (d:Nat):Prop:=∀ m dp l its R,l < 3→dpL its≤d→WfL its→R.length+szL its+1≤99999 →
  Spec (H.fn 756) [.mut 10,.sl (avL its),.si (.ofNat l)] (hB p m dp++[.list true R]) (.ok .none) (hB p m dp++[.list true (R++(rwL l R.length its++[Rw.join its.len]).map avR)]) (459 - d)
noncomputable abbrev sc756:Scope:=(fdOf (KP P) 756).scope
theorem r_plain (H:Hooks) (p:Pg) (m:MS) (dp:Int) (l:Nat) (vs R:List AV) (x:Str) (dep:Nat) (hR:R.length≤100000) :
    Runs WkF (rowE P H) ⟨sc756 P,none,dep,0⟩ ((nItem,avI (.plain x))::lsRow l vs) (hB p m dp++[.list true R]) (.ok .next) (lsRow l vs) (hB p m dp++[.list true (R++[avR (.push (.ss x) x)])]) :=
  Runs.msk WkF.refl [] [nRows,nItems,nLevel] [] [R.length≤sizeLine] (by kernel_rfl) rfl ⟨Nat.le_trans hR (by decide),trivial⟩
theorem len_ap {R:List AV} {a:AV} {n:Nat} (h:R.length≤n):(R++[a]).length≤n+1:=by rw [List.length_append];exact Nat.succ_le_succ h
theorem r_deed (H:Hooks) (p:Pg) (m:MS) (dp:Int) (l:Nat) (vs R:List AV) (j:Nat) (dep:Nat) (hl:l < 3) (hj:j < 6) (hR:R.length+4≤100000) :
    Runs WkF (rowE P H) ⟨sc756 P,none,dep,0⟩ ((nItem,avI (.deed j))::lsRow l vs) (hB p m dp++[.list true R]) (.ok .next) (lsRow l vs) (hB p m dp++[.list true (R++(rwI l R.length (.deed j)).map avR)]):=by
  have e:R++[avR (.push (.str (sOf [119])) (sOf [119]))]++[avR (.push (.ss (intS (.ofNat j))) (intS (.ofNat j)))]++[avR (.push (.ss (intS (.ofNat l))) (intS (.ofNat l)))]++[avR .inv]=R++(rwI l R.length (.deed j)).map avR:=by
    rw [List.append_assoc,List.append_assoc,List.append_assoc];rfl
  rw [← e]
  have h0:R.length≤99996:=Nat.le_of_add_le_add_right (b:=4) hR
  exact Runs.msk WkF.refl [] [nRows,nItems,nLevel] [] [(R++[avR (.push (.str (sOf [119])) (sOf [119]))]++[avR (.push (.ss (intS (.ofNat j))) (intS (.ofNat j)))]++[avR (.push (.ss (intS (.ofNat l))) (intS (.ofNat l)))]).length≤sizeLine,
    (R++[avR (.push (.str (sOf [119])) (sOf [119]))]++[avR (.push (.ss (intS (.ofNat j))) (intS (.ofNat j)))]).length≤sizeLine,(Int.ofNat l).natAbs < 1000000,(R++[avR (.push (.str (sOf [119])) (sOf [119]))]).length≤sizeLine,(Int.ofNat j).natAbs < 1000000,R.length≤sizeLine] (by kernel_rfl) rfl
    ⟨leS (leL (len_ap (len_ap (len_ap h0))) rfl),leS (leL (len_ap (len_ap h0)) rfl),ltL hl rfl,leS (leL (len_ap h0) rfl),ltL hj rfl,leS (leL h0 rfl),trivial⟩
theorem p3 {a b n:Nat} (h:a+(b+2)≤n):a+1+b+1≤n:=by omega
theorem piece_set {l:Nat} {R:List AV} {t:Bool} {k:Nat} {its:Its} {X:List AV} (hX:(rwL l (R.length+1) its++[Rw.join its.len]).map avR=X):R++(rwI l R.length (.piece t k its)).map avR=(R++[start0 t k]++X).set R.length (startN t k ((R.length+1+szL its+1:Nat))):=by
  rw [List.append_assoc,List.set_append_right _ _ (Nat.le_refl _),Nat.sub_self,← hX];rfl
theorem r_piece (H:Hooks) (p:Pg) (d:Nat) (hH:RowsOk H p d) (m:MS) (dp:Int) (l:Nat) (vs R:List AV) (t:Bool) (k:Nat) (its:Its) (dep:Nat) (hl:l < 3) (hd:dpL its≤d) (hw:WfL its) (hR:R.length+(szL its+2)≤99999) (hdep:dep≤459 - d) :
    Runs WkF (rowE P H) ⟨sc756 P,none,dep,0⟩ ((nItem,avI (.piece t k its))::lsRow l vs) (hB p m dp++[.list true R]) (.ok .next) (lsRow l vs) (hB p m dp++[.list true (R++(rwI l R.length (.piece t k its)).map avR)]):=by
  have hlen:(R++[start0 t k]).length=R.length+1:=List.length_append
  have q:=hH m dp l its (R++[start0 t k]) hl hd hw (hlen.symm▸p3 hR) (sc756 P) dep hdep
  rw [hlen] at q
  generalize hX:(rwL l (R.length+1) its++[Rw.join its.len]).map avR=X at q
  have hXl:X.length=szL its+1:=by rw [← hX,List.length_map,List.length_append,rwL_len];rfl
  have hall:(R++[start0 t k]++X).length=R.length+1+szL its+1:=by rw [List.length_append,hlen,hXl];rfl
  rw [piece_set hX,← hall]
  have h1:R.length < (R++[start0 t k]++X).length:=hall.symm▸Nat.lt_succ_of_le (Nat.le_trans (Nat.le_succ _) (Nat.le_add_right ..))
  have h2:(R++[start0 t k]++X).length≤99999:=hall.symm▸p3 hR
  have h3:R.length≤99999:=leA hR rfl
  exact Runs.msk WkF.refl [] [nRows,nItems,nLevel] [.cut 11 [.mut 10,.sl (avL its),.si (.ofNat l)] (hB p m dp++[.list true (R++[start0 t k])]) (.ok .none) (hB p m dp++[.list true (R++[start0 t k]++X)]),.n R.length]
    [(R.length:Int)=.ofNat R.length,R.length < (R++[start0 t k]++X).length,(R++[start0 t k]++X).length≤sizeLine,(R++[start0 t k]++X).length≤4611686018427387904,dep≤500,WkL [.mut 10,.sl (avL its),.si (.ofNat l)] [.mut 10,.sl (avL its),.si (.ofNat l)],
      WkS (hB p m dp++[.list true (R++[start0 t k])]) (hB p m dp++[.list true (R++[start0 t k])]),Runs Weak (H.fn 756 [.mut 10,.sl (avL its),.si (.ofNat l)]) ⟨sc756 P,none,dep,0⟩ [] (hB p m dp++[.list true (R++[start0 t k])]) (.ok .none) [] (hB p m dp++[.list true (R++[start0 t k]++X)]),
      R.length≤sizeLine,R.length≤4611686018427387904] (by kernel_rfl) rfl ⟨rfl,h1,leS (leL h2 rfl),leL h2 rfl,Nat.le_trans hdep (Nat.le_trans (Nat.sub_le ..) (by decide)),.refl _,.refl _,q,leS (leL h3 rfl),leL h3 rfl,trivial⟩
theorem avL_app (n:Nat) (its:Its) (i:It) (r:Its) (h:∃ pre:List AV,avL its=pre++avL (.cons i r)∧pre.length=n):(avL its)[n]?=some (.op (avI i)):=let ⟨pre,e,h⟩:=h;by
  rw [e,List.getElem?_append_right (Nat.le_of_eq h),h,Nat.sub_self];rfl
theorem avL_next {all r:Its} {i:It} {k:Nat} (h:∃ pre:List AV,avL all=pre++avL (.cons i r)∧pre.length=k):∃ pre:List AV,avL all=pre++avL r∧pre.length=k+1:=let ⟨pre,e,h⟩:=h;⟨pre++[.op (avI i)],e.trans (List.append_assoc pre [_] _).symm,by rw [List.length_append,h];rfl⟩
theorem sub1 {a d:Nat} (h:a≤460 - (d+1)):a≤459 - d:=by omega
theorem sub2 {a d:Nat} (h:a≤459 - d) (k:d≤10):a+1≤460 - d:=by omega
theorem rw_next (l:Nat) (R:List AV) (i:It) (r:Its):R++(rwI l R.length i).map avR++(rwL l (R++(rwI l R.length i).map avR).length r).map avR=R++(rwL l R.length (.cons i r)).map avR:=by
  rw [List.length_append,List.length_map,rwI_len,List.append_assoc,← List.map_append];rfl
theorem r_loop (n:Nat) (p:Pg) (D:Nat) (hH:∀ d,D=d+1→RowsOk (hk (tabs P) n) p d) (m:MS) (dp:Int) (l:Nat) (hl:l < 3) (all:Its) (dep:Nat) (hdep:dep≤460 - D):∀ (r:Its) (R:List AV) (k:Nat),(∃ pre:List AV,avL all=pre++avL r∧pre.length=k) →
    dpL r≤D→WfL r→R.length+szL r≤99999 →
    Fp ((ev (tabs P) (hk (tabs P) n) 200).asg (forT (frS P 756 0))) (rowE P (hk (tabs P) n)) ⟨sc756 P,none,dep,0⟩ (avL all) k (lsRow l (avL all)) (hB p m dp++[.list true R]) (.ok .next) (lsRow l (avL all)) (hB p m dp++[.list true (R++(rwL l R.length r).map avR)])
  | .nil,R,k,⟨pre,e,h⟩,_,_,_=>by
    rw [show R++(rwL l R.length .nil).map avR=R from List.append_nil R]
    exact .done (by rw [e,avL,List.append_nil];exact List.getElem?_eq_none (Nat.le_of_eq h))
  | .cons i r,R,k,hpre,h1,h2,h3=>by
    have ih:=r_loop n p D hH m dp l hl all dep hdep r (R++(rwI l R.length i).map avR) (k+1) (avL_next hpre) (Nat.le_trans (Nat.le_max_right ..) h1) h2.2 (by rw [List.length_append,List.length_map,rwI_len,Nat.add_assoc];exact h3)
    rw [rw_next] at ih
    refine Fp.step (ls1:=(nItem,.op (avI i))::lsRow l (avL all)) (avL_app k all i r hpre) (fun orc obl=>by kernel_rfl) (.head .unop) ?_ ih
    cases i with
    | plain x=>exact r_plain P _ p m dp l _ R x dep (leA h3 rfl)
    | deed j=>exact r_deed P _ p m dp l _ R j dep hl h2.1 (leL (Nat.le_trans (Nat.add_le_add_left (Nat.le_add_right 4 (szL r)) R.length) h3) rfl)
    | piece t q its =>
      have hD:dpL its+1≤D:=Nat.le_trans (Nat.le_max_left ..) h1
      cases D with
      | zero=>exact absurd hD (Nat.not_succ_le_zero _)
      | succ d=>exact r_piece P _ p d (hH d rfl) m dp l _ R t q its dep hl (Nat.le_of_succ_le_succ hD) h2.1.2 (Nat.le_trans (Nat.add_le_add_left (Nat.le_add_right (szL its+2) (szL r)) R.length) h3) (sub1 hdep)
theorem le_szL (r:Its):r.len≤szL r:=by
  induction r using Its.rec (motive_1:=fun i=>1≤szI i) with
  | plain x=>exact Nat.le_refl _
  | deed j=>exact (by decide:1≤4)
  | piece t k its ih=>exact Nat.le_add_left_of_le (by decide:1≤2)
  | nil=>exact Nat.le_refl _
  | cons i r h1 h2=>exact Nat.le_trans (Nat.add_le_add h2 h1) (Nat.le_of_eq (Nat.add_comm (szL r) (szI i)))
theorem s_rows (n:Nat) (p:Pg) (D:Nat) (hH:∀ d,D=d+1→RowsOk (hk (tabs P) n) p d) (m:MS) (dp:Int) (l:Nat) (its:Its) (R:List AV) (hl:l < 3) (h1:dpL its≤D) (h2:WfL its) (h3:R.length+szL its+1≤99999) (hD:D≤10) :
    Spec (F P (hk (tabs P) (n+1)) 756) [.mut 10,.sl (avL its),.si (.ofNat l)] (hB p m dp++[.list true R]) (.ok .none) (hB p m dp++[.list true (R++(rwL l R.length its++[Rw.join its.len]).map avR)]) (459 - D):=fun sc dep hd=>by
  have h4:R.length+szL its≤99999:=Nat.le_of_succ_le h3
  have h5:dep+1≤500:=leP (Nat.le_trans hd (Nat.sub_le ..)) rfl
  have hr:=Fp.runs (mi:=(ev (tabs P) (hk (tabs P) n) 200).ex (forI (frS P 756 0))) (.inl rfl) h5 rfl (fun orc obl=>by kernel_rfl) (r_loop P n p D hH m dp l hl its (dep+1) (sub2 hd hD) its R 0 ⟨[],rfl,rfl⟩ h1 h2 h4)
  rw [← st756] at hr
  have e:R++(rwL l R.length its).map avR++[.tup [.str (sOf [106,111,105,110]),.si ((avL its).length:Nat),.none]]=R++(rwL l R.length its++[Rw.join its.len]).map avR:=by
    rw [avL_len,List.map_append,← List.append_assoc];rfl
  rw [← e]
  have hlen:(R++(rwL l R.length its).map avR).length≤99999:=by rw [List.length_append,List.length_map,rwL_len];exact h4
  have hle:(avL its).length≤4611686018427387904:=by rw [avL_len];exact leL (Nat.le_trans (le_szL its) (Nat.le_trans (Nat.le_add_left ..) h4)) rfl
  exact Runs.msk Weak.refl [] [] [.stm (lsRow l (avL its)) (hB p m dp++[.list true R]) (.ok .next) (lsRow l (avL its)) (hB p m dp++[.list true (R++(rwL l R.length its).map avR)])]
    [(R++(rwL l R.length its).map avR).length≤sizeLine,(avL its).length≤4611686018427387904,dep+1≤500,WkLs [(nLevel,.si (.ofNat l)),(nItems,.sl (avL its)),(nRows,.mut 10)] (lsRow l (avL its)),WkS (hB p m dp++[.list true R]) (hB p m dp++[.list true R]),
      Runs WkF ((hk (tabs P) (n+1)).st (frS P 756 0)) ⟨sc756 P,none,dep+1,0⟩ (lsRow l (avL its)) (hB p m dp++[.list true R]) (.ok .next) (lsRow l (avL its)) (hB p m dp++[.list true (R++(rwL l R.length its).map avR)])]
    (by kernel_rfl) rfl ⟨leS (leL hlen rfl),hle,h5,WkLs.pick _ [nRows,nItems,nLevel],.refl _,hr,trivial⟩
end
end T
namespace T
noncomputable def logM (m:MS) (l:Nat) (b:Bool):MS:={m with md:=m.md++[avM (l,b)]}
structure WfPg (p:Pg):Prop where
  wf:∀ l,l < 3→WfL (p.prog l)
  dp:∀ l,l < 3→dpL (p.prog l)≤2
  sz:∀ l,l < 3→szL (p.prog l)≤1000
  to:∀ j,(p.deed j).sort=3→(p.deed j).to≤2
  nm:∀ j,(p.deed j).name < 4
  st:∀ j,(p.deed j).sort < 5
noncomputable def codeO (e:Int):AObj:=.sd false [(nRows,.mut 10),(sOf [114,97,110,103,101,115],.mut 11),(sOf [110,97,109,101,115],.mut 12),(sOf [115,111,117,114,99,101,115],.mut 13),(sOf [101,112,111,99,104],.si e)]
noncomputable def mkT (p:Pg) (m:MS) (l:Nat):List AObj:=[.list true ((rwA p l).map avR),.list false [],.list false [],.list false [],codeO m.ep]
noncomputable def MakerOk (H:Hooks) (p:Pg):Prop:=∀ m dp l b,l < 3→m.md.length≤1000000→Spec (H.fn 763) [.inst 593 2,.ss (pT l),.bool b] (hB p m dp) (.ok (.inst 324 14)) (hB p (logM m l b) dp++mkT p m l) 440
theorem WkS.snoc {a b:List AObj} {x y:AObj} (h:WkS a b) (k:WkO x y):WkS (a++[x]) (b++[y]):=h.app (.cons k .nil)
theorem WkO.symN:WkO (.list false []) (.list true []):=fun _ _ _ ⟨vals,n,e,r,_⟩=>⟨vals,n,e,r,fun _ v m=>by cases m⟩
section
variable (P:Params)
noncomputable abbrev sc763:Scope:=(fdOf (KP P) 763).scope
theorem prog_at (p:Pg) (l:Nat) (h:l < 3):∃ n b,Int.ofNat l=Int.ofNat n∧n < 1000000∧[AV.sl (avL (p.prog 0)),AV.sl (avL (p.prog 1)),AV.sl (avL (p.prog 2))][n]?=some b∧Weak b (AV.sl (avL (p.prog l))):=by
  match l,h with
  | 0,_=>exact ⟨0,_,rfl,by decide,rfl,.refl _⟩
  | 1,_=>exact ⟨1,_,rfl,by decide,rfl,.refl _⟩
  | 2,_=>exact ⟨2,_,rfl,by decide,rfl,.refl _⟩
theorem pT_idx (l:Nat) (h:l < 3):∃ j,strIdx [AV.str (sOf [80,48]),AV.str (sOf [80,49]),AV.str (sOf [80,50])] (pT l)=some j∧j < 1000∧(AV.si (Int.ofNat l)=AV.int (Int.ofNat j)∨AV.si (Int.ofNat l)=AV.si (Int.ofNat j)):=by
  match l,h with
  | 0,_=>exact ⟨0,by kernel_rfl,by decide,.inr rfl⟩
  | 1,_=>exact ⟨1,by kernel_rfl,by decide,.inr rfl⟩
  | 2,_=>exact ⟨2,by kernel_rfl,by decide,.inr rfl⟩
theorem s_maker (H:Hooks) (p:Pg) (w:WfPg p) (hH:RowsOk H p 2) (m:MS) (dp:Int) (l:Nat) (b:Bool) (hl:l < 3) (hm:m.md.length≤1000000) :
    Spec (F P H 763) [.inst 593 2,.ss (pT l),.bool b] (hB p m dp) (.ok (.inst 324 14)) (hB p (logM m l b) dp++mkT p m l) 440:=fun sc dep hd=>by
  have q:=hH (logM m l b) dp l (p.prog l) [] hl (w.dp l hl) (w.wf l hl) (by have:=w.sz l hl;show 0+_+1≤_;omega) (sc763 P) (dep+1) (by omega)
  exact Runs.msk Weak.refl [] [] [.v (.si (.ofNat l)),.v (.sl (avL (p.prog l))),.cut 11 [.mut 10,.sl (avL (p.prog l)),.si (.ofNat l)] (hB p (logM m l b) dp++[.list true []]) (.ok .none) (hB p (logM m l b) dp++[.list true ((rwA p l).map avR)])]
    [dep+1≤500,WkL [.mut 10,.sl (avL (p.prog l)),.si (.ofNat l)] [.mut 10,.sl (avL (p.prog l)),.si (.ofNat l)],WkS (hB p (logM m l b) dp++[.list false []]) (hB p (logM m l b) dp++[.list true []]),
      Runs Weak (H.fn 756 [.mut 10,.sl (avL (p.prog l)),.si (.ofNat l)]) ⟨sc763 P,none,dep+1,0⟩ [] (hB p (logM m l b) dp++[.list true []]) (.ok .none) [] (hB p (logM m l b) dp++[.list true ((rwA p l).map avR)]),
      ∃ n b,Int.ofNat l=Int.ofNat n∧n < 1000000∧[AV.sl (avL (p.prog 0)),AV.sl (avL (p.prog 1)),AV.sl (avL (p.prog 2))][n]?=some b∧Weak b (AV.sl (avL (p.prog l))),
      ∃ j,strIdx [AV.str (sOf [80,48]),AV.str (sOf [80,49]),AV.str (sOf [80,50])] (pT l)=some j∧j < 1000∧(AV.si (Int.ofNat l)=AV.int (Int.ofNat j)∨AV.si (Int.ofNat l)=AV.si (Int.ofNat j)),m.md.length≤sizeLine]
    (by kernel_rfl) rfl ⟨by omega,.refl _,.snoc (.refl _) .symN,q,prog_at p l hl,pT_idx l hl,Nat.le_trans hm (by decide),trivial⟩
end
structure Fr where
  R:List AV
  e:Int
  pc:Int
  st:List AV
noncomputable def codeV (f:Fr):AV:=.fi 324 [(nRows,.sl f.R),(sOf [114,97,110,103,101,115],.fl []),(sOf [110,97,109,101,115],.fl []),(sOf [115,111,117,114,99,101,115],.fl []),(sOf [101,112,111,99,104],.si f.e)]
noncomputable def act1 (f:Fr) (stk:Nat):AObj:=actD (codeV f) (.inst 105 13) f.pc (.mut stk) (.mut 17) (.mut 18)
noncomputable def act2 (f:Fr) (l:Nat) (b:Bool) (stk:Nat):AObj:=actD (codeV f) (nestF l b) f.pc (.mut stk) (.fl []) (.fd [])
noncomputable def cA (p:Pg) (m:MS) (f:Fr):List AObj:=mB p m 1 (.mut 19) (.str (sOf [])) []++[nest1,act1 f 15,.list true f.st,.gone,.list false [],.ed,.list false [.inst 191 14]]
noncomputable def cB (p:Pg) (m:MS) (f:Fr):List AObj:=mB p m 1 (.mut 19) (.str (sOf [])) []++[nest1,act1 f 20,.gone,.gone,.list false [],.ed,.list false [.inst 191 14],.list true f.st]
noncomputable def c2 (p:Pg) (m:MS) (f1:Fr) (l2:Nat) (f:Fr):List AObj:=mB p m 1 (.mut 19) (.str (sOf [])) []++[nest1,act1 f1 20,.gone,.gone,.list false [],.ed,.list false [.inst 191 14,.inst 191 21],.list true f1.st,act2 f l2 p.b 22,.list true f.st]
noncomputable def c3 (p:Pg) (m:MS) (f1:Fr) (l2:Nat) (f2:Fr) (l3:Nat) (f:Fr):List AObj:=mB p m 1 (.mut 19) (.str (sOf [])) []++[nest1,act1 f1 20,.gone,.gone,.list false [],.ed,.list false [.inst 191 14,.inst 191 21,.inst 191 23],.list true f1.st,act2 f2 l2 p.b 22,.list true f2.st,act2 f l3 p.b 24,.list true f.st]
noncomputable def nHost:Str:=sOf [104,111,115,116]
noncomputable def nSelf:Str:=sOf [115,101,108,102]
noncomputable def lsR:List (Str × AV):=[(nHost,.inst 593 2),(nSelf,.inst 296 10)]
section
variable (P:Params)
noncomputable def wS:Stmt:=match drop' 2 (bodyOf (fdOf (KP P) 293).body) with
  | .Try b _ _ _ _::_=>(match drop' 1 b with
    | w::_=>w
    | _=>default)
  | _=>default
noncomputable def whB:Stmt→List Stmt
  | .While _ b _ _=>b
  | _=>[]
noncomputable def whT:Stmt→Expr
  | .While t _ _ _=>t
  | _=>default
noncomputable def stepE (H:Hooks):EM AFlow:=stsE (ev (tabs P) H 200).st (whB (wS P))
noncomputable def testE (H:Hooks):EM Bool:=(ev (tabs P) H 200).tr (whT (wS P))
noncomputable abbrev sc293:Scope:=(fdOf (KP P) 293).scope
theorem st293 (n:Nat):(hk (tabs P) (n+1)).st (wS P)=askM fun k=>whileC (testE P (hk (tabs P) n)) (cutS (stepE P (hk (tabs P) n))) (ret .next) k:=by kernel_rfl
noncomputable def rdR (dep:Nat):Rd:=⟨sc293 P,none,dep,0⟩
end
end T
namespace T
noncomputable def dW:Str:=sOf [119]
noncomputable def wds (j lev:Nat):List AV:=[.ss dW,.ss (intS (.ofNat j)),.ss (intS (.ofNat lev))]
noncomputable def dDat (p:Pg):AV:=.tup [.sl (ddA p),.bool p.b,.mut 8]
noncomputable def pIx (vs:List AV) (n:Nat) (a:AV):Prop:=∃ k b,(Int.ofNat n)=Int.ofNat k∧k < 1000000∧vs[k]?=some b∧Weak b a
theorem pIx_ok {vs:List AV} {n:Nat} {a b:AV} (h:vs[n]?=some b) (hn:n < 1000000) (w:Weak b a):pIx vs n a:=⟨n,b,rfl,hn,h,w⟩
noncomputable def digL:List AV:=[.str (sOf [48]),.str (sOf [49]),.str (sOf [50]),.str (sOf [51]),.str (sOf [52]),.str (sOf [53])]
noncomputable def dig3:List AV:=[.str (sOf [48]),.str (sOf [49]),.str (sOf [50])]
noncomputable def pSx (vs:List AV) (x:Str) (n:Nat):Prop:=∃ j,strIdx vs x=some j∧j < 1000∧(AV.si (.ofNat n)=AV.int (.ofNat j)∨AV.si (.ofNat n)=AV.si (.ofNat j))
theorem sx6 {j:Nat} (h:j < 6):pSx digL (intS (.ofNat j)) j:=by
  match j,h with
  | 0,_=>exact ⟨0,by kernel_rfl,by decide,.inr rfl⟩
  | 1,_=>exact ⟨1,by kernel_rfl,by decide,.inr rfl⟩
  | 2,_=>exact ⟨2,by kernel_rfl,by decide,.inr rfl⟩
  | 3,_=>exact ⟨3,by kernel_rfl,by decide,.inr rfl⟩
  | 4,_=>exact ⟨4,by kernel_rfl,by decide,.inr rfl⟩
  | 5,_=>exact ⟨5,by kernel_rfl,by decide,.inr rfl⟩
theorem sx3 {j:Nat} (h:j < 3):pSx dig3 (intS (.ofNat j)) j:=by
  match j,h with
  | 0,_=>exact ⟨0,by kernel_rfl,by decide,.inr rfl⟩
  | 1,_=>exact ⟨1,by kernel_rfl,by decide,.inr rfl⟩
  | 2,_=>exact ⟨2,by kernel_rfl,by decide,.inr rfl⟩
theorem dd_at (p:Pg) {j:Nat} (h:j < 6):(ddA p)[j]?=some (.op (avD (p.deed j))):=by
  match j,h with
  | 0,_=>rfl
  | 1,_=>rfl
  | 2,_=>rfl
  | 3,_=>rfl
  | 4,_=>rfl
  | 5,_=>rfl
noncomputable def oPre (p:Pg) (j lev:Nat):List Orc:=[.v (.ss (intS (.ofNat j))),.v (.ss (intS (.ofNat lev))),.v (.ss (intS (.ofNat j))),.v (.si (.ofNat j)),.v (avD (p.deed j)),.v (.ss (intS (.ofNat lev))),.v (.si (.ofNat lev))]
noncomputable def pPre (p:Pg) (m:MS) (j lev:Nat):List Prop:=[pSx dig3 (intS (.ofNat lev)) lev,pIx (wds j lev) 2 (.ss (intS (.ofNat lev))),pIx (ddA p) j (avD (p.deed j)),pSx digL (intS (.ofNat j)) j,pIx (wds j lev) 1 (.ss (intS (.ofNat j))),m.lg.length≤sizeLine,pIx (wds j lev) 2 (.ss (intS (.ofNat lev))),pIx (wds j lev) 1 (.ss (intS (.ofNat j)))]
theorem pPre_ok (p:Pg) (m:MS) {j lev:Nat} (hj:j < 6) (hl:lev < 3) (hm:m.lg.length≤1000000):AllP (pPre p m j lev) :=
  ⟨sx3 hl,pIx_ok rfl (by decide) (.refl _),pIx_ok (dd_at p hj) (by omega) .unop,sx6 hj,pIx_ok rfl (by decide) (.refl _),Nat.le_trans hm (by decide),pIx_ok rfl (by decide) (.refl _),pIx_ok rfl (by decide) (.refl _),trivial⟩
theorem sort_all:allF (fun k=>allF (fun i=>cond (seq (dsS k) (dsS i)) (decide (k=i)) (!decide (k=i))) (List.range 4)) (List.range 5)=true:=by kernel_rfl
theorem cond_eq {a b:Bool} (h:cond a b (!b)=true):a=b:=by cases a<;>cases b<;>first | rfl | exact no_tf h
theorem sort_seq {k:Nat} (h:k < 5) (i:Nat) (hi:i < 4):seq (dsS k) (dsS i)=decide (k=i):=cond_eq (allF_iff.mp (allF_iff.mp sort_all k (List.mem_range.mpr h)) i (List.mem_range.mpr hi))
noncomputable def nmL:List AV:=[.str (nmS 0),.str (nmS 1),.str (nmS 2),.str (nmS 3)]
theorem nm_at {i:Nat} (h:i < 4):nmL[i]?=some (.str (nmS i)):=by
  match i,h with
  | 0,_=>rfl
  | 1,_=>rfl
  | 2,_=>rfl
  | 3,_=>rfl
noncomputable def pEnd (j lev:Nat):List Prop:=[slen dW+slen (intS (.ofNat j))≤sizeLine,pIx (wds j lev) 1 (.ss (intS (.ofNat j)))]
theorem intS_len {j:Nat} (h:j < 6):slen (intS (.ofNat j))=1:=by
  match j,h with
  | 0,_=>decide
  | 1,_=>decide
  | 2,_=>decide
  | 3,_=>decide
  | 4,_=>decide
  | 5,_=>decide
theorem pEnd_ok {j lev:Nat} (hj:j < 6):AllP (pEnd j lev):=⟨by rw [intS_len hj];decide,pIx_ok rfl (by decide) (.refl _),trivial⟩
noncomputable def oEnd (j:Nat):Orc:=.v (.ss (intS (.ofNat j)))
end T
namespace T
noncomputable def nestO (l:Nat) (b:Bool):AObj:=.sd false [(sOf [115,99,114,105,112,116],.ss (pT l)),(sOf [98,97,99,107],.none),(sOf [105,115,95,112,114,111,99],.bool b),(sOf [108,97,98,101,108],.str (sOf [112]))]
noncomputable def DeedSp (f:List AV→EM AV) (p:Pg) (m:MS) (dp:Int) (j lev:Nat):Option Nat × MS→Prop
  | (none,m')=>Spec f [.inst 593 2,.sl (wds j lev),dDat p] (hB p m dp) (.ok (.ss (wOf j))) (hB p m' dp) 460
  | (some l,m')=>Spec f [.inst 593 2,.sl (wds j lev),dDat p] (hB p m dp) (.ok (.inst 105 10)) (hB p m' dp++[nestO l p.b]) 460
noncomputable def AddOk (H:Hooks) (p:Pg):Prop:=(∀ m dp i,i < 3→Fit 40000 m→Spec (H.fn 576) [.inst 593 2,.fd [(nmS i,.ref 770),(nmS 3,.ref 770)]] (hB p m dp) (.ok .none) (hB p ((m.add1 i).add1 3) dp) 480) ∧
  (∀ m dp,Fit 40000 m→Spec (H.fn 576) [.inst 593 2,.fd [(nmS 3,.ref 770)]] (hB p m dp) (.ok .none) (hB p (m.add1 3) dp) 480) ∧
  ∀ m dp,Fit 40000 m→Spec (H.fn 576) [.inst 593 2,.fd [(nmS 0,.ref 770),(nmS 1,.ref 770),(nmS 2,.ref 770)]] (hB p m dp) (.ok .none) (hB p (((m.add1 0).add1 1).add1 2) dp) 480
noncomputable def DeedOk (H:Hooks) (p:Pg):Prop:=∀ m dp j lev,j < 6→lev < 3→Fit 30000 m→m.lg.length≤900000→DeedSp (H.fn 777) p m dp j lev (deedF p lev j m)
section
variable (P:Params)
noncomputable abbrev sc777:Scope:=(fdOf (KP P) 777).scope
noncomputable def sq (p:Pg) (j i:Nat) (b:Bool):Prop:=seq (dsS (p.deed j).sort) (dsS i)=b
section
variable {P} {H:Hooks} {p:Pg} {m:MS} {dp:Int} {j lev dep:Nat} {sc:Scope}
noncomputable abbrev DRn (P:Params) (H:Hooks) (p:Pg) (m:MS) (dp:Int) (j lev dep:Nat) (sc:Scope) (r:Res AV) (σ:List AObj):Prop:=Runs Weak (F P H 777 [.inst 593 2,.sl (wds j lev),dDat p]) ⟨sc,none,dep,0⟩ [] (hB p m dp) r [] σ
noncomputable abbrev CR (P:Params) (H:Hooks) (p:Pg) (m:MS) (dp:Int) (j lev dep:Nat) (a:Addr) (as:List AV) (m':MS):Prop:=Runs Weak (H.fn a as) ⟨sc777 P,none,dep+1,0⟩ [] (hB p (m.logD j lev) dp) (.ok .none) [] (hB p m' dp)
structure Sq (p:Pg) (j:Nat) (a b c d:Bool):Prop where
  h0:sq p j 0 a
  h1:sq p j 1 b
  h2:sq p j 2 c
  h3:sq p j 3 d
theorem sq_of (w:WfPg p) {k:Nat} (hs:(p.deed j).sort=k):Sq p j (decide (k=0)) (decide (k=1)) (decide (k=2)) (decide (k=3)):=by
  have q:=fun i hi=>sort_seq (w.st j) i hi
  rw [hs] at q
  refine ⟨?_,?_,?_,?_⟩<;>(delta sq;rw [hs];exact q _ (by decide))
theorem sd_put {nm:Nat} (hd:dep≤460) (q:CR P H p m dp j lev dep 562 [.inst 593 2,.ss (nmS nm),.ref 770] ((m.logD j lev).put nm)) (x:pIx nmL (p.deed j).name (.ss (nmS nm))) (pre:AllP (pPre p m j lev)) (fin:AllP (pEnd j lev)) (z:Sq p j true false false false):DRn P H p m dp j lev dep sc (.ok (.ss (wOf j))) (hB p ((m.logD j lev).put nm) dp) :=
  Runs.msk Weak.refl [] [] (oPre p j lev++[.b true,.v (.ss (nmS nm)),.cut 10 [.inst 593 2,.ss (nmS nm),.ref 770] (hB p (m.logD j lev) dp) (.ok .none) (hB p ((m.logD j lev).put nm) dp),.b false,.b false,.b false,oEnd j])
    (pEnd j lev++(sq p j 3 false::sq p j 2 false::sq p j 1 false::(dep+1≤500)::WkL [.inst 593 2,.ss (nmS nm),.ref 770] [.inst 593 2,.ss (nmS nm),.ref 770]::WkS (hB p (m.logD j lev) dp) (hB p (m.logD j lev) dp) ::
      CR P H p m dp j lev dep 562 [.inst 593 2,.ss (nmS nm),.ref 770] ((m.logD j lev).put nm)::pIx nmL (p.deed j).name (.ss (nmS nm))::sq p j 0 true::pPre p m j lev))
    (by kernel_rfl) rfl (allP_app fin ⟨z.h3,z.h2,z.h1,leP hd rfl,.refl _,.refl _,q,x,z.h0,pre⟩)
theorem sd_del {nm:Nat} (hd:dep≤460) (q:CR P H p m dp j lev dep 569 [.inst 593 2,.ss (nmS nm)] ((m.logD j lev).del nm)) (x:pIx nmL (p.deed j).name (.ss (nmS nm))) (pre:AllP (pPre p m j lev)) (fin:AllP (pEnd j lev)) (z:Sq p j false true false false):DRn P H p m dp j lev dep sc (.ok (.ss (wOf j))) (hB p ((m.logD j lev).del nm) dp) :=
  Runs.msk Weak.refl [] [] (oPre p j lev++[.b false,.b true,.v (.ss (nmS nm)),.cut 10 [.inst 593 2,.ss (nmS nm)] (hB p (m.logD j lev) dp) (.ok .none) (hB p ((m.logD j lev).del nm) dp),.b false,.b false,oEnd j])
    (pEnd j lev++(sq p j 3 false::sq p j 2 false::(dep+1≤500)::WkL [.inst 593 2,.ss (nmS nm)] [.inst 593 2,.ss (nmS nm)]::WkS (hB p (m.logD j lev) dp) (hB p (m.logD j lev) dp) ::
      CR P H p m dp j lev dep 569 [.inst 593 2,.ss (nmS nm)] ((m.logD j lev).del nm)::pIx nmL (p.deed j).name (.ss (nmS nm))::sq p j 1 true::sq p j 0 false::pPre p m j lev))
    (by kernel_rfl) rfl (allP_app fin ⟨z.h3,z.h2,leP hd rfl,.refl _,.refl _,q,x,z.h1,z.h0,pre⟩)
noncomputable def addE:Nat→List (Str × AV)
  | 3=>[(nmS 3,.ref 770)]
  | i=>[(nmS i,.ref 770),(nmS 3,.ref 770)]
theorem sd_add0 (m':MS):∀ i,i < 4→view [] [] ((F P H 777 [.inst 593 2,.sl (wds j lev),dDat p]).run ⟨sc,none,dep,0⟩ ⟨[],hB p m dp,oPre p j lev++[.b false,.b false,.b true,.v (.str (nmS i)),.cut 10 [.inst 593 2,.fd (addE i)] (hB p (m.logD j lev) dp) (.ok .none) (hB p m' dp),.b false,oEnd j],[]⟩) =
    some (.ok (.ss (wOf j)),[],hB p m' dp,[],pEnd j lev++(sq p j 3 false::(dep+1≤500)::WkL [.inst 593 2,.fd (addE i)] [.inst 593 2,.fd (addE i)]::WkS (hB p (m.logD j lev) dp) (hB p (m.logD j lev) dp) ::
      CR P H p m dp j lev dep 576 [.inst 593 2,.fd (addE i)] m'::pIx nmL (p.deed j).name (.str (nmS i))::sq p j 2 true::sq p j 1 false::sq p j 0 false::pPre p m j lev)) :=
  all4 (Q:=fun i=>view [] [] ((F P H 777 [.inst 593 2,.sl (wds j lev),dDat p]).run ⟨sc,none,dep,0⟩ ⟨[],hB p m dp,oPre p j lev++[.b false,.b false,.b true,.v (.str (nmS i)),.cut 10 [.inst 593 2,.fd (addE i)] (hB p (m.logD j lev) dp) (.ok .none) (hB p m' dp),.b false,oEnd j],[]⟩) =
    some (.ok (.ss (wOf j)),[],hB p m' dp,[],pEnd j lev++(sq p j 3 false::(dep+1≤500)::WkL [.inst 593 2,.fd (addE i)] [.inst 593 2,.fd (addE i)]::WkS (hB p (m.logD j lev) dp) (hB p (m.logD j lev) dp) ::
      CR P H p m dp j lev dep 576 [.inst 593 2,.fd (addE i)] m'::pIx nmL (p.deed j).name (.str (nmS i))::sq p j 2 true::sq p j 1 false::sq p j 0 false::pPre p m j lev))) (by kernel_rfl) (by kernel_rfl) (by kernel_rfl) (by kernel_rfl)
theorem sd_add {i:Nat} {m':MS} (hi:i < 4) (hd:dep≤460) (q:CR P H p m dp j lev dep 576 [.inst 593 2,.fd (addE i)] m') (x:pIx nmL (p.deed j).name (.str (nmS i))) (pre:AllP (pPre p m j lev)) (fin:AllP (pEnd j lev)) (z:Sq p j false false true false):DRn P H p m dp j lev dep sc (.ok (.ss (wOf j))) (hB p m' dp) :=
  Runs.msk Weak.refl [] [] _ _ (sd_add0 m' i hi) rfl (allP_app fin ⟨z.h3,leP hd rfl,.refl _,.refl _,q,x,z.h2,z.h1,z.h0,pre⟩)
theorem add_cr (hA:AddOk H p) (fl:Fit 40000 (m.logD j lev)) (hd:dep≤460) (i:Nat) (hi:i < 4):CR P H p m dp j lev dep 576 [.inst 593 2,.fd (addE i)] ((m.logD j lev).add i) :=
  all4 (Q:=fun i=>CR P H p m dp j lev dep 576 [.inst 593 2,.fd (addE i)] ((m.logD j lev).add i)) (hA.1 _ dp 0 (by decide) fl _ _ (leP hd rfl)) (hA.1 _ dp 1 (by decide) fl _ _ (leP hd rfl)) (hA.1 _ dp 2 (by decide) fl _ _ (leP hd rfl)) (hA.2.1 _ dp fl _ _ (leP hd rfl)) i hi
theorem to_max {x:Int} {n:Nat}:(if x > Int.ofNat n+1 then x else Int.ofNat n+1)=.ofNat (max (n+1) x.toNat):=by
  simp only [Int.ofNat_eq_natCast]
  split<;>omega
theorem lvl_t {n:Nat} (h:n < 2):decide (Int.ofNat n < 2)=true:=decide_eq_true (Int.ofNat_lt.mpr h)
theorem lvl_f {n:Nat} (h:¬ n < 2):decide (Int.ofNat n < 2)=false:=decide_eq_false fun z=>h (Int.ofNat_lt.mp z)
theorem len_t {n:Nat} (h:n < 12):decide ((n:Int) < 12)=true:=decide_eq_true (Int.ofNat_lt.mpr h)
theorem len_f {n:Nat} (h:¬ n < 12):decide ((n:Int) < 12)=false:=decide_eq_false fun z=>h (Int.ofNat_lt.mp z)
theorem pT_fit {L:Nat} (h:L < 3):slen (sOf [80])+slen (intS (.ofNat L))≤sizeLine:=by rw [intS_len (ltL h rfl)];decide
theorem sd_nest {L:Nat} (hL:(if (p.deed j).to > Int.ofNat lev+1 then (p.deed j).to else Int.ofNat lev+1)=.ofNat L) (h3:L < 3) (hc1:lev < 2) (hc2:(m.logD j lev).lg.length < 12) (pre:AllP (pPre p m j lev)) (z:Sq p j false false false true):DRn P H p m dp j lev dep sc (.ok (.inst 105 10)) (hB p (m.logD j lev) dp++[nestO L p.b]) :=
  Runs.msk Weak.refl [] [] (oPre p j lev++[.b false,.b false,.b false,.b true,.b true,.b true,.v (.si (.ofNat L))])
    ((slen (sOf [80])+slen (intS (.ofNat L))≤sizeLine)::((Int.ofNat L).natAbs < 1000000)::(∃ l',intOf (.si (.ofNat L))=some (l',if (p.deed j).to > Int.ofNat lev+1 then (p.deed j).to else Int.ofNat lev+1))::(decide (((m.logD j lev).lg.length:Int) < 12)=true) ::
      ((m.logD j lev).lg.length≤4611686018427387904)::(decide (Int.ofNat lev < 2)=true)::sq p j 3 true::sq p j 2 false::sq p j 1 false::sq p j 0 false::pPre p m j lev)
    (by kernel_rfl) rfl ⟨pT_fit h3,ltL h3 rfl,⟨false,by rw [hL];rfl⟩,len_t hc2,Nat.le_trans (Nat.le_of_lt hc2) (by decide),lvl_t hc1,z.h3,z.h2,z.h1,z.h0,pre⟩
theorem sd_deep (hc1:lev < 2) (hc2:¬ (m.logD j lev).lg.length < 12) (hm:(m.logD j lev).lg.length≤4611686018427387904) (pre:AllP (pPre p m j lev)) (fin:AllP (pEnd j lev)) (z:Sq p j false false false true):DRn P H p m dp j lev dep sc (.ok (.ss (wOf j))) (hB p (m.logD j lev) dp) :=
  Runs.msk Weak.refl [] [] (oPre p j lev++[.b false,.b false,.b false,.b true,.b true,.b false,oEnd j])
    (pEnd j lev++((decide (((m.logD j lev).lg.length:Int) < 12)=false)::((m.logD j lev).lg.length≤4611686018427387904)::(decide (Int.ofNat lev < 2)=true)::sq p j 3 true::sq p j 2 false::sq p j 1 false::sq p j 0 false::pPre p m j lev))
    (by kernel_rfl) rfl (allP_app fin ⟨len_f hc2,hm,lvl_t hc1,z.h3,z.h2,z.h1,z.h0,pre⟩)
theorem sd_last (hc1:¬ lev < 2) (pre:AllP (pPre p m j lev)) (fin:AllP (pEnd j lev)) (z:Sq p j false false false true):DRn P H p m dp j lev dep sc (.ok (.ss (wOf j))) (hB p (m.logD j lev) dp) :=
  Runs.msk Weak.refl [] [] (oPre p j lev++[.b false,.b false,.b false,.b true,.b false,oEnd j])
    (pEnd j lev++((decide (Int.ofNat lev < 2)=false)::sq p j 3 true::sq p j 2 false::sq p j 1 false::sq p j 0 false::pPre p m j lev)) (by kernel_rfl) rfl (allP_app fin ⟨lvl_f hc1,z.h3,z.h2,z.h1,z.h0,pre⟩)
theorem sd_none (pre:AllP (pPre p m j lev)) (fin:AllP (pEnd j lev)) (z:Sq p j false false false false):DRn P H p m dp j lev dep sc (.ok (.ss (wOf j))) (hB p (m.logD j lev) dp) :=
  Runs.msk Weak.refl [] [] (oPre p j lev++[.b false,.b false,.b false,.b false,oEnd j]) (pEnd j lev++(sq p j 3 false::sq p j 2 false::sq p j 1 false::sq p j 0 false::pPre p m j lev)) (by kernel_rfl) rfl (allP_app fin ⟨z.h3,z.h2,z.h1,z.h0,pre⟩)
end
theorem lgD_len (m:MS) (j lev:Nat):(m.logD j lev).lg.length=m.lg.length+1:=List.length_append
theorem max_lt {p:Pg} (w:WfPg p) {j lev:Nat} (hs:(p.deed j).sort=3) (hc:lev < 2):max (lev+1) (p.deed j).to.toNat < 3:=Nat.max_lt.mpr ⟨Nat.succ_lt_succ hc,Nat.lt_succ_of_le (Int.toNat_le.mpr (w.to j hs))⟩
theorem sq_none {p:Pg} (w:WfPg p) {j k:Nat} (hs:(p.deed j).sort=k+4):Sq p j false false false false:=sq_of w hs
theorem s_deed (H:Hooks) (p:Pg) (w:WfPg p) (hD:DelOk H p) (hP:PutOk H p) (hA:AddOk H p) (m:MS) (dp:Int) (j lev:Nat) (hj:j < 6) (hl:lev < 3) (fm:Fit 30000 m) (hm:m.lg.length≤900000):DeedSp (F P H 777) p m dp j lev (deedF p lev j m) :=
  have pre:=pPre_ok p m hj hl (leL hm rfl)
  have fin:=pEnd_ok (lev:=lev) hj
  have fl:Fit 30000 (m.logD j lev):=⟨fm.cm,fm.fi⟩
  have hnm:=w.nm j
  have x:pIx nmL (p.deed j).name (.ss (nmS (p.deed j).name)):=pIx_ok (nm_at hnm) (ltL hnm rfl) .ss
  deedF_el (Q:=DeedSp (F P H 777) p m dp j lev) (fun hs _ _ hd=>sd_put hd (hP (m.logD j lev) dp _ hnm (fl.le (by decide)) [] (.inl rfl) _ _ (leP hd rfl)) x pre fin (sq_of w hs)) (fun hs _ _ hd=>sd_del hd (hD (m.logD j lev) dp _ hnm (fl.le (by decide)) _ _ (leP hd rfl)) x pre fin (sq_of w hs))
    (fun hs _ _ hd=>sd_add hnm hd (add_cr hA (fl.le (by decide)) hd _ hnm) (pIx_ok (nm_at hnm) (ltL hnm rfl) (.refl _)) pre fin (sq_of w hs)) (fun hs h1 h2 _ _ _=>sd_nest to_max (max_lt w hs h1) h1 h2 pre (sq_of w hs))
    (fun hs h _ _ _=>(Nat.lt_or_ge lev 2).elim (fun c=>sd_deep c (fun d=>h ⟨c,d⟩) (lgD_len m j lev▸leP hm rfl) pre fin (sq_of w hs)) fun c=>sd_last (Nat.not_lt.mpr c) pre fin (sq_of w hs)) (fun _ hs _ _ _=>sd_none pre fin (sq_none w hs))
end
end T
namespace T
noncomputable def softV:AV→AV
  | .int i=>.si i
  | v=>v
noncomputable def softE:List (Str × AV)→List (Str × AV)
  | []=>[]
  | e::r=>(e.1,softV e.2)::softE r
noncomputable def softO:AObj→AObj
  | .list s vs=>.list (s || vs.isEmpty) vs
  | .sd s es=>.sd s (softE es)
  | b=>b
theorem softV_wk (a:AV):Weak a (softV a):=by
  cases a with
  | int i=>exact .si
  | _=>exact .refl _
theorem softE_rel {c:Cc} {es:List (Str × AV)} {y:List DictEntry} (r:SRels c es y):SRels c (softE es) y :=
  r.ind (P:=fun es y=>SRels c (softE es) y) .nil fun _ _ _ _ _ h1 h2 h3 _ ih=>.cons h1 h2 (softV_wk _ _ _ h3) ih
theorem softO_wk (b:AObj):WkO b (softO b):=by
  cases b with
  | list s vs=>cases s with
    | true=>exact .refl _
    | false=>cases vs with
      | nil=>exact .symN
      | cons _ _=>exact .refl _
  | sd s es=>exact fun hb c o ⟨ens,n,e,r⟩=>⟨ens,n,e,softE_rel r⟩
  | _=>exact .refl _
noncomputable def adjF (I J:List Nat) (i:Nat) (b:AObj):AObj:=cond (memN I i) .gone (cond (memN J i) (softO b) b)
noncomputable def adj (I J:List Nat):Nat→List AObj→List AObj:=mapI (adjF I J)
theorem adjF_wk (I J:List Nat) (i:Nat) (b:AObj):WkO b (adjF I J i b):=.cond (.gone b) (.cond (softO_wk b) (.refl b))
noncomputable def turn (bE:EM AFlow) (n0:Nat) (rd:Rd) (ls:List (Str × AV)) (σ:List AObj) (orc:List Orc) (I J K:List Nat):Option (List (Str × AV) × List AObj × List Orc × List Prop) :=
  obn (bE.run ⟨rd.sc,rd.hnd,rd.dep,0⟩ ⟨ls,σ,orc,[]⟩) fun p=>nextR p.1 (noHnd rd.hnd (obn (compC n0 p.2.ls (adj I J 0 p.2.σ) K) fun q=>some (q.1,q.2,p.2.orc,p.2.obl)))
theorem LpT.of {mt:EM Bool} {bE:EM AFlow} {rd:Rd} {n0:Nat} {ls ls2:List (Str × AV)} {σ σ2:List AObj} (orc:List Orc) (I J K:List Nat) (ps:List Prop) (t:∀ orc obl,mt.run rd ⟨ls,σ,orc,obl⟩=some (.ok true,⟨ls,σ,orc,obl⟩))
    (e:turn bE n0 rd ls σ orc I J K=some (ls2,σ2,[],ps)) (h:AllP ps):LpT mt bE rd n0 ls σ ls2 σ2 :=
  Ok.obn (e▸rfl:Ok (·=(ls2,σ2,[],ps)) (turn bE n0 rd ls σ orc I J K)) fun p e1 P=>nextR_get P fun e2 P=>Ok.noHnd P fun hh P=>P.obn fun q e3 P=>by
    obtain ⟨r,l,s,o,b⟩:=p
    cases e2
    cases (P:_=_)
    exact ⟨t,l,adj I J 0 s,K,⟨orc,_,_,_,_,e1,h,.ok .next,.refl _,.mapI (adjF_wk I J) 0 s⟩,comp_run hh e3⟩
noncomputable def MS.stp (m:MS):MS:={m with st:=m.st+1}
noncomputable def MS.spd (m:MS):MS:={m with sp:=m.sp+1}
noncomputable def RowAt (f:Fr) (w:AV):Prop:=f.R.length≤100000∧∃ n b,f.pc=.ofNat n∧n < f.R.length∧f.R[n]?=some b∧Weak b w
noncomputable def pRow (f:Fr) (w:AV):List Prop:=[∃ n b,f.pc=.ofNat n∧n < 1000000∧f.R[n]?=some b∧Weak b w,decide (f.pc ≥ (f.R.length:Int))=false,f.R.length≤4611686018427387904]
theorem pRow_ok {f:Fr} {w:AV} (h:RowAt f w):AllP (pRow f w):=by
  obtain ⟨h1,n,b,h2,h3,h4,h5⟩:=h
  exact ⟨⟨n,b,h2,by omega,h4,h5⟩,by rw [h2];simp;omega,by omega,trivial⟩
noncomputable def StOk (st:List AV):Prop:=st.length≤100000∧∀ v∈st,Cl v
noncomputable def pTk (st tx s2:List AV) (k:Int):List Prop:=[∃ n,(st.length:Int) - k=.ofNat n∧st.take n=s2,st.length≤sizeLine,∀ v∈st,Cl v,∃ n,(st.length:Int) - k=.ofNat n∧st.drop n=tx,st.length≤sizeLine,∀ v∈st,Cl v,st.length≤4611686018427387904]
theorem pTk_ok {tx s2:List AV} (h:StOk (s2++tx)):AllP (pTk (s2++tx) tx s2 (tx.length:Int)):=by
  obtain ⟨h1,h2⟩:=h
  have hz:(100000:Nat)≤sizeLine:=by decide
  have e:((s2++tx).length:Int) - (tx.length:Int)=.ofNat s2.length:=by simp
  exact ⟨⟨_,e,by simp⟩,by omega,h2,⟨_,e,by simp⟩,by omega,h2,by omega,trivial⟩
noncomputable def pBeg (p:Pg) (m:MS) (j lev:Nat):List Prop:=[m.cm.contains dW=true,lk (cmTab p) dW=some (.tup [.ref 777,dDat p]),pIx (wds j lev) 0 (.ss dW),m.cm.contains dW=true,pIx (wds j lev) 0 (.ss dW),false=false,(3:Nat)≤4611686018427387904]
theorem pBeg_ok {p:Pg} {m:MS} {j lev:Nat} (h:m.cm.contains dW=true):AllP (pBeg p m j lev):=⟨h,rfl,pIx_ok rfl (by decide) (.refl _),h,pIx_ok rfl (by decide) (.refl _),rfl,by decide,trivial⟩
noncomputable def oInv (p:Pg) (j lev:Nat) (s2:List AV):List Orc:=[.b false,.v (avR .inv),.vs (wds j lev),.vs s2,.b false,.v (.ss dW),.b true,.v (.ss dW),.v (.tup [.ref 777,dDat p])]
noncomputable def Fr.nx (f:Fr) (st:List AV):Fr:={f with pc:=f.pc+1,st:=st}
end T
namespace T
section
variable (P:Params)
theorem st_left {s2 tx:List AV} (h:StOk (s2++tx)):s2.length≤sizeLine:=by
  have:=h.1
  rw [List.length_append] at this
  have hz:(100000:Nat)≤sizeLine:=by decide
  omega
noncomputable def mBb (p:Pg) (m:MS) (dp:Int) (acts text:AV) (al:List AV) (bk:List (BK × AV)):List AObj:=take' 12 (mB p m dp acts text al)++[.bd bk]
noncomputable def c2b (p:Pg) (m:MS) (bk:List (BK × AV)) (f1:Fr) (l2:Nat) (f:Fr):List AObj:=mBb p m 1 (.mut 19) (.str (sOf [])) [] bk++drop' 13 (c2 p m f1 l2 f)
noncomputable def c3b (p:Pg) (m:MS) (bk:List (BK × AV)) (f1:Fr) (l2:Nat) (f2:Fr) (l3:Nat) (f:Fr):List AObj:=mBb p m 1 (.mut 19) (.str (sOf [])) [] bk++drop' 13 (c3 p m f1 l2 f2 l3 f)
theorem c2_bk {p:Pg} {m:MS} {bk:List (BK × AV)} (h:m.ak.map (bkA p)=bk) (f1:Fr) (l2:Nat) (f:Fr):c2 p m f1 l2 f=c2b p m bk f1 l2 f:=by subst h;rfl
theorem c3_bk {p:Pg} {m:MS} {bk:List (BK × AV)} (h:m.ak.map (bkA p)=bk) (f1:Fr) (l2:Nat) (f2:Fr) (l3:Nat) (f:Fr):c3 p m f1 l2 f2 l3 f=c3b p m bk f1 l2 f2 l3 f:=by subst h;rfl
noncomputable abbrev LT (H:Hooks) (dep:Nat) (σ σ':List AObj):Prop:=LpT (testE P H) (stepE P H) (rdR P dep) 20 lsR σ lsR σ'
noncomputable abbrev sc476:Scope:=(fdOf (KP P) 476).scope
noncomputable abbrev sc230:Scope:=(fdOf (KP P) 230).scope
noncomputable abbrev sc392:Scope:=(fdOf (KP P) 392).scope
theorem pushA (H:Hooks) (p:Pg) (m:MS) (f:Fr) (dep:Nat) (v:AV) (x:Str) (hr:RowAt f (avR (.push (.ss x) x))) (hs:f.st.length≤100000):LT P H dep (cA p m f) (cA p m.stp (f.nx (f.st++[.ss x]))):=by
  refine LpT.of [.b false,.v (avR (.push (.ss x) x))] [] [] [] ((f.st.length≤sizeLine)::pRow f (avR (.push (.ss x) x))) (fun orc obl=>by kernel_rfl) ?_ ?_
  · kernel_rfl
  · exact ⟨Nat.le_trans hs (by decide),pRow_ok hr⟩
theorem joinA (H:Hooks) (p:Pg) (m:MS) (f:Fr) (dep:Nat) (tx s2:List AV) (ys:List Str) (hf:f.st=s2++tx) (hr:RowAt f (avR (.join tx.length))) (hs:StOk f.st) (hy:strsOf tx=some ys) (hz:(ys.map slen).sum≤16000000):LT P H dep (cA p m f) (cB p m.stp (f.nx (s2++[.ss (joinE ys)]))):=by
  refine LpT.of [.b false,.v (avR (.join tx.length)),.vs tx,.vs s2,.v (.ss (joinE ys))] [15] [] [20] ((s2.length≤sizeLine)::(∃ zs,strsOf tx=some zs∧(zs.map slen).sum≤16000000∧AV.ss (joinE ys)=.ss (joinE zs))::pTk f.st tx s2 (tx.length:Int)++pRow f (avR (.join tx.length))) (fun orc obl=>by kernel_rfl) ?_ ?_
  · kernel_rfl
  · exact ⟨st_left (hf▸hs),⟨ys,hy,hz,rfl⟩,allP_app (by rw [hf] at hs ⊢;exact pTk_ok hs) (pRow_ok hr)⟩
theorem eqStA (H:Hooks) (p:Pg) (m:MS) (f:Fr) (dep:Nat) (t:Bool) (k b:Nat) (hr:RowAt f (avR (.start t k b))) (he:m.ep=f.e):LT P H dep (cA p m f) (cA p m.stp (f.nx f.st)):=by
  refine LpT.of [.b false,.v (avR (.start t k b)),.b false] [] [] [] (((m.ep != f.e)=false)::pRow f (avR (.start t k b))) (fun orc obl=>by kernel_rfl) ?_ ?_
  · kernel_rfl
  · exact ⟨by rw [he];simp,pRow_ok hr⟩
theorem textA (H:Hooks) (p:Pg) (m:MS) (f:Fr) (m':MS) (dep:Nat) (j lev:Nat) (x:Str) (s2:List AV) (hd:dep≤400) (hf:f.st=s2++wds j lev) (hr:RowAt f (avR .inv)) (hs:StOk f.st) (hw:m.cm.contains dW=true) (hq:Spec (H.fn 777) [.inst 593 2,.sl (wds j lev),dDat p] (hB p m.spd 1) (.ok (.ss x)) (hB p m' 1) 460):LT P H dep (cA p m f) (cB p {m' with st:=m.st+1,ak:=m.ak} (f.nx (s2++[.ss x]))):=by
  refine LpT.of (oInv p j lev s2++[.cut 10 [.inst 593 2,.sl (wds j lev),dDat p] (hB p m.spd 1) (.ok (.ss x)) (hB p m' 1)]) [15] [] [20] ((s2.length≤sizeLine)::(dep+5≤500)::WkL [.inst 593 2,.sl (wds j lev),dDat p] [.inst 593 2,.sl (wds j lev),dDat p]::WkS (hB p m.spd 1) (hB p m.spd 1)::Runs Weak (H.fn 777 [.inst 593 2,.sl (wds j lev),dDat p]) ⟨sc476 P,none,dep+5,0⟩ [] (hB p m.spd 1) (.ok (.ss x)) [] (hB p m' 1)::(pBeg p m j lev++(pTk f.st (wds j lev) s2 3++pRow f (avR .inv)))) (fun orc obl=>by kernel_rfl) ?_ ?_
  · kernel_rfl
  · exact ⟨st_left (hf▸hs),by omega,.refl _,.refl _,hq _ _ (by omega),allP_app (pBeg_ok hw) (allP_app (by rw [hf] at hs ⊢;exact pTk_ok hs) (pRow_ok hr))⟩
theorem hitA (H:Hooks) (p:Pg) (m:MS) (f:Fr) (m':MS) (dep:Nat) (j lev l:Nat) (s2:List AV) (hd:dep≤400) (hf:f.st=s2++wds j lev) (hr:RowAt f (avR .inv)) (hs:StOk f.st) (hw:m.cm.contains dW=true) (hq:Spec (H.fn 777) [.inst 593 2,.sl (wds j lev),dDat p] (hB p m.spd 1) (.ok (.inst 105 10)) (hB p m' 1++[nestO l p.b]) 460) (hk:lkD (m.ak.map (bkA p)) (pT l,p.b,sOf [58,58])=some (cdA p l m'.ep)):LT P H dep (cA p m f) (c2 p {m' with st:=m.st+1,ak:=m.ak} (f.nx s2) l ⟨(rwA p l).map avR,m'.ep,0,[]⟩):=by
  refine LpT.of (oInv p j lev s2++[.cut 10 [.inst 593 2,.sl (wds j lev),dDat p] (hB p m.spd 1) (.ok (.inst 105 10)) (hB p m' 1++[nestO l p.b]),.v (cdA p l m'.ep),.b false]) [15] [21,22] [20,21,22] (((m'.ep != m'.ep)=false)::((lkD (m.ak.map (bkA p)) (pT l,p.b,sOf [58,58])).getD .none=cdA p l m'.ep)::(dep+6≤600)::(dep+5≤500)::WkL [.inst 593 2,.sl (wds j lev),dDat p] [.inst 593 2,.sl (wds j lev),dDat p]::WkS (hB p m.spd 1) (hB p m.spd 1)::Runs Weak (H.fn 777 [.inst 593 2,.sl (wds j lev),dDat p]) ⟨sc476 P,none,dep+5,0⟩ [] (hB p m.spd 1) (.ok (.inst 105 10)) [] (hB p m' 1++[nestO l p.b])::(pBeg p m j lev++(pTk f.st (wds j lev) s2 3++pRow f (avR .inv)))) (fun orc obl=>by kernel_rfl) ?_ ?_
  · kernel_rfl
  · exact ⟨by simp,by rw [hk];rfl,by omega,by omega,.refl _,.refl _,hq _ _ (by omega),allP_app (pBeg_ok hw) (allP_app (by rw [hf] at hs ⊢;exact pTk_ok hs) (pRow_ok hr))⟩
theorem newA (H:Hooks) (p:Pg) (m:MS) (f:Fr) (m':MS) (dep:Nat) (j lev l:Nat) (s2:List AV) (hd:dep≤400) (hf:f.st=s2++wds j lev) (hr:RowAt f (avR .inv)) (hs:StOk f.st) (hw:m.cm.contains dW=true) (hq:Spec (H.fn 777) [.inst 593 2,.sl (wds j lev),dDat p] (hB p m.spd 1) (.ok (.inst 105 10)) (hB p m' 1++[nestO l p.b]) 460) (hk:lkD (m.ak.map (bkA p)) (pT l,p.b,sOf [58,58])=none) (hb:m.ak.length≤1000000) (hm:Spec (H.fn 763) [.inst 593 2,.ss (pT l),.bool p.b] (hB p m' 1) (.ok (.inst 324 14)) (hB p (logM m' l p.b) 1++mkT p m' l) 440) (ak':List ((Nat × Bool) × Int)) (hak:ak'.map (bkA p)=putD (m.ak.map (bkA p)) (pT l,p.b,sOf [58,58]) (cdA p l m'.ep)):LT P H dep (cA p m f) (c2 p {logM m' l p.b with st:=m.st+1,ak:=ak'} (f.nx s2) l ⟨(rwA p l).map avR,m'.ep,0,[]⟩):=by
  rw [c2_bk (m:={logM m' l p.b with st:=m.st+1,ak:=ak'}) hak]
  refine LpT.of (oInv p j lev s2++[.cut 10 [.inst 593 2,.sl (wds j lev),dDat p] (hB p m.spd 1) (.ok (.inst 105 10)) (hB p m' 1++[nestO l p.b]),.v .none,.cut 10 [.inst 593 2,.ss (pT l),.bool p.b] (hB p m' 1) (.ok (.inst 324 14)) (hB p (logM m' l p.b) 1++mkT p m' l)]) [15] [21,22] [20,21,22] (((m.ak.map (bkA p)).length≤1000000)::(dep+6≤600)::(dep+6≤500)::WkL [.inst 593 2,.ss (pT l),.bool p.b] [.inst 593 2,.ss (pT l),.bool p.b]::WkS (hB p m' 1) (hB p m' 1)::Runs Weak (H.fn 763 [.inst 593 2,.ss (pT l),.bool p.b]) ⟨sc230 P,none,dep+6,0⟩ [] (hB p m' 1) (.ok (.inst 324 14)) [] (hB p (logM m' l p.b) 1++mkT p m' l)::((lkD (m.ak.map (bkA p)) (pT l,p.b,sOf [58,58])).getD .none=.none)::(dep+6≤600)::(dep+5≤500)::WkL [.inst 593 2,.sl (wds j lev),dDat p] [.inst 593 2,.sl (wds j lev),dDat p]::WkS (hB p m.spd 1) (hB p m.spd 1)::Runs Weak (H.fn 777 [.inst 593 2,.sl (wds j lev),dDat p]) ⟨sc476 P,none,dep+5,0⟩ [] (hB p m.spd 1) (.ok (.inst 105 10)) [] (hB p m' 1++[nestO l p.b])::(pBeg p m j lev++(pTk f.st (wds j lev) s2 3++pRow f (avR .inv)))) (fun orc obl=>by kernel_rfl) ?_ ?_
  · kernel_rfl
  · exact ⟨by simpa using hb,by omega,by omega,.refl _,.refl _,hm _ _ (by omega),by rw [hk];rfl,by omega,by omega,.refl _,.refl _,hq _ _ (by omega),allP_app (pBeg_ok hw) (allP_app (by rw [hf] at hs ⊢;exact pTk_ok hs) (pRow_ok hr))⟩
theorem oldA (H:Hooks) (p:Pg) (m:MS) (f:Fr) (m':MS) (dep:Nat) (j lev l:Nat) (s2:List AV) (hd:dep≤400) (hf:f.st=s2++wds j lev) (hr:RowAt f (avR .inv)) (hs:StOk f.st) (hw:m.cm.contains dW=true) (hq:Spec (H.fn 777) [.inst 593 2,.sl (wds j lev),dDat p] (hB p m.spd 1) (.ok (.inst 105 10)) (hB p m' 1++[nestO l p.b]) 460) (e:Int) (hk:lkD (m.ak.map (bkA p)) (pT l,p.b,sOf [58,58])=some (cdA p l e)) (he:e ≠ m'.ep) (hb:m.ak.length≤1000000) (hm:Spec (H.fn 763) [.inst 593 2,.ss (pT l),.bool p.b] (hB p m' 1) (.ok (.inst 324 14)) (hB p (logM m' l p.b) 1++mkT p m' l) 440) (ak':List ((Nat × Bool) × Int)) (hak:ak'.map (bkA p)=putD (m.ak.map (bkA p)) (pT l,p.b,sOf [58,58]) (cdA p l m'.ep)):LT P H dep (cA p m f) (c2 p {logM m' l p.b with st:=m.st+1,ak:=ak'} (f.nx s2) l ⟨(rwA p l).map avR,m'.ep,0,[]⟩):=by
  rw [c2_bk (m:={logM m' l p.b with st:=m.st+1,ak:=ak'}) hak]
  refine LpT.of (oInv p j lev s2++[.cut 10 [.inst 593 2,.sl (wds j lev),dDat p] (hB p m.spd 1) (.ok (.inst 105 10)) (hB p m' 1++[nestO l p.b]),.v (cdA p l e),.b true,.cut 10 [.inst 593 2,.ss (pT l),.bool p.b] (hB p m' 1) (.ok (.inst 324 14)) (hB p (logM m' l p.b) 1++mkT p m' l)]) [15] [21,22] [20,21,22] (((m.ak.map (bkA p)).length≤1000000)::(dep+6≤600)::(dep+6≤500)::WkL [.inst 593 2,.ss (pT l),.bool p.b] [.inst 593 2,.ss (pT l),.bool p.b]::WkS (hB p m' 1) (hB p m' 1)::Runs Weak (H.fn 763 [.inst 593 2,.ss (pT l),.bool p.b]) ⟨sc230 P,none,dep+6,0⟩ [] (hB p m' 1) (.ok (.inst 324 14)) [] (hB p (logM m' l p.b) 1++mkT p m' l)::((e != m'.ep)=true)::((lkD (m.ak.map (bkA p)) (pT l,p.b,sOf [58,58])).getD .none=cdA p l e)::(dep+6≤600)::(dep+5≤500)::WkL [.inst 593 2,.sl (wds j lev),dDat p] [.inst 593 2,.sl (wds j lev),dDat p]::WkS (hB p m.spd 1) (hB p m.spd 1)::Runs Weak (H.fn 777 [.inst 593 2,.sl (wds j lev),dDat p]) ⟨sc476 P,none,dep+5,0⟩ [] (hB p m.spd 1) (.ok (.inst 105 10)) [] (hB p m' 1++[nestO l p.b])::(pBeg p m j lev++(pTk f.st (wds j lev) s2 3++pRow f (avR .inv)))) (fun orc obl=>by kernel_rfl) ?_ ?_
  · kernel_rfl
  · exact ⟨by simpa using hb,by omega,by omega,.refl _,.refl _,hm _ _ (by omega),by simpa using he,by rw [hk];rfl,by omega,by omega,.refl _,.refl _,hq _ _ (by omega),allP_app (pBeg_ok hw) (allP_app (by rw [hf] at hs ⊢;exact pTk_ok hs) (pRow_ok hr))⟩
theorem pushB (H:Hooks) (p:Pg) (m:MS) (f:Fr) (dep:Nat) (v:AV) (x:Str) (hr:RowAt f (avR (.push (.ss x) x))) (hs:f.st.length≤100000):LT P H dep (cB p m f) (cB p m.stp (f.nx (f.st++[.ss x]))):=by
  refine LpT.of [.b false,.v (avR (.push (.ss x) x))] [] [] [20] ((f.st.length≤sizeLine)::pRow f (avR (.push (.ss x) x))) (fun orc obl=>by kernel_rfl) ?_ ?_
  · kernel_rfl
  · exact ⟨Nat.le_trans hs (by decide),pRow_ok hr⟩
theorem joinB (H:Hooks) (p:Pg) (m:MS) (f:Fr) (dep:Nat) (tx s2:List AV) (ys:List Str) (hf:f.st=s2++tx) (hr:RowAt f (avR (.join tx.length))) (hs:StOk f.st) (hy:strsOf tx=some ys) (hz:(ys.map slen).sum≤16000000):LT P H dep (cB p m f) (cB p m.stp (f.nx (s2++[.ss (joinE ys)]))):=by
  refine LpT.of [.b false,.v (avR (.join tx.length)),.vs tx,.vs s2,.v (.ss (joinE ys))] [] [] [21] ((s2.length≤sizeLine)::(∃ zs,strsOf tx=some zs∧(zs.map slen).sum≤16000000∧AV.ss (joinE ys)=.ss (joinE zs))::pTk f.st tx s2 (tx.length:Int)++pRow f (avR (.join tx.length))) (fun orc obl=>by kernel_rfl) ?_ ?_
  · kernel_rfl
  · exact ⟨st_left (hf▸hs),⟨ys,hy,hz,rfl⟩,allP_app (by rw [hf] at hs ⊢;exact pTk_ok hs) (pRow_ok hr)⟩
theorem eqStB (H:Hooks) (p:Pg) (m:MS) (f:Fr) (dep:Nat) (t:Bool) (k b:Nat) (hr:RowAt f (avR (.start t k b))) (he:m.ep=f.e):LT P H dep (cB p m f) (cB p m.stp (f.nx f.st)):=by
  refine LpT.of [.b false,.v (avR (.start t k b)),.b false] [] [] [20] (((m.ep != f.e)=false)::pRow f (avR (.start t k b))) (fun orc obl=>by kernel_rfl) ?_ ?_
  · kernel_rfl
  · exact ⟨by rw [he];simp,pRow_ok hr⟩
theorem textB (H:Hooks) (p:Pg) (m:MS) (f:Fr) (m':MS) (dep:Nat) (j lev:Nat) (x:Str) (s2:List AV) (hd:dep≤400) (hf:f.st=s2++wds j lev) (hr:RowAt f (avR .inv)) (hs:StOk f.st) (hw:m.cm.contains dW=true) (hq:Spec (H.fn 777) [.inst 593 2,.sl (wds j lev),dDat p] (hB p m.spd 1) (.ok (.ss x)) (hB p m' 1) 460):LT P H dep (cB p m f) (cB p {m' with st:=m.st+1,ak:=m.ak} (f.nx (s2++[.ss x]))):=by
  refine LpT.of (oInv p j lev s2++[.cut 10 [.inst 593 2,.sl (wds j lev),dDat p] (hB p m.spd 1) (.ok (.ss x)) (hB p m' 1)]) [] [] [21] ((s2.length≤sizeLine)::(dep+5≤500)::WkL [.inst 593 2,.sl (wds j lev),dDat p] [.inst 593 2,.sl (wds j lev),dDat p]::WkS (hB p m.spd 1) (hB p m.spd 1)::Runs Weak (H.fn 777 [.inst 593 2,.sl (wds j lev),dDat p]) ⟨sc476 P,none,dep+5,0⟩ [] (hB p m.spd 1) (.ok (.ss x)) [] (hB p m' 1)::(pBeg p m j lev++(pTk f.st (wds j lev) s2 3++pRow f (avR .inv)))) (fun orc obl=>by kernel_rfl) ?_ ?_
  · kernel_rfl
  · exact ⟨st_left (hf▸hs),by omega,.refl _,.refl _,hq _ _ (by omega),allP_app (pBeg_ok hw) (allP_app (by rw [hf] at hs ⊢;exact pTk_ok hs) (pRow_ok hr))⟩
theorem hitB (H:Hooks) (p:Pg) (m:MS) (f:Fr) (m':MS) (dep:Nat) (j lev l:Nat) (s2:List AV) (hd:dep≤400) (hf:f.st=s2++wds j lev) (hr:RowAt f (avR .inv)) (hs:StOk f.st) (hw:m.cm.contains dW=true) (hq:Spec (H.fn 777) [.inst 593 2,.sl (wds j lev),dDat p] (hB p m.spd 1) (.ok (.inst 105 10)) (hB p m' 1++[nestO l p.b]) 460) (hk:lkD (m.ak.map (bkA p)) (pT l,p.b,sOf [58,58])=some (cdA p l m'.ep)):LT P H dep (cB p m f) (c2 p {m' with st:=m.st+1,ak:=m.ak} (f.nx s2) l ⟨(rwA p l).map avR,m'.ep,0,[]⟩):=by
  refine LpT.of (oInv p j lev s2++[.cut 10 [.inst 593 2,.sl (wds j lev),dDat p] (hB p m.spd 1) (.ok (.inst 105 10)) (hB p m' 1++[nestO l p.b]),.v (cdA p l m'.ep),.b false]) [] [22,23] [21,22,23] (((m'.ep != m'.ep)=false)::((lkD (m.ak.map (bkA p)) (pT l,p.b,sOf [58,58])).getD .none=cdA p l m'.ep)::(dep+6≤600)::(dep+5≤500)::WkL [.inst 593 2,.sl (wds j lev),dDat p] [.inst 593 2,.sl (wds j lev),dDat p]::WkS (hB p m.spd 1) (hB p m.spd 1)::Runs Weak (H.fn 777 [.inst 593 2,.sl (wds j lev),dDat p]) ⟨sc476 P,none,dep+5,0⟩ [] (hB p m.spd 1) (.ok (.inst 105 10)) [] (hB p m' 1++[nestO l p.b])::(pBeg p m j lev++(pTk f.st (wds j lev) s2 3++pRow f (avR .inv)))) (fun orc obl=>by kernel_rfl) ?_ ?_
  · kernel_rfl
  · exact ⟨by simp,by rw [hk];rfl,by omega,by omega,.refl _,.refl _,hq _ _ (by omega),allP_app (pBeg_ok hw) (allP_app (by rw [hf] at hs ⊢;exact pTk_ok hs) (pRow_ok hr))⟩
theorem newB (H:Hooks) (p:Pg) (m:MS) (f:Fr) (m':MS) (dep:Nat) (j lev l:Nat) (s2:List AV) (hd:dep≤400) (hf:f.st=s2++wds j lev) (hr:RowAt f (avR .inv)) (hs:StOk f.st) (hw:m.cm.contains dW=true) (hq:Spec (H.fn 777) [.inst 593 2,.sl (wds j lev),dDat p] (hB p m.spd 1) (.ok (.inst 105 10)) (hB p m' 1++[nestO l p.b]) 460) (hk:lkD (m.ak.map (bkA p)) (pT l,p.b,sOf [58,58])=none) (hb:m.ak.length≤1000000) (hm:Spec (H.fn 763) [.inst 593 2,.ss (pT l),.bool p.b] (hB p m' 1) (.ok (.inst 324 14)) (hB p (logM m' l p.b) 1++mkT p m' l) 440) (ak':List ((Nat × Bool) × Int)) (hak:ak'.map (bkA p)=putD (m.ak.map (bkA p)) (pT l,p.b,sOf [58,58]) (cdA p l m'.ep)):LT P H dep (cB p m f) (c2 p {logM m' l p.b with st:=m.st+1,ak:=ak'} (f.nx s2) l ⟨(rwA p l).map avR,m'.ep,0,[]⟩):=by
  rw [c2_bk (m:={logM m' l p.b with st:=m.st+1,ak:=ak'}) hak]
  refine LpT.of (oInv p j lev s2++[.cut 10 [.inst 593 2,.sl (wds j lev),dDat p] (hB p m.spd 1) (.ok (.inst 105 10)) (hB p m' 1++[nestO l p.b]),.v .none,.cut 10 [.inst 593 2,.ss (pT l),.bool p.b] (hB p m' 1) (.ok (.inst 324 14)) (hB p (logM m' l p.b) 1++mkT p m' l)]) [] [22,23] [21,22,23] (((m.ak.map (bkA p)).length≤1000000)::(dep+6≤600)::(dep+6≤500)::WkL [.inst 593 2,.ss (pT l),.bool p.b] [.inst 593 2,.ss (pT l),.bool p.b]::WkS (hB p m' 1) (hB p m' 1)::Runs Weak (H.fn 763 [.inst 593 2,.ss (pT l),.bool p.b]) ⟨sc230 P,none,dep+6,0⟩ [] (hB p m' 1) (.ok (.inst 324 14)) [] (hB p (logM m' l p.b) 1++mkT p m' l)::((lkD (m.ak.map (bkA p)) (pT l,p.b,sOf [58,58])).getD .none=.none)::(dep+6≤600)::(dep+5≤500)::WkL [.inst 593 2,.sl (wds j lev),dDat p] [.inst 593 2,.sl (wds j lev),dDat p]::WkS (hB p m.spd 1) (hB p m.spd 1)::Runs Weak (H.fn 777 [.inst 593 2,.sl (wds j lev),dDat p]) ⟨sc476 P,none,dep+5,0⟩ [] (hB p m.spd 1) (.ok (.inst 105 10)) [] (hB p m' 1++[nestO l p.b])::(pBeg p m j lev++(pTk f.st (wds j lev) s2 3++pRow f (avR .inv)))) (fun orc obl=>by kernel_rfl) ?_ ?_
  · kernel_rfl
  · exact ⟨by simpa using hb,by omega,by omega,.refl _,.refl _,hm _ _ (by omega),by rw [hk];rfl,by omega,by omega,.refl _,.refl _,hq _ _ (by omega),allP_app (pBeg_ok hw) (allP_app (by rw [hf] at hs ⊢;exact pTk_ok hs) (pRow_ok hr))⟩
theorem oldB (H:Hooks) (p:Pg) (m:MS) (f:Fr) (m':MS) (dep:Nat) (j lev l:Nat) (s2:List AV) (hd:dep≤400) (hf:f.st=s2++wds j lev) (hr:RowAt f (avR .inv)) (hs:StOk f.st) (hw:m.cm.contains dW=true) (hq:Spec (H.fn 777) [.inst 593 2,.sl (wds j lev),dDat p] (hB p m.spd 1) (.ok (.inst 105 10)) (hB p m' 1++[nestO l p.b]) 460) (e:Int) (hk:lkD (m.ak.map (bkA p)) (pT l,p.b,sOf [58,58])=some (cdA p l e)) (he:e ≠ m'.ep) (hb:m.ak.length≤1000000) (hm:Spec (H.fn 763) [.inst 593 2,.ss (pT l),.bool p.b] (hB p m' 1) (.ok (.inst 324 14)) (hB p (logM m' l p.b) 1++mkT p m' l) 440) (ak':List ((Nat × Bool) × Int)) (hak:ak'.map (bkA p)=putD (m.ak.map (bkA p)) (pT l,p.b,sOf [58,58]) (cdA p l m'.ep)):LT P H dep (cB p m f) (c2 p {logM m' l p.b with st:=m.st+1,ak:=ak'} (f.nx s2) l ⟨(rwA p l).map avR,m'.ep,0,[]⟩):=by
  rw [c2_bk (m:={logM m' l p.b with st:=m.st+1,ak:=ak'}) hak]
  refine LpT.of (oInv p j lev s2++[.cut 10 [.inst 593 2,.sl (wds j lev),dDat p] (hB p m.spd 1) (.ok (.inst 105 10)) (hB p m' 1++[nestO l p.b]),.v (cdA p l e),.b true,.cut 10 [.inst 593 2,.ss (pT l),.bool p.b] (hB p m' 1) (.ok (.inst 324 14)) (hB p (logM m' l p.b) 1++mkT p m' l)]) [] [22,23] [21,22,23] (((m.ak.map (bkA p)).length≤1000000)::(dep+6≤600)::(dep+6≤500)::WkL [.inst 593 2,.ss (pT l),.bool p.b] [.inst 593 2,.ss (pT l),.bool p.b]::WkS (hB p m' 1) (hB p m' 1)::Runs Weak (H.fn 763 [.inst 593 2,.ss (pT l),.bool p.b]) ⟨sc230 P,none,dep+6,0⟩ [] (hB p m' 1) (.ok (.inst 324 14)) [] (hB p (logM m' l p.b) 1++mkT p m' l)::((e != m'.ep)=true)::((lkD (m.ak.map (bkA p)) (pT l,p.b,sOf [58,58])).getD .none=cdA p l e)::(dep+6≤600)::(dep+5≤500)::WkL [.inst 593 2,.sl (wds j lev),dDat p] [.inst 593 2,.sl (wds j lev),dDat p]::WkS (hB p m.spd 1) (hB p m.spd 1)::Runs Weak (H.fn 777 [.inst 593 2,.sl (wds j lev),dDat p]) ⟨sc476 P,none,dep+5,0⟩ [] (hB p m.spd 1) (.ok (.inst 105 10)) [] (hB p m' 1++[nestO l p.b])::(pBeg p m j lev++(pTk f.st (wds j lev) s2 3++pRow f (avR .inv)))) (fun orc obl=>by kernel_rfl) ?_ ?_
  · kernel_rfl
  · exact ⟨by simpa using hb,by omega,by omega,.refl _,.refl _,hm _ _ (by omega),by simpa using he,by rw [hk];rfl,by omega,by omega,.refl _,.refl _,hq _ _ (by omega),allP_app (pBeg_ok hw) (allP_app (by rw [hf] at hs ⊢;exact pTk_ok hs) (pRow_ok hr))⟩
theorem push2 (H:Hooks) (p:Pg) (m:MS) (f1:Fr) (l2:Nat) (f:Fr) (dep:Nat) (v:AV) (x:Str) (hr:RowAt f (avR (.push (.ss x) x))) (hs:f.st.length≤100000):LT P H dep (c2 p m f1 l2 f) (c2 p m.stp f1 l2 (f.nx (f.st++[.ss x]))):=by
  refine LpT.of [.b false,.v (avR (.push (.ss x) x))] [] [] [20,21,22] ((f.st.length≤sizeLine)::pRow f (avR (.push (.ss x) x))) (fun orc obl=>by kernel_rfl) ?_ ?_
  · kernel_rfl
  · exact ⟨Nat.le_trans hs (by decide),pRow_ok hr⟩
theorem join2 (H:Hooks) (p:Pg) (m:MS) (f1:Fr) (l2:Nat) (f:Fr) (dep:Nat) (tx s2:List AV) (ys:List Str) (hf:f.st=s2++tx) (hr:RowAt f (avR (.join tx.length))) (hs:StOk f.st) (hy:strsOf tx=some ys) (hz:(ys.map slen).sum≤16000000):LT P H dep (c2 p m f1 l2 f) (c2 p m.stp f1 l2 (f.nx (s2++[.ss (joinE ys)]))):=by
  refine LpT.of [.b false,.v (avR (.join tx.length)),.vs tx,.vs s2,.v (.ss (joinE ys))] [] [] [20,21,23] ((s2.length≤sizeLine)::(∃ zs,strsOf tx=some zs∧(zs.map slen).sum≤16000000∧AV.ss (joinE ys)=.ss (joinE zs))::pTk f.st tx s2 (tx.length:Int)++pRow f (avR (.join tx.length))) (fun orc obl=>by kernel_rfl) ?_ ?_
  · kernel_rfl
  · exact ⟨st_left (hf▸hs),⟨ys,hy,hz,rfl⟩,allP_app (by rw [hf] at hs ⊢;exact pTk_ok hs) (pRow_ok hr)⟩
theorem eqSt2 (H:Hooks) (p:Pg) (m:MS) (f1:Fr) (l2:Nat) (f:Fr) (dep:Nat) (t:Bool) (k b:Nat) (hr:RowAt f (avR (.start t k b))) (he:m.ep=f.e):LT P H dep (c2 p m f1 l2 f) (c2 p m.stp f1 l2 (f.nx f.st)):=by
  refine LpT.of [.b false,.v (avR (.start t k b)),.b false] [] [] [20,21,22] (((m.ep != f.e)=false)::pRow f (avR (.start t k b))) (fun orc obl=>by kernel_rfl) ?_ ?_
  · kernel_rfl
  · exact ⟨by rw [he];simp,pRow_ok hr⟩
theorem text2 (H:Hooks) (p:Pg) (m:MS) (f1:Fr) (l2:Nat) (f:Fr) (m':MS) (dep:Nat) (j lev:Nat) (x:Str) (s2:List AV) (hd:dep≤400) (hf:f.st=s2++wds j lev) (hr:RowAt f (avR .inv)) (hs:StOk f.st) (hw:m.cm.contains dW=true) (hq:Spec (H.fn 777) [.inst 593 2,.sl (wds j lev),dDat p] (hB p m.spd 1) (.ok (.ss x)) (hB p m' 1) 460):LT P H dep (c2 p m f1 l2 f) (c2 p {m' with st:=m.st+1,ak:=m.ak} f1 l2 (f.nx (s2++[.ss x]))):=by
  refine LpT.of (oInv p j lev s2++[.cut 10 [.inst 593 2,.sl (wds j lev),dDat p] (hB p m.spd 1) (.ok (.ss x)) (hB p m' 1)]) [] [] [20,21,23] ((s2.length≤sizeLine)::(dep+5≤500)::WkL [.inst 593 2,.sl (wds j lev),dDat p] [.inst 593 2,.sl (wds j lev),dDat p]::WkS (hB p m.spd 1) (hB p m.spd 1)::Runs Weak (H.fn 777 [.inst 593 2,.sl (wds j lev),dDat p]) ⟨sc476 P,none,dep+5,0⟩ [] (hB p m.spd 1) (.ok (.ss x)) [] (hB p m' 1)::(pBeg p m j lev++(pTk f.st (wds j lev) s2 3++pRow f (avR .inv)))) (fun orc obl=>by kernel_rfl) ?_ ?_
  · kernel_rfl
  · exact ⟨st_left (hf▸hs),by omega,.refl _,.refl _,hq _ _ (by omega),allP_app (pBeg_ok hw) (allP_app (by rw [hf] at hs ⊢;exact pTk_ok hs) (pRow_ok hr))⟩
theorem hit2 (H:Hooks) (p:Pg) (m:MS) (f1:Fr) (l2:Nat) (f:Fr) (m':MS) (dep:Nat) (j lev l:Nat) (s2:List AV) (hd:dep≤400) (hf:f.st=s2++wds j lev) (hr:RowAt f (avR .inv)) (hs:StOk f.st) (hw:m.cm.contains dW=true) (hq:Spec (H.fn 777) [.inst 593 2,.sl (wds j lev),dDat p] (hB p m.spd 1) (.ok (.inst 105 10)) (hB p m' 1++[nestO l p.b]) 460) (hk:lkD (m.ak.map (bkA p)) (pT l,p.b,sOf [58,58])=some (cdA p l m'.ep)):LT P H dep (c2 p m f1 l2 f) (c3 p {m' with st:=m.st+1,ak:=m.ak} f1 l2 (f.nx s2) l ⟨(rwA p l).map avR,m'.ep,0,[]⟩):=by
  refine LpT.of (oInv p j lev s2++[.cut 10 [.inst 593 2,.sl (wds j lev),dDat p] (hB p m.spd 1) (.ok (.inst 105 10)) (hB p m' 1++[nestO l p.b]),.v (cdA p l m'.ep),.b false]) [] [24,25] [20,21,23,24,25] (((m'.ep != m'.ep)=false)::((lkD (m.ak.map (bkA p)) (pT l,p.b,sOf [58,58])).getD .none=cdA p l m'.ep)::(dep+6≤600)::(dep+5≤500)::WkL [.inst 593 2,.sl (wds j lev),dDat p] [.inst 593 2,.sl (wds j lev),dDat p]::WkS (hB p m.spd 1) (hB p m.spd 1)::Runs Weak (H.fn 777 [.inst 593 2,.sl (wds j lev),dDat p]) ⟨sc476 P,none,dep+5,0⟩ [] (hB p m.spd 1) (.ok (.inst 105 10)) [] (hB p m' 1++[nestO l p.b])::(pBeg p m j lev++(pTk f.st (wds j lev) s2 3++pRow f (avR .inv)))) (fun orc obl=>by kernel_rfl) ?_ ?_
  · kernel_rfl
  · exact ⟨by simp,by rw [hk];rfl,by omega,by omega,.refl _,.refl _,hq _ _ (by omega),allP_app (pBeg_ok hw) (allP_app (by rw [hf] at hs ⊢;exact pTk_ok hs) (pRow_ok hr))⟩
theorem new2 (H:Hooks) (p:Pg) (m:MS) (f1:Fr) (l2:Nat) (f:Fr) (m':MS) (dep:Nat) (j lev l:Nat) (s2:List AV) (hd:dep≤400) (hf:f.st=s2++wds j lev) (hr:RowAt f (avR .inv)) (hs:StOk f.st) (hw:m.cm.contains dW=true) (hq:Spec (H.fn 777) [.inst 593 2,.sl (wds j lev),dDat p] (hB p m.spd 1) (.ok (.inst 105 10)) (hB p m' 1++[nestO l p.b]) 460) (hk:lkD (m.ak.map (bkA p)) (pT l,p.b,sOf [58,58])=none) (hb:m.ak.length≤1000000) (hm:Spec (H.fn 763) [.inst 593 2,.ss (pT l),.bool p.b] (hB p m' 1) (.ok (.inst 324 14)) (hB p (logM m' l p.b) 1++mkT p m' l) 440) (ak':List ((Nat × Bool) × Int)) (hak:ak'.map (bkA p)=putD (m.ak.map (bkA p)) (pT l,p.b,sOf [58,58]) (cdA p l m'.ep)):LT P H dep (c2 p m f1 l2 f) (c3 p {logM m' l p.b with st:=m.st+1,ak:=ak'} f1 l2 (f.nx s2) l ⟨(rwA p l).map avR,m'.ep,0,[]⟩):=by
  rw [c3_bk (m:={logM m' l p.b with st:=m.st+1,ak:=ak'}) hak]
  refine LpT.of (oInv p j lev s2++[.cut 10 [.inst 593 2,.sl (wds j lev),dDat p] (hB p m.spd 1) (.ok (.inst 105 10)) (hB p m' 1++[nestO l p.b]),.v .none,.cut 10 [.inst 593 2,.ss (pT l),.bool p.b] (hB p m' 1) (.ok (.inst 324 14)) (hB p (logM m' l p.b) 1++mkT p m' l)]) [] [24,25] [20,21,23,24,25] (((m.ak.map (bkA p)).length≤1000000)::(dep+6≤600)::(dep+6≤500)::WkL [.inst 593 2,.ss (pT l),.bool p.b] [.inst 593 2,.ss (pT l),.bool p.b]::WkS (hB p m' 1) (hB p m' 1)::Runs Weak (H.fn 763 [.inst 593 2,.ss (pT l),.bool p.b]) ⟨sc230 P,none,dep+6,0⟩ [] (hB p m' 1) (.ok (.inst 324 14)) [] (hB p (logM m' l p.b) 1++mkT p m' l)::((lkD (m.ak.map (bkA p)) (pT l,p.b,sOf [58,58])).getD .none=.none)::(dep+6≤600)::(dep+5≤500)::WkL [.inst 593 2,.sl (wds j lev),dDat p] [.inst 593 2,.sl (wds j lev),dDat p]::WkS (hB p m.spd 1) (hB p m.spd 1)::Runs Weak (H.fn 777 [.inst 593 2,.sl (wds j lev),dDat p]) ⟨sc476 P,none,dep+5,0⟩ [] (hB p m.spd 1) (.ok (.inst 105 10)) [] (hB p m' 1++[nestO l p.b])::(pBeg p m j lev++(pTk f.st (wds j lev) s2 3++pRow f (avR .inv)))) (fun orc obl=>by kernel_rfl) ?_ ?_
  · kernel_rfl
  · exact ⟨by simpa using hb,by omega,by omega,.refl _,.refl _,hm _ _ (by omega),by rw [hk];rfl,by omega,by omega,.refl _,.refl _,hq _ _ (by omega),allP_app (pBeg_ok hw) (allP_app (by rw [hf] at hs ⊢;exact pTk_ok hs) (pRow_ok hr))⟩
theorem old2 (H:Hooks) (p:Pg) (m:MS) (f1:Fr) (l2:Nat) (f:Fr) (m':MS) (dep:Nat) (j lev l:Nat) (s2:List AV) (hd:dep≤400) (hf:f.st=s2++wds j lev) (hr:RowAt f (avR .inv)) (hs:StOk f.st) (hw:m.cm.contains dW=true) (hq:Spec (H.fn 777) [.inst 593 2,.sl (wds j lev),dDat p] (hB p m.spd 1) (.ok (.inst 105 10)) (hB p m' 1++[nestO l p.b]) 460) (e:Int) (hk:lkD (m.ak.map (bkA p)) (pT l,p.b,sOf [58,58])=some (cdA p l e)) (he:e ≠ m'.ep) (hb:m.ak.length≤1000000) (hm:Spec (H.fn 763) [.inst 593 2,.ss (pT l),.bool p.b] (hB p m' 1) (.ok (.inst 324 14)) (hB p (logM m' l p.b) 1++mkT p m' l) 440) (ak':List ((Nat × Bool) × Int)) (hak:ak'.map (bkA p)=putD (m.ak.map (bkA p)) (pT l,p.b,sOf [58,58]) (cdA p l m'.ep)):LT P H dep (c2 p m f1 l2 f) (c3 p {logM m' l p.b with st:=m.st+1,ak:=ak'} f1 l2 (f.nx s2) l ⟨(rwA p l).map avR,m'.ep,0,[]⟩):=by
  rw [c3_bk (m:={logM m' l p.b with st:=m.st+1,ak:=ak'}) hak]
  refine LpT.of (oInv p j lev s2++[.cut 10 [.inst 593 2,.sl (wds j lev),dDat p] (hB p m.spd 1) (.ok (.inst 105 10)) (hB p m' 1++[nestO l p.b]),.v (cdA p l e),.b true,.cut 10 [.inst 593 2,.ss (pT l),.bool p.b] (hB p m' 1) (.ok (.inst 324 14)) (hB p (logM m' l p.b) 1++mkT p m' l)]) [] [24,25] [20,21,23,24,25] (((m.ak.map (bkA p)).length≤1000000)::(dep+6≤600)::(dep+6≤500)::WkL [.inst 593 2,.ss (pT l),.bool p.b] [.inst 593 2,.ss (pT l),.bool p.b]::WkS (hB p m' 1) (hB p m' 1)::Runs Weak (H.fn 763 [.inst 593 2,.ss (pT l),.bool p.b]) ⟨sc230 P,none,dep+6,0⟩ [] (hB p m' 1) (.ok (.inst 324 14)) [] (hB p (logM m' l p.b) 1++mkT p m' l)::((e != m'.ep)=true)::((lkD (m.ak.map (bkA p)) (pT l,p.b,sOf [58,58])).getD .none=cdA p l e)::(dep+6≤600)::(dep+5≤500)::WkL [.inst 593 2,.sl (wds j lev),dDat p] [.inst 593 2,.sl (wds j lev),dDat p]::WkS (hB p m.spd 1) (hB p m.spd 1)::Runs Weak (H.fn 777 [.inst 593 2,.sl (wds j lev),dDat p]) ⟨sc476 P,none,dep+5,0⟩ [] (hB p m.spd 1) (.ok (.inst 105 10)) [] (hB p m' 1++[nestO l p.b])::(pBeg p m j lev++(pTk f.st (wds j lev) s2 3++pRow f (avR .inv)))) (fun orc obl=>by kernel_rfl) ?_ ?_
  · kernel_rfl
  · exact ⟨by simpa using hb,by omega,by omega,.refl _,.refl _,hm _ _ (by omega),by simpa using he,by rw [hk];rfl,by omega,by omega,.refl _,.refl _,hq _ _ (by omega),allP_app (pBeg_ok hw) (allP_app (by rw [hf] at hs ⊢;exact pTk_ok hs) (pRow_ok hr))⟩
theorem push3 (H:Hooks) (p:Pg) (m:MS) (f1:Fr) (l2:Nat) (f2:Fr) (l3:Nat) (f:Fr) (dep:Nat) (v:AV) (x:Str) (hr:RowAt f (avR (.push (.ss x) x))) (hs:f.st.length≤100000):LT P H dep (c3 p m f1 l2 f2 l3 f) (c3 p m.stp f1 l2 f2 l3 (f.nx (f.st++[.ss x]))):=by
  refine LpT.of [.b false,.v (avR (.push (.ss x) x))] [] [] [20,21,22,23,24] ((f.st.length≤sizeLine)::pRow f (avR (.push (.ss x) x))) (fun orc obl=>by kernel_rfl) ?_ ?_
  · kernel_rfl
  · exact ⟨Nat.le_trans hs (by decide),pRow_ok hr⟩
theorem join3 (H:Hooks) (p:Pg) (m:MS) (f1:Fr) (l2:Nat) (f2:Fr) (l3:Nat) (f:Fr) (dep:Nat) (tx s2:List AV) (ys:List Str) (hf:f.st=s2++tx) (hr:RowAt f (avR (.join tx.length))) (hs:StOk f.st) (hy:strsOf tx=some ys) (hz:(ys.map slen).sum≤16000000):LT P H dep (c3 p m f1 l2 f2 l3 f) (c3 p m.stp f1 l2 f2 l3 (f.nx (s2++[.ss (joinE ys)]))):=by
  refine LpT.of [.b false,.v (avR (.join tx.length)),.vs tx,.vs s2,.v (.ss (joinE ys))] [] [] [20,21,22,23,25] ((s2.length≤sizeLine)::(∃ zs,strsOf tx=some zs∧(zs.map slen).sum≤16000000∧AV.ss (joinE ys)=.ss (joinE zs))::pTk f.st tx s2 (tx.length:Int)++pRow f (avR (.join tx.length))) (fun orc obl=>by kernel_rfl) ?_ ?_
  · kernel_rfl
  · exact ⟨st_left (hf▸hs),⟨ys,hy,hz,rfl⟩,allP_app (by rw [hf] at hs ⊢;exact pTk_ok hs) (pRow_ok hr)⟩
theorem eqSt3 (H:Hooks) (p:Pg) (m:MS) (f1:Fr) (l2:Nat) (f2:Fr) (l3:Nat) (f:Fr) (dep:Nat) (t:Bool) (k b:Nat) (hr:RowAt f (avR (.start t k b))) (he:m.ep=f.e):LT P H dep (c3 p m f1 l2 f2 l3 f) (c3 p m.stp f1 l2 f2 l3 (f.nx f.st)):=by
  refine LpT.of [.b false,.v (avR (.start t k b)),.b false] [] [] [20,21,22,23,24] (((m.ep != f.e)=false)::pRow f (avR (.start t k b))) (fun orc obl=>by kernel_rfl) ?_ ?_
  · kernel_rfl
  · exact ⟨by rw [he];simp,pRow_ok hr⟩
theorem text3 (H:Hooks) (p:Pg) (m:MS) (f1:Fr) (l2:Nat) (f2:Fr) (l3:Nat) (f:Fr) (m':MS) (dep:Nat) (j lev:Nat) (x:Str) (s2:List AV) (hd:dep≤400) (hf:f.st=s2++wds j lev) (hr:RowAt f (avR .inv)) (hs:StOk f.st) (hw:m.cm.contains dW=true) (hq:Spec (H.fn 777) [.inst 593 2,.sl (wds j lev),dDat p] (hB p m.spd 1) (.ok (.ss x)) (hB p m' 1) 460):LT P H dep (c3 p m f1 l2 f2 l3 f) (c3 p {m' with st:=m.st+1,ak:=m.ak} f1 l2 f2 l3 (f.nx (s2++[.ss x]))):=by
  refine LpT.of (oInv p j lev s2++[.cut 10 [.inst 593 2,.sl (wds j lev),dDat p] (hB p m.spd 1) (.ok (.ss x)) (hB p m' 1)]) [] [] [20,21,22,23,25] ((s2.length≤sizeLine)::(dep+5≤500)::WkL [.inst 593 2,.sl (wds j lev),dDat p] [.inst 593 2,.sl (wds j lev),dDat p]::WkS (hB p m.spd 1) (hB p m.spd 1)::Runs Weak (H.fn 777 [.inst 593 2,.sl (wds j lev),dDat p]) ⟨sc476 P,none,dep+5,0⟩ [] (hB p m.spd 1) (.ok (.ss x)) [] (hB p m' 1)::(pBeg p m j lev++(pTk f.st (wds j lev) s2 3++pRow f (avR .inv)))) (fun orc obl=>by kernel_rfl) ?_ ?_
  · kernel_rfl
  · exact ⟨st_left (hf▸hs),by omega,.refl _,.refl _,hq _ _ (by omega),allP_app (pBeg_ok hw) (allP_app (by rw [hf] at hs ⊢;exact pTk_ok hs) (pRow_ok hr))⟩
end
end T
namespace T
noncomputable def anyE:List (Str × AV)→List (Str × AV)
  | []=>[]
  | e::r=>(e.1,.any)::anyE r
noncomputable def softX:AObj→AObj
  | .sd s (a::b::r)=>.sd s (a::b::anyE r)
  | b=>b
theorem anyE_rel {c:Cc} {es:List (Str × AV)} {y:List DictEntry} (r:SRels c es y):SRels c (anyE es) y:=r.ind (P:=fun es y=>SRels c (anyE es) y) .nil fun _ _ _ _ _ h1 h2 _ _ ih=>.cons h1 h2 (.any _) ih
theorem softX_wk (b:AObj):WkO b (softX b):=by
  cases b with
  | sd s es=>cases es with
    | nil=>exact .refl _
    | cons a r=>cases r with
      | nil=>exact .refl _
      | cons b r=>exact fun hb c o ⟨ens,n,e,q⟩=>⟨ens,n,e,q.consE (G:=fun l=>SRels c (a::b::anyE r) l) fun _ _ _ h1 h2 h3 q=>q.consE (G:=fun l=>SRels c (a::b::anyE r) (_::l)) fun _ _ _ g1 g2 g3 q=>.cons h1 h2 h3 (.cons g1 g2 g3 (anyE_rel q))⟩
  | _=>exact .refl _
noncomputable def excF (x:Str):AObj:=.sd false [(sOf [99,111,100,101],.int 1),(sOf [118,97,108,117,101],.ss x),(sOf [101,114,114,111,114,99,111,100,101],.any),(sOf [108,101,118,101,108],.any),(sOf [114,101,116],.any),
  (sOf [105,110,102,111],.any),(sOf [105,115,95,110,111,116,101,100],.any),(sOf [108,105,110,101],.any),(sOf [101,120,116,114,97],.any)]
noncomputable def adjX (I:List Nat) (j i:Nat) (b:AObj):AObj:=cond (memN I i) .gone (cond (Nat.beq j i) (softX b) b)
noncomputable def viewX {α:Type} (I:List Nat) (j:Nat) (N:List Str) (r:Option (Res α × AS)):Option (Res α × List (Str × AV) × List AObj × List Orc × List Prop):=viewI (adjX I j) N r
theorem Runs.exX {α:Type} {W:α→α→Prop} {m:EM α} {rd:Rd} {ls ls':List (Str × AV)} {σ σ':List AObj} {i:Nat} (hW:∀ a,W a a) (I:List Nat) (j:Nat) (N:List Str) (orc:List Orc) (ps:List Prop)
    (e:viewX I j N (m.run rd ⟨ls,σ,orc,[]⟩)=some (.exc i,ls',σ',[],ps)) (hx:(memN I i,Nat.beq j i)=(false,false)) (h:AllP ps):Runs W m rd ls σ (.exc i) ls' σ' :=
  .mski hW (fun _ b=>.cond (.gone b) (.cond (softX_wk b) (.refl b))) e (fun i' z b=>by
    cases z
    have h1:memN I i=false:=congrArg (·.1) hx
    have h2:Nat.beq j i=false:=congrArg (·.2) hx
    show cond (memN I i) _ (cond (Nat.beq j i) _ _)=_
    rw [h1,h2];rfl) h
noncomputable def nlS:Str:=sOf [10,32,32,32,32]
noncomputable def prS:Str:=sOf [40,112,114,111,99,101,100,117,114,101,32,34,112,34,32,108,105,110,101,32,48,41]
noncomputable def i2S (x:Str):Str:=cat (cat x nlS) prS
noncomputable def ex2 (x:Str):List Prop:=[slen (cat x nlS)+slen prS≤sizeLine,slen x+slen nlS≤sizeLine]
noncomputable def ex3 (x:Str):List Prop:=[slen (cat (i2S x) nlS)+slen prS≤sizeLine,slen (i2S x)+slen nlS≤sizeLine,seq (i2S x) (sOf [])=false]++ex2 x
theorem slen_cat (x y:Str):slen (cat x y)=slen x+slen y:=by simp [slen,cat]
theorem ex2_ok {x:Str} (h:slen x≤1000):AllP (ex2 x):=by
  have h1:slen nlS=5:=by decide
  have h2:slen prS=22:=by decide
  have hz:(10000:Nat)≤sizeLine:=by decide
  exact ⟨by rw [slen_cat];omega,by omega,trivial⟩
theorem ex3_ok {x:Str} (h:slen x≤1000):AllP (ex3 x):=by
  have h1:slen nlS=5:=by decide
  have h2:slen prS=22:=by decide
  have hz:(10000:Nat)≤sizeLine:=by decide
  have h3:slen (i2S x)=slen x+27:=by rw [i2S,slen_cat,slen_cat];omega
  refine ⟨by rw [slen_cat];omega,by omega,?_,ex2_ok h⟩
  cases q:seq (i2S x) (sOf []) with
  | false=>rfl
  | true =>
    have:=seq_iff.mp q
    rw [this] at h3
    have h4:slen (sOf [])=0:=rfl
    omega
section
variable (P:Params)
noncomputable def cE (p:Pg) (m:MS) (x:Str):List AObj:=mB p m 1 (.mut 19) (.ss x) []++[.gone,.gone,.gone,.gone,.gone,.gone,.list false []]
noncomputable def cX (p:Pg) (m:MS) (g:List AObj) (x:Str):List AObj:=mB p m 1 (.mut 19) (.str (sOf [])) []++([.gone,.gone,.gone,.gone,.gone,.gone,.list false []]++(g++[excO (21+g.length),excF x]))
theorem ranA (H:Hooks) (p:Pg) (m:MS) (f:Fr) (m':MS) (dep:Nat) (t:Bool) (k b:Nat) (x:Str) (hd:dep≤400) (hr:RowAt f (avR (.start t k b))) (he:m.ep ≠ f.e) (hs:f.st.length≤100000) (hq:Spec (H.fn 784) [.inst 593 2,.ss (nmP t k)] (hB p m 2) (.ok (.ss x)) (hB p m' 2) 470):LT P H dep (cA p m f) (cA p {m' with st:=m.st+1,ak:=m.ak} {f with pc:=.ofNat b,st:=f.st++[.ss x]}):=by
  refine LpT.of [.b false,.v (avR (.start t k b)),.b true,.cut 10 [.inst 593 2,.ss (nmP t k)] (hB p m 2) (.ok (.ss x)) (hB p m' 2)] [] [] [] ((f.st.length≤sizeLine)::(dep+3≤500)::WkL [.inst 593 2,.ss (nmP t k)] [.inst 593 2,.ss (nmP t k)]::WkS (hB p m 2) (hB p m 2)::Runs Weak (H.fn 784 [.inst 593 2,.ss (nmP t k)]) ⟨sc392 P,none,dep+3,0⟩ [] (hB p m 2) (.ok (.ss x)) [] (hB p m' 2)::((m.ep != f.e)=true)::pRow f (avR (.start t k b))) (fun orc obl=>by kernel_rfl) ?_ ?_
  · kernel_rfl
  · exact ⟨Nat.le_trans hs (by decide),by omega,.refl _,.refl _,hq _ _ (by omega),by simpa using he,pRow_ok hr⟩
theorem excA (H:Hooks) (p:Pg) (m:MS) (f:Fr) (m':MS) (dep:Nat) (t:Bool) (k b:Nat) (x:Str) (hd:dep≤400) (hr:RowAt f (avR (.start t k b))) (he:m.ep ≠ f.e) (hx:slen x≤1000) (hq:Spec (H.fn 784) [.inst 593 2,.ss (nmP t k)] (hB p m 2) (.exc 10) (hB p m' 2++[excO 11,excS (.ss x) (.str (sOf [])) false (.mut 12),.list false []]) 470):Runs WkF (stepE P H) ⟨sc293 P,none,dep,0⟩ lsR (cA p m f) (.exc 20) lsR (cX p {m' with st:=m.st+1,ak:=m.ak} [] x):=by
  exact Runs.exX WkF.refl [13,14,15,16,17,18] 21 [nHost,nSelf] [.b false,.v (avR (.start t k b)),.b true,.cut 10 [.inst 593 2,.ss (nmP t k)] (hB p m 2) (.exc 10) (hB p m' 2++[excO 11,excS (.ss x) (.str (sOf [])) false (.mut 12),.list false []])] ((dep+3≤500)::WkL [.inst 593 2,.ss (nmP t k)] [.inst 593 2,.ss (nmP t k)]::WkS (hB p m 2) (hB p m 2)::Runs Weak (H.fn 784 [.inst 593 2,.ss (nmP t k)]) ⟨sc392 P,none,dep+3,0⟩ [] (hB p m 2) (.exc 10) [] (hB p m' 2++[excO 11,excS (.ss x) (.str (sOf [])) false (.mut 12),.list false []])::((m.ep != f.e)=true)::pRow f (avR (.start t k b))) (by kernel_rfl) rfl ⟨by omega,.refl _,.refl _,hq _ _ (by omega),by simpa using he,pRow_ok hr⟩
theorem ranB (H:Hooks) (p:Pg) (m:MS) (f:Fr) (m':MS) (dep:Nat) (t:Bool) (k b:Nat) (x:Str) (hd:dep≤400) (hr:RowAt f (avR (.start t k b))) (he:m.ep ≠ f.e) (hs:f.st.length≤100000) (hq:Spec (H.fn 784) [.inst 593 2,.ss (nmP t k)] (hB p m 2) (.ok (.ss x)) (hB p m' 2) 470):LT P H dep (cB p m f) (cB p {m' with st:=m.st+1,ak:=m.ak} {f with pc:=.ofNat b,st:=f.st++[.ss x]}):=by
  refine LpT.of [.b false,.v (avR (.start t k b)),.b true,.cut 10 [.inst 593 2,.ss (nmP t k)] (hB p m 2) (.ok (.ss x)) (hB p m' 2)] [] [] [20] ((f.st.length≤sizeLine)::(dep+3≤500)::WkL [.inst 593 2,.ss (nmP t k)] [.inst 593 2,.ss (nmP t k)]::WkS (hB p m 2) (hB p m 2)::Runs Weak (H.fn 784 [.inst 593 2,.ss (nmP t k)]) ⟨sc392 P,none,dep+3,0⟩ [] (hB p m 2) (.ok (.ss x)) [] (hB p m' 2)::((m.ep != f.e)=true)::pRow f (avR (.start t k b))) (fun orc obl=>by kernel_rfl) ?_ ?_
  · kernel_rfl
  · exact ⟨Nat.le_trans hs (by decide),by omega,.refl _,.refl _,hq _ _ (by omega),by simpa using he,pRow_ok hr⟩
theorem excB (H:Hooks) (p:Pg) (m:MS) (f:Fr) (m':MS) (dep:Nat) (t:Bool) (k b:Nat) (x:Str) (hd:dep≤400) (hr:RowAt f (avR (.start t k b))) (he:m.ep ≠ f.e) (hx:slen x≤1000) (hq:Spec (H.fn 784) [.inst 593 2,.ss (nmP t k)] (hB p m 2) (.exc 10) (hB p m' 2++[excO 11,excS (.ss x) (.str (sOf [])) false (.mut 12),.list false []]) 470):Runs WkF (stepE P H) ⟨sc293 P,none,dep,0⟩ lsR (cB p m f) (.exc 21) lsR (cX p {m' with st:=m.st+1,ak:=m.ak} [.gone] x):=by
  exact Runs.exX WkF.refl [13,14,15,16,17,18,20] 22 [nHost,nSelf] [.b false,.v (avR (.start t k b)),.b true,.cut 10 [.inst 593 2,.ss (nmP t k)] (hB p m 2) (.exc 10) (hB p m' 2++[excO 11,excS (.ss x) (.str (sOf [])) false (.mut 12),.list false []])] ((dep+3≤500)::WkL [.inst 593 2,.ss (nmP t k)] [.inst 593 2,.ss (nmP t k)]::WkS (hB p m 2) (hB p m 2)::Runs Weak (H.fn 784 [.inst 593 2,.ss (nmP t k)]) ⟨sc392 P,none,dep+3,0⟩ [] (hB p m 2) (.exc 10) [] (hB p m' 2++[excO 11,excS (.ss x) (.str (sOf [])) false (.mut 12),.list false []])::((m.ep != f.e)=true)::pRow f (avR (.start t k b))) (by kernel_rfl) rfl ⟨by omega,.refl _,.refl _,hq _ _ (by omega),by simpa using he,pRow_ok hr⟩
theorem ran2 (H:Hooks) (p:Pg) (m:MS) (f1:Fr) (l2:Nat) (f:Fr) (m':MS) (dep:Nat) (t:Bool) (k b:Nat) (x:Str) (hd:dep≤400) (hr:RowAt f (avR (.start t k b))) (he:m.ep ≠ f.e) (hs:f.st.length≤100000) (hq:Spec (H.fn 784) [.inst 593 2,.ss (nmP t k)] (hB p m 2) (.ok (.ss x)) (hB p m' 2) 470):LT P H dep (c2 p m f1 l2 f) (c2 p {m' with st:=m.st+1,ak:=m.ak} f1 l2 {f with pc:=.ofNat b,st:=f.st++[.ss x]}):=by
  refine LpT.of [.b false,.v (avR (.start t k b)),.b true,.cut 10 [.inst 593 2,.ss (nmP t k)] (hB p m 2) (.ok (.ss x)) (hB p m' 2)] [] [] [20,21,22] ((f.st.length≤sizeLine)::(dep+3≤500)::WkL [.inst 593 2,.ss (nmP t k)] [.inst 593 2,.ss (nmP t k)]::WkS (hB p m 2) (hB p m 2)::Runs Weak (H.fn 784 [.inst 593 2,.ss (nmP t k)]) ⟨sc392 P,none,dep+3,0⟩ [] (hB p m 2) (.ok (.ss x)) [] (hB p m' 2)::((m.ep != f.e)=true)::pRow f (avR (.start t k b))) (fun orc obl=>by kernel_rfl) ?_ ?_
  · kernel_rfl
  · exact ⟨Nat.le_trans hs (by decide),by omega,.refl _,.refl _,hq _ _ (by omega),by simpa using he,pRow_ok hr⟩
theorem exc2 (H:Hooks) (p:Pg) (m:MS) (f1:Fr) (l2:Nat) (f:Fr) (m':MS) (dep:Nat) (t:Bool) (k b:Nat) (x:Str) (hd:dep≤400) (hr:RowAt f (avR (.start t k b))) (he:m.ep ≠ f.e) (hx:slen x≤1000) (hq:Spec (H.fn 784) [.inst 593 2,.ss (nmP t k)] (hB p m 2) (.exc 10) (hB p m' 2++[excO 11,excS (.ss x) (.str (sOf [])) false (.mut 12),.list false []]) 470):Runs WkF (stepE P H) ⟨sc293 P,none,dep,0⟩ lsR (c2 p m f1 l2 f) (.exc 23) lsR (cX p {m' with st:=m.st+1,ak:=m.ak} [.gone,.gone,.gone] x):=by
  obtain ⟨pr,ef,de,pb⟩:=p
  have hz:(10000:Nat)≤sizeLine:=by decide
  cases pb with
  | false=>exact Runs.exX WkF.refl [13,14,15,16,17,18,20,21,22] 24 [nHost,nSelf] [.b false,.v (avR (.start t k b)),.b true,.cut 10 [.inst 593 2,.ss (nmP t k)] (hB ⟨pr,ef,de,false⟩ m 2) (.exc 10) (hB ⟨pr,ef,de,false⟩ m' 2++[excO 11,excS (.ss x) (.str (sOf [])) false (.mut 12),.list false []])] ((dep+3≤500)::WkL [.inst 593 2,.ss (nmP t k)] [.inst 593 2,.ss (nmP t k)]::WkS (hB ⟨pr,ef,de,false⟩ m 2) (hB ⟨pr,ef,de,false⟩ m 2)::Runs Weak (H.fn 784 [.inst 593 2,.ss (nmP t k)]) ⟨sc392 P,none,dep+3,0⟩ [] (hB ⟨pr,ef,de,false⟩ m 2) (.exc 10) [] (hB ⟨pr,ef,de,false⟩ m' 2++[excO 11,excS (.ss x) (.str (sOf [])) false (.mut 12),.list false []])::((m.ep != f.e)=true)::pRow f (avR (.start t k b))) (by kernel_rfl) rfl ⟨by omega,.refl _,.refl _,hq _ _ (by omega),by simpa using he,pRow_ok hr⟩
  | true=>exact Runs.exX WkF.refl [13,14,15,16,17,18,20,21,22] 24 [nHost,nSelf] [.b false,.v (avR (.start t k b)),.b true,.cut 10 [.inst 593 2,.ss (nmP t k)] (hB ⟨pr,ef,de,true⟩ m 2) (.exc 10) (hB ⟨pr,ef,de,true⟩ m' 2++[excO 11,excS (.ss x) (.str (sOf [])) false (.mut 12),.list false []])] (ex2 x++((dep+3≤500)::WkL [.inst 593 2,.ss (nmP t k)] [.inst 593 2,.ss (nmP t k)]::WkS (hB ⟨pr,ef,de,true⟩ m 2) (hB ⟨pr,ef,de,true⟩ m 2)::Runs Weak (H.fn 784 [.inst 593 2,.ss (nmP t k)]) ⟨sc392 P,none,dep+3,0⟩ [] (hB ⟨pr,ef,de,true⟩ m 2) (.exc 10) [] (hB ⟨pr,ef,de,true⟩ m' 2++[excO 11,excS (.ss x) (.str (sOf [])) false (.mut 12),.list false []])::((m.ep != f.e)=true)::pRow f (avR (.start t k b)))) (by kernel_rfl) rfl (allP_app (ex2_ok hx) ⟨by omega,.refl _,.refl _,hq _ _ (by omega),by simpa using he,pRow_ok hr⟩)
theorem ran3 (H:Hooks) (p:Pg) (m:MS) (f1:Fr) (l2:Nat) (f2:Fr) (l3:Nat) (f:Fr) (m':MS) (dep:Nat) (t:Bool) (k b:Nat) (x:Str) (hd:dep≤400) (hr:RowAt f (avR (.start t k b))) (he:m.ep ≠ f.e) (hs:f.st.length≤100000) (hq:Spec (H.fn 784) [.inst 593 2,.ss (nmP t k)] (hB p m 2) (.ok (.ss x)) (hB p m' 2) 470):LT P H dep (c3 p m f1 l2 f2 l3 f) (c3 p {m' with st:=m.st+1,ak:=m.ak} f1 l2 f2 l3 {f with pc:=.ofNat b,st:=f.st++[.ss x]}):=by
  refine LpT.of [.b false,.v (avR (.start t k b)),.b true,.cut 10 [.inst 593 2,.ss (nmP t k)] (hB p m 2) (.ok (.ss x)) (hB p m' 2)] [] [] [20,21,22,23,24] ((f.st.length≤sizeLine)::(dep+3≤500)::WkL [.inst 593 2,.ss (nmP t k)] [.inst 593 2,.ss (nmP t k)]::WkS (hB p m 2) (hB p m 2)::Runs Weak (H.fn 784 [.inst 593 2,.ss (nmP t k)]) ⟨sc392 P,none,dep+3,0⟩ [] (hB p m 2) (.ok (.ss x)) [] (hB p m' 2)::((m.ep != f.e)=true)::pRow f (avR (.start t k b))) (fun orc obl=>by kernel_rfl) ?_ ?_
  · kernel_rfl
  · exact ⟨Nat.le_trans hs (by decide),by omega,.refl _,.refl _,hq _ _ (by omega),by simpa using he,pRow_ok hr⟩
theorem exc3 (H:Hooks) (p:Pg) (m:MS) (f1:Fr) (l2:Nat) (f2:Fr) (l3:Nat) (f:Fr) (m':MS) (dep:Nat) (t:Bool) (k b:Nat) (x:Str) (hd:dep≤400) (hr:RowAt f (avR (.start t k b))) (he:m.ep ≠ f.e) (hx:slen x≤1000) (hq:Spec (H.fn 784) [.inst 593 2,.ss (nmP t k)] (hB p m 2) (.exc 10) (hB p m' 2++[excO 11,excS (.ss x) (.str (sOf [])) false (.mut 12),.list false []]) 470):Runs WkF (stepE P H) ⟨sc293 P,none,dep,0⟩ lsR (c3 p m f1 l2 f2 l3 f) (.exc 25) lsR (cX p {m' with st:=m.st+1,ak:=m.ak} [.gone,.gone,.gone,.gone,.gone] x):=by
  obtain ⟨pr,ef,de,pb⟩:=p
  have hz:(10000:Nat)≤sizeLine:=by decide
  cases pb with
  | false=>exact Runs.exX WkF.refl [13,14,15,16,17,18,20,21,22,23,24] 26 [nHost,nSelf] [.b false,.v (avR (.start t k b)),.b true,.cut 10 [.inst 593 2,.ss (nmP t k)] (hB ⟨pr,ef,de,false⟩ m 2) (.exc 10) (hB ⟨pr,ef,de,false⟩ m' 2++[excO 11,excS (.ss x) (.str (sOf [])) false (.mut 12),.list false []])] ((dep+3≤500)::WkL [.inst 593 2,.ss (nmP t k)] [.inst 593 2,.ss (nmP t k)]::WkS (hB ⟨pr,ef,de,false⟩ m 2) (hB ⟨pr,ef,de,false⟩ m 2)::Runs Weak (H.fn 784 [.inst 593 2,.ss (nmP t k)]) ⟨sc392 P,none,dep+3,0⟩ [] (hB ⟨pr,ef,de,false⟩ m 2) (.exc 10) [] (hB ⟨pr,ef,de,false⟩ m' 2++[excO 11,excS (.ss x) (.str (sOf [])) false (.mut 12),.list false []])::((m.ep != f.e)=true)::pRow f (avR (.start t k b))) (by kernel_rfl) rfl ⟨by omega,.refl _,.refl _,hq _ _ (by omega),by simpa using he,pRow_ok hr⟩
  | true=>exact Runs.exX WkF.refl [13,14,15,16,17,18,20,21,22,23,24] 26 [nHost,nSelf] [.b false,.v (avR (.start t k b)),.b true,.cut 10 [.inst 593 2,.ss (nmP t k)] (hB ⟨pr,ef,de,true⟩ m 2) (.exc 10) (hB ⟨pr,ef,de,true⟩ m' 2++[excO 11,excS (.ss x) (.str (sOf [])) false (.mut 12),.list false []]),.b false] (ex3 x++((dep+3≤500)::WkL [.inst 593 2,.ss (nmP t k)] [.inst 593 2,.ss (nmP t k)]::WkS (hB ⟨pr,ef,de,true⟩ m 2) (hB ⟨pr,ef,de,true⟩ m 2)::Runs Weak (H.fn 784 [.inst 593 2,.ss (nmP t k)]) ⟨sc392 P,none,dep+3,0⟩ [] (hB ⟨pr,ef,de,true⟩ m 2) (.exc 10) [] (hB ⟨pr,ef,de,true⟩ m' 2++[excO 11,excS (.ss x) (.str (sOf [])) false (.mut 12),.list false []])::((m.ep != f.e)=true)::pRow f (avR (.start t k b)))) (by kernel_rfl) rfl (allP_app (ex3_ok hx) ⟨by omega,.refl _,.refl _,hq _ _ (by omega),by simpa using he,pRow_ok hr⟩)
theorem endB (H:Hooks) (p:Pg) (m:MS) (f:Fr) (dep:Nat) (x:Str) (hp:f.pc=(f.R.length:Int)) (hR:f.R.length≤100000) (hs:f.st=[.ss x]):LT P H dep (cB p m f) (cE p m x):=by
  refine LpT.of [.b true,.b true,.vs [],.v (.ss x)] [13,14,15,16,17,18] [] [] [f.st=[]++[AV.ss x],f.st.length≤sizeLine,decide ((f.st.length:Int) > 0)=true,f.st.length≤4611686018427387904,decide (f.pc ≥ (f.R.length:Int))=true,f.R.length≤4611686018427387904] (fun orc obl=>by kernel_rfl) ?_ ?_
  · kernel_rfl
  · exact ⟨by rw [hs];rfl,by rw [hs];exact Nat.le_of_ble_eq_true rfl,by rw [hs];rfl,by rw [hs];exact Nat.le_of_ble_eq_true rfl,by rw [hp];simp,by omega,trivial⟩
theorem endA (H:Hooks) (p:Pg) (m:MS) (f:Fr) (dep:Nat) (x:Str) (hp:f.pc=(f.R.length:Int)) (hR:f.R.length≤100000) (hs:f.st=[.ss x]):LT P H dep (cA p m f) (cE p m x):=by
  refine LpT.of [.b true,.b true,.vs [],.v (.ss x)] [13,14,15,16,17,18] [] [] [f.st=[]++[AV.ss x],f.st.length≤sizeLine,decide ((f.st.length:Int) > 0)=true,f.st.length≤4611686018427387904,decide (f.pc ≥ (f.R.length:Int))=true,f.R.length≤4611686018427387904] (fun orc obl=>by kernel_rfl) ?_ ?_
  · kernel_rfl
  · exact ⟨by rw [hs];rfl,by rw [hs];exact Nat.le_of_ble_eq_true rfl,by rw [hs];rfl,by rw [hs];exact Nat.le_of_ble_eq_true rfl,by rw [hp];simp,by omega,trivial⟩
theorem end2 (H:Hooks) (p:Pg) (m:MS) (f1:Fr) (l2:Nat) (f:Fr) (dep:Nat) (x:Str) (hp:f.pc=(f.R.length:Int)) (hR:f.R.length≤100000) (hs:f.st=[.ss x]) (h1:f1.st.length≤100000):LT P H dep (c2 p m f1 l2 f) (cB p m {f1 with st:=f1.st++[.ss x]}):=by
  refine LpT.of [.b true,.b true,.vs [],.v (.ss x)] [] [] [20] ((f1.st.length≤sizeLine)::[f.st=[]++[AV.ss x],f.st.length≤sizeLine,decide ((f.st.length:Int) > 0)=true,f.st.length≤4611686018427387904,decide (f.pc ≥ (f.R.length:Int))=true,f.R.length≤4611686018427387904]) (fun orc obl=>by kernel_rfl) ?_ ?_
  · kernel_rfl
  · exact ⟨Nat.le_trans h1 (by decide),⟨by rw [hs];rfl,by rw [hs];exact Nat.le_of_ble_eq_true rfl,by rw [hs];rfl,by rw [hs];exact Nat.le_of_ble_eq_true rfl,by rw [hp];simp,by omega,trivial⟩⟩
theorem end3 (H:Hooks) (p:Pg) (m:MS) (f1:Fr) (l2:Nat) (f2:Fr) (l3:Nat) (f:Fr) (dep:Nat) (x:Str) (hp:f.pc=(f.R.length:Int)) (hR:f.R.length≤100000) (hs:f.st=[.ss x]) (h1:f2.st.length≤100000):LT P H dep (c3 p m f1 l2 f2 l3 f) (c2 p m f1 l2 {f2 with st:=f2.st++[.ss x]}):=by
  refine LpT.of [.b true,.b true,.vs [],.v (.ss x)] [] [] [20,21,22] ((f2.st.length≤sizeLine)::[f.st=[]++[AV.ss x],f.st.length≤sizeLine,decide ((f.st.length:Int) > 0)=true,f.st.length≤4611686018427387904,decide (f.pc ≥ (f.R.length:Int))=true,f.R.length≤4611686018427387904]) (fun orc obl=>by kernel_rfl) ?_ ?_
  · kernel_rfl
  · exact ⟨Nat.le_trans h1 (by decide),⟨by rw [hs];rfl,by rw [hs];exact Nat.le_of_ble_eq_true rfl,by rw [hs];rfl,by rw [hs];exact Nat.le_of_ble_eq_true rfl,by rw [hp];simp,by omega,trivial⟩⟩
theorem testE_end (H:Hooks) (p:Pg) (m:MS) (x:Str) (dep:Nat):∀ orc obl,(testE P H).run (rdR P dep) ⟨lsR,cE p m x,orc,obl⟩=some (.ok false,⟨lsR,cE p m x,orc,obl⟩):=fun orc obl=>by kernel_rfl
end
end T
namespace T
theorem slen_join (ys:List Str):slen (joinE ys)=(ys.map slen).sum:=by
  have h:=size_glued Str.empty ys
  have e:(ys.map (·.length))=ys.map slen:=List.map_congr_left fun z _=>slen_eq z
  rw [e] at h
  rw [← slen_eq]
  exact h
mutual
noncomputable def wI (C:Nat):It→Nat
  | .plain _=>3
  | .deed _=>8+C
  | .piece _ _ its=>8+wL C its
noncomputable def wL (C:Nat):Its→Nat
  | .nil=>0
  | .cons i r=>wI C i+wL C r
end
structure MOk (c:Nat) (m:MS):Prop where
  cm:m.cm.length+c≤20000
  fi:m.fi.length+c≤20000
  lg:m.lg.length+c≤20000
  md:m.md.length+c≤20000
  ak:m.ak.length+c≤20000
  w:m.cm.contains dW=true
  ks:∀ e∈m.ak,e.1.1 < 3
theorem MOk.le {a b:Nat} {m:MS} (h:MOk a m) (l:b≤a):MOk b m :=
  have q:=fun n:Nat=>Nat.add_le_add_left l n
  ⟨Nat.le_trans (q _) h.cm,Nat.le_trans (q _) h.fi,Nat.le_trans (q _) h.lg,Nat.le_trans (q _) h.md,Nat.le_trans (q _) h.ak,h.w,h.ks⟩
theorem upOne {a b c n:Nat} (h:a+(c+1)≤n) (l:b≤a+1):b+c≤n:=Nat.le_trans (Nat.add_le_add_right l c) (Nat.add_right_comm a 1 c▸h)
theorem MOk.of {c:Nat} {m m':MS} (h:MOk (c+1) m) (h1:m'.cm.length≤m.cm.length+1) (h2:m'.fi.length≤m.fi.length+1) (h3:m'.lg.length≤m.lg.length+1) (h4:m'.md.length≤m.md.length+1) (h5:m'.ak.length≤m.ak.length+1) (w:m'.cm.contains dW=true) (ks:∀ e∈m'.ak,e.1.1 < 3):MOk c m' :=
  ⟨upOne h.cm h1,upOne h.fi h2,upOne h.lg h3,upOne h.md h4,upOne h.ak h5,w,ks⟩
theorem delK_has {k x:Str} (n:seq k x=false) {l:List Str}:l.contains x=true→(delK l k).contains x=true:=by
  induction l with
  | nil=>exact id
  | cons y r ih =>
    show _→(cond (seq k y) r (y::delK r k)).contains x=true
    rw [List.contains_cons]
    cases q:seq k y with
    | true =>
      rw [seq_iff.mp q] at n
      cases z:x == y with
      | true=>rw [beq_iff_eq.mp z,seq_iff.mpr rfl] at n;exact no_tf n.symm
      | false=>exact id
    | false =>
      show _→(y::delK r k).contains x=true
      rw [List.contains_cons]
      cases x == y with
      | true=>exact id
      | false=>exact ih
theorem putK_has {k x:Str} {l:List Str} (h:l.contains x=true):(putK l k).contains x=true:=by
  delta putK
  cases l.contains k with
  | true=>exact h
  | false=>exact List.contains_iff_mem.mpr (List.mem_append_left _ (List.contains_iff_mem.mp h))
theorem nm_w:∀ i,seq (nmS i) dW=false
  | 0=>by decide
  | 1=>by decide
  | 2=>by decide
  | _+3=>by show seq (sOf [111,49]) dW=false;decide
theorem MOk.put {c:Nat} {m:MS} (h:MOk (c+1) m) (i:Nat):MOk c (m.put i):=h.of (Nat.le_trans (putK_len ..) (Nat.succ_le_succ (delK_len ..))) (Nat.le_succ_of_le (delK_len ..)) (Nat.le_succ _) (Nat.le_succ _) (Nat.le_succ _) (putK_has (delK_has (nm_w i) h.w)) h.ks
theorem MOk.del {c:Nat} {m:MS} (h:MOk c m) (i:Nat):MOk c (m.del i):=⟨Nat.le_trans (Nat.add_le_add_right (delK_len ..) c) h.cm,Nat.le_trans (Nat.add_le_add_right (delK_len ..) c) h.fi,h.lg,h.md,h.ak,delK_has (nm_w i) h.w,h.ks⟩
theorem MOk.add1 {c:Nat} {m:MS} (h:MOk (c+1) m) (i:Nat):MOk c (m.add1 i):=h.of (Nat.le_trans (putK_len ..) (Nat.succ_le_succ (delK_len ..))) (Nat.le_trans (putK_len ..) (Nat.succ_le_succ (delK_len ..))) (Nat.le_succ _) (Nat.le_succ _) (Nat.le_succ _) (putK_has (delK_has (nm_w i) h.w)) h.ks
theorem MOk.add {c:Nat} {m:MS} (h:MOk (c+2) m) (i:Nat):MOk c (m.add i):=match i with
  | 0=>(h.add1 (c:=c+1) 0).add1 3
  | 1=>(h.add1 (c:=c+1) 1).add1 3
  | 2=>(h.add1 (c:=c+1) 2).add1 3
  | _+3=>(h.le (b:=c+1) (Nat.le_succ _)).add1 3
theorem putD_le {K β:Type} [DecidableEq K] (l:List (K × β)) (k:K) (v:β):(putD l k v).length≤l.length+1:=by
  induction l with
  | nil=>exact Nat.le_refl _
  | cons p r ih =>
    rw [putD_cons]
    by_cases q:p.1=k
    · rw [if_pos q];exact Nat.le_succ _
    · rw [if_neg q];exact Nat.succ_le_succ ih
theorem putD_key {K β:Type} [DecidableEq K] {P:K→Prop} {k:K} {v:β} (hk:P k) {l:List (K × β)}:(∀ e∈l,P e.1)→∀ e∈putD l k v,P e.1:=by
  induction l with
  | nil=>exact fun _ e m=>List.mem_singleton.mp m▸hk
  | cons p r ih =>
    intro h e
    rw [putD_cons]
    by_cases q:p.1=k
    · rw [if_pos q]
      exact fun m=>(List.mem_cons.mp m).elim (fun z=>z▸h p (.head _)) fun m=>h e (.tail _ m)
    · rw [if_neg q]
      exact fun m=>(List.mem_cons.mp m).elim (fun z=>z▸h p (.head _)) (ih (fun e m=>h e (.tail _ m)) e)
theorem MOk.ask {c:Nat} {m:MS} (h:MOk (c+1) m) (l:Nat) (b:Bool) (hl:l < 3):MOk c (m.ask l b):=by
  have go:MOk c {m with ak:=putD m.ak (l,b) m.ep,md:=m.md++[avM (l,b)]}:=h.of (Nat.le_succ _) (Nat.le_succ _) (Nat.le_succ _) (Nat.le_of_eq List.length_append) (putD_le ..) h.w (putD_key (P:=fun k:Nat × Bool=>k.1 < 3) hl h.ks)
  unfold MS.ask
  split
  · split
    · exact h.le (Nat.le_succ _)
    · exact go
  · exact go
theorem MOk.logD {c:Nat} {m:MS} (h:MOk (c+1) m) (j lev:Nat):MOk c (m.logD j lev):=h.of (Nat.le_succ _) (Nat.le_succ _) (Nat.le_of_eq List.length_append) (Nat.le_succ _) (Nat.le_succ _) h.w h.ks
theorem MOk.logR {c:Nat} {m:MS} (h:MOk (c+1) m) (x:Str):MOk c {m with lg:=m.lg++[avE (.run x)]}:=h.of (Nat.le_succ _) (Nat.le_succ _) (Nat.le_of_eq List.length_append) (Nat.le_succ _) (Nat.le_succ _) h.w h.ks
theorem MOk.cnt {c:Nat} {m:MS} (h:MOk c m) (st sp:Int):MOk c {m with st:=st,sp:=sp}:=⟨h.cm,h.fi,h.lg,h.md,h.ak,h.w,h.ks⟩
theorem slen_nmP (t:Bool) (k:Nat) (h:k < 11):slen (nmP t k)≤3:=(eff_at ⟨fun _=>.nil,fun _=>0,fun _=>⟨0,0,0⟩,true⟩ t k h).2
noncomputable def CallOk (C:Nat) (call:Nat→MS→(Bool × Str) × MS):Prop:=∀ j c m,j < 6→MOk (c+8+C) m→MOk c (call j m).2∧slen (call j m).1.2≤8+C
theorem noOf_len {x:Str} (h:slen x≤3):slen (noOf x)≤8:=by
  rw [noOf,slen_cat]
  exact Nat.le_trans (Nat.add_le_add_left h _) (by decide)
theorem src_ok {c:Nat} {p:Pg} {t:Bool} {k:Nat} {m:MS} (hk:k < 11) (h:MOk (c+2) m):MOk c (srcF p t k m).2∧slen (srcF p t k m).1.2≤8 :=
  have l:=slen_nmP t k hk
  have h1:MOk (c+1) (m.logR (nmP t k)):=h.logR _
  srcF_el (Q:=fun r=>MOk c r.2∧slen r.1.2≤8) (fun _=>⟨h1.put 0,leL l rfl⟩) (fun _=>⟨(h1.le (Nat.le_succ c)).del 2,leL l rfl⟩) (fun _=>⟨h1.le (Nat.le_succ c),noOf_len l⟩) fun _ _ _=>⟨h1.le (Nat.le_succ c),leL l rfl⟩
noncomputable abbrev Gr (c b:Nat) (r:(Bool × Str) × MS):Prop:=MOk c r.2∧slen r.1.2≤b
mutual
theorem playI_ok {p:Pg} {C:Nat} {call:Nat→MS→(Bool × Str) × MS} (hc:CallOk C call) (e:Int):∀ (i:It) (c:Nat) (m:MS),WfI i→MOk (c+wI C i) m→MOk c (playI p call e i m).2∧slen (playI p call e i m).1.2≤wI C i
  | .plain x,c,m,w,h=>⟨(h.le (Nat.le_add_right c 3)).cnt _ _,w⟩
  | .deed j,c,m,w,h=>hc j c _ w ((h.le (Nat.le_of_eq (Nat.add_assoc c 8 C))).cnt _ _)
  | .piece t k its,c,m,w,h=>by
    show Gr c (8+wL C its) (if m.ep=e then _ else _)
    by_cases q:m.ep=e
    · rw [if_pos q]
      obtain ⟨q1,q2⟩:=playL_ok hc e its c [] {m with st:=m.st+1} w.2 ((h.le (Nat.add_le_add_left (Nat.le_add_left (wL C its) 8) c)).cnt _ _)
      exact ⟨q1,Nat.le_trans (Nat.zero_add (wL C its)▸q2) (Nat.le_add_left (wL C its) 8)⟩
    · rw [if_neg q]
      obtain ⟨q1,q2⟩:=src_ok (p:=p) (t:=t) (c:=c) (m:={m with st:=m.st+1}) w.1 ((h.le (Nat.add_le_add_left (Nat.le_add_right_of_le (by decide:2≤8)) c)).cnt _ _)
      exact ⟨q1,Nat.le_add_right_of_le q2⟩
theorem playL_ok {p:Pg} {C:Nat} {call:Nat→MS→(Bool × Str) × MS} (hc:CallOk C call) (e:Int):∀ (r:Its) (c:Nat) (acc:List Str) (m:MS),WfL r→MOk (c+wL C r) m→MOk c (playL p call e r acc m).2∧slen (playL p call e r acc m).1.2≤(acc.map slen).sum+wL C r
  | .nil,c,acc,m,_,h=>⟨(h.le (Nat.le_add_right ..)).cnt _ _,Nat.le_of_eq (slen_join acc)⟩
  | .cons i r,c,acc,m,w,h=>by
    obtain ⟨q1,q2⟩:=playI_ok (p:=p) hc e i (c+wL C r) m w.1 (h.le (Nat.le_of_eq (by rw [Nat.add_assoc,Nat.add_comm (wL C r)];rfl)))
    show Gr c ((acc.map slen).sum+(wI C i+wL C r)) (match playI p call e i m with | ((true,x),s')=>playL p call e r (acc++[x]) s' | ((false,x),s')=>((false,x),s'))
    generalize playI p call e i m=out at q1 q2
    obtain ⟨⟨b,x⟩,s'⟩:=out
    cases b with
    | true =>
      obtain ⟨z1,z2⟩:=playL_ok (p:=p) hc e r c (acc++[x]) s' w.2 q1
      refine ⟨z1,Nat.le_trans z2 ?_⟩
      rw [List.map_append,List.sum_append,Nat.add_assoc]
      exact Nat.add_le_add_left (Nat.add_le_add_right q2 _) _
    | false=>exact ⟨q1.le (Nat.le_add_right ..),Nat.le_add_left_of_le (Nat.le_add_right_of_le q2)⟩
end
theorem deed_ok {p:Pg} {lev j c:Nat} {m:MS} (h:MOk (c+3) m):MOk c (deedF p lev j m).2 :=
  have h1:MOk (c+2) (m.logD j lev):=h.logD _ _
  have h0:MOk c (m.logD j lev):=h1.le (Nat.le_add_right c 2)
  deedF_el (Q:=fun r=>MOk c r.2) (fun _=>(h1.le (Nat.le_succ _)).put _) (fun _=>h0.del _) (fun _=>h1.add _) (fun _ _ _=>h0) (fun _ _=>h0) fun _ _=>h0
theorem wOf_len {j:Nat} (h:j < 6):slen (wOf j)=2:=by
  rw [wOf,slen_cat,intS_len h];rfl
noncomputable def callK (j:Nat) (later:Nat→MS→(Bool × Str) × MS) (r:Option Nat × MS):(Bool × Str) × MS:=match r with
  | (none,s')=>((true,wOf j),s')
  | (some l,s')=>later l s'
theorem callF_ok {p:Pg} {lev C:Nat} {later:Nat→MS→(Bool × Str) × MS} (hl:∀ l j c m,(deedF p lev j m).1=some l→MOk (c+1+C) (deedF p lev j m).2→MOk c (later l (deedF p lev j m).2).2∧slen (later l (deedF p lev j m).2).1.2≤C):CallOk C (callF p lev later):=by
  intro j c m hj h
  have h1:MOk (c+1+C+3) {m with sp:=m.sp+1}:=(h.le (by omega)).cnt m.st _
  have q:=deed_ok (p:=p) (lev:=lev) (j:=j) h1
  have z:=fun l=>hl l j c {m with sp:=m.sp+1}
  show MOk c (callK j later (deedF p lev j {m with sp:=m.sp+1})).2∧slen (callK j later (deedF p lev j {m with sp:=m.sp+1})).1.2≤8+C
  generalize deedF p lev j {m with sp:=m.sp+1}=d at q z
  obtain ⟨o,s'⟩:=d
  cases o with
  | none=>exact ⟨q.le (Nat.add_assoc c 1 C▸Nat.le_add_right ..),Nat.le_trans (Nat.le_of_eq (wOf_len hj)) (Nat.le_add_right_of_le (by decide))⟩
  | some l=>exact ⟨(z l rfl q).1,Nat.le_add_left_of_le (z l rfl q).2⟩
end T
namespace T
noncomputable def Lay (R:List AV) (n:Nat) (rs:List Rw):Prop:=∃ pre post,R=pre++(rs.map avR++post)∧pre.length=n
theorem Lay.head {R:List AV} {n:Nat} {r:Rw} {rs:List Rw} (h:Lay R n (r::rs)):R[n]?=some (avR r)∧n < R.length:=by
  obtain ⟨pre,post,rfl,rfl⟩:=h
  exact ⟨by rw [List.getElem?_append_right (Nat.le_refl _),Nat.sub_self];rfl,by simp⟩
theorem Lay.tail {R:List AV} {n:Nat} {r:Rw} {rs:List Rw} (h:Lay R n (r::rs)):Lay R (n+1) rs:=by
  obtain ⟨pre,post,rfl,rfl⟩:=h
  exact ⟨pre++[avR r],post,by simp,by simp⟩
theorem Lay.left {R:List AV} {n:Nat} {a b:List Rw} (h:Lay R n (a++b)):Lay R n a:=by
  obtain ⟨pre,post,rfl,rfl⟩:=h
  exact ⟨pre,b.map avR++post,by simp,rfl⟩
theorem Lay.right {R:List AV} {n:Nat} {a b:List Rw} (h:Lay R n (a++b)):Lay R (n+a.length) b:=by
  obtain ⟨pre,post,rfl,rfl⟩:=h
  exact ⟨pre++a.map avR,post,by simp,by simp⟩
theorem Lay.row {f:Fr} {n:Nat} {r:Rw} {rs:List Rw} {w:AV} (h:Lay f.R n (r::rs)) (hp:f.pc=.ofNat n) (hR:f.R.length≤100000) (hw:Weak (avR r) w):RowAt f w:=⟨hR,n,avR r,hp,h.head.2,h.head.1,hw⟩
theorem Lay.lt {R:List AV} {n:Nat} {rs:List Rw} (h:Lay R n rs):n+rs.length≤R.length:=by
  obtain ⟨pre,post,rfl,rfl⟩:=h
  simp
theorem tup3 {a b c d:AV} (h:Weak c d):Weak (.tup [a,c,b]) (.tup [a,d,b]):=fun k _ r=>by
  have e:∀ {l},VRels k [a,c,b] l→VRels k [a,d,b] l:=fun q=>q.consE fun _ _ h1 q=>q.consE (G:=fun l=>VRels k [a,d,b] (_::l)) fun _ _ h2 q=>.cons h1 (.cons (h _ _ h2) q)
  exact r.elim fun _ _ g1 g2=>.tup g1 (e g2)
inductive Cx where
  | one
  | two (f1:Fr) (l2:Nat)
  | three (f1:Fr) (l2:Nat) (f2:Fr) (l3:Nat)
noncomputable def At (p:Pg) (cx:Cx) (m:MS) (f:Fr) (σ:List AObj):Prop:=match cx with
  | .one=>σ=cA p m f∨σ=cB p m f
  | .two f1 l2=>σ=c2 p m f1 l2 f
  | .three f1 l2 f2 l3=>σ=c3 p m f1 l2 f2 l3 f
noncomputable def Cx.push:Cx→Fr→Nat→Option Cx
  | .one,f,l=>some (.two f l)
  | .two f1 l2,f,l=>some (.three f1 l2 f l)
  | .three ..,_,_=>none
section
variable (P:Params) (H:Hooks) (p:Pg) (dep:Nat)
noncomputable abbrev Rch (σ σ':List AObj):Prop:=LpS (testE P H) (stepE P H) (rdR P dep) 20 lsR σ σ'
structure Hk:Prop where
  deed:DeedOk H p
  src:SrcOk H p
  maker:MakerOk H p
variable {P H p dep}
theorem one {σ σ':List AObj} (h:LT P H dep σ σ'):Rch P H dep σ σ':=.step h .refl
theorem a_push {cx:Cx} {m:MS} {f:Fr} {σ:List AObj} (h:At p cx m f σ) {x:Str} (hr:RowAt f (avR (.push (.ss x) x))) (hs:f.st.length≤100000):∃ σ',Rch P H dep σ σ'∧At p cx m.stp (f.nx (f.st++[.ss x])) σ':=by
  cases cx with
  | one =>
    rcases h with rfl | rfl
    · exact ⟨_,one (pushA P H p m f dep (.ss x) x hr hs),.inl rfl⟩
    · exact ⟨_,one (pushB P H p m f dep (.ss x) x hr hs),.inr rfl⟩
  | two f1 l2=>cases h;exact ⟨_,one (push2 P H p m f1 l2 f dep (.ss x) x hr hs),rfl⟩
  | three f1 l2 f2 l3=>cases h;exact ⟨_,one (push3 P H p m f1 l2 f2 l3 f dep (.ss x) x hr hs),rfl⟩
theorem a_join {cx:Cx} {m:MS} {f:Fr} {σ:List AObj} (h:At p cx m f σ) {tx s2:List AV} {ys:List Str} (hf:f.st=s2++tx) (hr:RowAt f (avR (.join tx.length))) (hs:StOk f.st) (hy:strsOf tx=some ys) (hz:(ys.map slen).sum≤16000000) :
    ∃ σ',Rch P H dep σ σ'∧At p cx m.stp (f.nx (s2++[.ss (joinE ys)])) σ':=by
  cases cx with
  | one =>
    rcases h with rfl | rfl
    · exact ⟨_,one (joinA P H p m f dep tx s2 ys hf hr hs hy hz),.inr rfl⟩
    · exact ⟨_,one (joinB P H p m f dep tx s2 ys hf hr hs hy hz),.inr rfl⟩
  | two f1 l2=>cases h;exact ⟨_,one (join2 P H p m f1 l2 f dep tx s2 ys hf hr hs hy hz),rfl⟩
  | three f1 l2 f2 l3=>cases h;exact ⟨_,one (join3 P H p m f1 l2 f2 l3 f dep tx s2 ys hf hr hs hy hz),rfl⟩
theorem a_same {cx:Cx} {m:MS} {f:Fr} {σ:List AObj} (h:At p cx m f σ) {t:Bool} {k b:Nat} (hr:RowAt f (avR (.start t k b))) (he:m.ep=f.e):∃ σ',Rch P H dep σ σ'∧At p cx m.stp (f.nx f.st) σ':=by
  cases cx with
  | one =>
    rcases h with rfl | rfl
    · exact ⟨_,one (eqStA P H p m f dep t k b hr he),.inl rfl⟩
    · exact ⟨_,one (eqStB P H p m f dep t k b hr he),.inr rfl⟩
  | two f1 l2=>cases h;exact ⟨_,one (eqSt2 P H p m f1 l2 f dep t k b hr he),rfl⟩
  | three f1 l2 f2 l3=>cases h;exact ⟨_,one (eqSt3 P H p m f1 l2 f2 l3 f dep t k b hr he),rfl⟩
theorem a_text {cx:Cx} {m m':MS} {f:Fr} {σ:List AObj} (h:At p cx m f σ) (hd:dep≤400) {j lev:Nat} {x:Str} {s2:List AV} (hf:f.st=s2++wds j lev) (hr:RowAt f (avR .inv)) (hs:StOk f.st) (hw:m.cm.contains dW=true)
    (hq:Spec (H.fn 777) [.inst 593 2,.sl (wds j lev),dDat p] (hB p m.spd 1) (.ok (.ss x)) (hB p m' 1) 460):∃ σ',Rch P H dep σ σ'∧At p cx {m' with st:=m.st+1,ak:=m.ak} (f.nx (s2++[.ss x])) σ':=by
  cases cx with
  | one =>
    rcases h with rfl | rfl
    · exact ⟨_,one (textA P H p m f m' dep j lev x s2 hd hf hr hs hw hq),.inr rfl⟩
    · exact ⟨_,one (textB P H p m f m' dep j lev x s2 hd hf hr hs hw hq),.inr rfl⟩
  | two f1 l2=>cases h;exact ⟨_,one (text2 P H p m f1 l2 f m' dep j lev x s2 hd hf hr hs hw hq),rfl⟩
  | three f1 l2 f2 l3=>cases h;exact ⟨_,one (text3 P H p m f1 l2 f2 l3 f m' dep j lev x s2 hd hf hr hs hw hq),rfl⟩
theorem a_ran {cx:Cx} {m m':MS} {f:Fr} {σ:List AObj} (h:At p cx m f σ) (hd:dep≤400) {t:Bool} {k b:Nat} {x:Str} (hr:RowAt f (avR (.start t k b))) (he:m.ep ≠ f.e) (hs:f.st.length≤100000)
    (hq:Spec (H.fn 784) [.inst 593 2,.ss (nmP t k)] (hB p m 2) (.ok (.ss x)) (hB p m' 2) 470):∃ σ',Rch P H dep σ σ'∧At p cx {m' with st:=m.st+1,ak:=m.ak} {f with pc:=.ofNat b,st:=f.st++[.ss x]} σ':=by
  cases cx with
  | one =>
    rcases h with rfl | rfl
    · exact ⟨_,one (ranA P H p m f m' dep t k b x hd hr he hs hq),.inl rfl⟩
    · exact ⟨_,one (ranB P H p m f m' dep t k b x hd hr he hs hq),.inr rfl⟩
  | two f1 l2=>cases h;exact ⟨_,one (ran2 P H p m f1 l2 f m' dep t k b x hd hr he hs hq),rfl⟩
  | three f1 l2 f2 l3=>cases h;exact ⟨_,one (ran3 P H p m f1 l2 f2 l3 f m' dep t k b x hd hr he hs hq),rfl⟩
variable (P H p dep)
noncomputable def Fin (σ:List AObj) (m:MS) (x:Str):Prop:=∃ g:List AObj,(g=[]∨g=[.gone]∨g=[.gone,.gone,.gone]∨g=[.gone,.gone,.gone,.gone,.gone])∧Lp (testE P H) (stepE P H) (rdR P dep) 20 lsR σ (.exc (20+g.length)) lsR (cX p m g x)
variable {P H p dep}
theorem testE_A (m:MS) (f:Fr):∀ orc obl,(testE P H).run (rdR P dep) ⟨lsR,cA p m f,orc,obl⟩=some (.ok true,⟨lsR,cA p m f,orc,obl⟩):=fun orc obl=>by kernel_rfl
theorem testE_B (m:MS) (f:Fr):∀ orc obl,(testE P H).run (rdR P dep) ⟨lsR,cB p m f,orc,obl⟩=some (.ok true,⟨lsR,cB p m f,orc,obl⟩):=fun orc obl=>by kernel_rfl
theorem testE_2 (m:MS) (f1:Fr) (l2:Nat) (f:Fr):∀ orc obl,(testE P H).run (rdR P dep) ⟨lsR,c2 p m f1 l2 f,orc,obl⟩=some (.ok true,⟨lsR,c2 p m f1 l2 f,orc,obl⟩):=fun orc obl=>by kernel_rfl
theorem testE_3 (m:MS) (f1:Fr) (l2:Nat) (f2:Fr) (l3:Nat) (f:Fr):∀ orc obl,(testE P H).run (rdR P dep) ⟨lsR,c3 p m f1 l2 f2 l3 f,orc,obl⟩=some (.ok true,⟨lsR,c3 p m f1 l2 f2 l3 f,orc,obl⟩):=fun orc obl=>by kernel_rfl
theorem a_exc {cx:Cx} {m m':MS} {f:Fr} {σ:List AObj} (h:At p cx m f σ) (hd:dep≤400) {t:Bool} {k b:Nat} {x:Str} (hr:RowAt f (avR (.start t k b))) (he:m.ep ≠ f.e) (hx:slen x≤1000)
    (hq:Spec (H.fn 784) [.inst 593 2,.ss (nmP t k)] (hB p m 2) (.exc 10) (hB p m' 2++[excO 11,excS (.ss x) (.str (sOf [])) false (.mut 12),.list false []]) 470):Fin P H p dep σ {m' with st:=m.st+1,ak:=m.ak} x:=by
  cases cx with
  | one =>
    rcases h with rfl | rfl
    · exact ⟨[],.inl rfl,.exc (testE_A m f) (excA P H p m f m' dep t k b x hd hr he hx hq)⟩
    · exact ⟨[.gone],.inr (.inl rfl),.exc (testE_B m f) (excB P H p m f m' dep t k b x hd hr he hx hq)⟩
  | two f1 l2=>cases h;exact ⟨[.gone,.gone,.gone],.inr (.inr (.inl rfl)),.exc (testE_2 m f1 l2 f) (exc2 P H p m f1 l2 f m' dep t k b x hd hr he hx hq)⟩
  | three f1 l2 f2 l3=>cases h;exact ⟨[.gone,.gone,.gone,.gone,.gone],.inr (.inr (.inr rfl)),.exc (testE_3 m f1 l2 f2 l3 f) (exc3 P H p m f1 l2 f2 l3 f m' dep t k b x hd hr he hx hq)⟩
end
end T
namespace T
theorem pT_ne {a b:Nat} (e:seq (pT a) (pT b)=false) (h:pT a=pT b):a=b:=no_tf (e.symm.trans (seq_iff.mpr h))
theorem pT_inj {a b:Nat} (ha:a < 3) (hb:b < 3):pT a=pT b→a=b :=
  all3 (Q:=fun a=>∀ b,b < 3→pT a=pT b→a=b) (all3 (Q:=fun b=>pT 0=pT b→0=b) (fun _=>rfl) (pT_ne (by decide)) (pT_ne (by decide))) (all3 (Q:=fun b=>pT 1=pT b→1=b) (pT_ne (by decide)) (fun _=>rfl) (pT_ne (by decide)))
    (all3 (Q:=fun b=>pT 2=pT b→2=b) (pT_ne (by decide)) (pT_ne (by decide)) fun _=>rfl) a ha b hb
noncomputable def bkey (l:Nat) (b:Bool):BK:=(pT l,b,sOf [58,58])
theorem bkey_inj {a b:Nat} {x y:Bool} (ha:a < 3) (hb:b < 3) (h:bkey a x=bkey b y):(a,x)=(b,y) :=
  have h1:pT a=pT b:=congrArg (·.1) h
  have h2:x=y:=congrArg (·.2.1) h
  pT_inj ha hb h1▸h2▸rfl
section
variable {K K' β β':Type} [DecidableEq K] [DecidableEq K'] {f:K→K'} {h:K→β→β'} {k:K} {v:β}
theorem map_lk {l:List (K × β)}:(∀ e∈l,f e.1=f k→e.1=k)→lkD (l.map fun e=>(f e.1,h e.1 e.2)) (f k)=(lkD l k).map (h k):=by
  induction l with
  | nil=>exact fun _=>rfl
  | cons p r ih =>
    intro q
    show (if f p.1=f k then some (h p.1 p.2) else lkD (r.map _) (f k))=(if p.1=k then some p.2 else lkD r k).map (h k)
    by_cases e:p.1=k
    · rw [if_pos (congrArg f e),if_pos e,e];rfl
    · rw [if_neg fun z=>e (q p (.head _) z),if_neg e];exact ih fun e m=>q e (.tail _ m)
theorem map_put {l:List (K × β)}:(∀ e∈l,f e.1=f k→e.1=k)→(putD l k v).map (fun e=>(f e.1,h e.1 e.2))=putD (l.map fun e=>(f e.1,h e.1 e.2)) (f k) (h k v):=by
  induction l with
  | nil=>exact fun _=>rfl
  | cons p r ih =>
    intro q
    show (if p.1=k then (p.1,v)::r else p::putD r k v).map _=if f p.1=f k then (f p.1,h k v)::r.map _ else (f p.1,h p.1 p.2)::putD (r.map _) (f k) (h k v)
    by_cases e:p.1=k
    · rw [if_pos e,if_pos (congrArg f e),e];rfl
    · rw [if_neg e,if_neg fun z=>e (q p (.head _) z),← ih fun e m=>q e (.tail _ m)];rfl
end
theorem bk_in {l:Nat} {b:Bool} (hl:l < 3) {ak:List ((Nat × Bool) × Int)} (h:∀ e∈ak,e.1.1 < 3):∀ e∈ak,(fun k:Nat × Bool=>bkey k.1 k.2) e.1=(fun k:Nat × Bool=>bkey k.1 k.2) (l,b)→e.1=(l,b):=fun e m z=>bkey_inj (h e m) hl z
theorem bk_lk {p:Pg} {l:Nat} {b:Bool} (hl:l < 3) {ak:List ((Nat × Bool) × Int)} (h:∀ e∈ak,e.1.1 < 3):lkD (ak.map (bkA p)) (bkey l b)=(lkD ak (l,b)).map (fun e=>cdA p l e) :=
  map_lk (f:=fun k:Nat × Bool=>bkey k.1 k.2) (h:=fun k e=>cdA p k.1 e) (k:=(l,b)) (bk_in hl h)
theorem bk_put {p:Pg} {l:Nat} {b:Bool} {e:Int} (hl:l < 3) {ak:List ((Nat × Bool) × Int)} (h:∀ e∈ak,e.1.1 < 3):(putD ak (l,b) e).map (bkA p)=putD (ak.map (bkA p)) (bkey l b) (cdA p l e) :=
  map_put (f:=fun k:Nat × Bool=>bkey k.1 k.2) (h:=fun k e=>cdA p k.1 e) (k:=(l,b)) (bk_in hl h)
theorem add_ak (m:MS) (i:Nat):(m.add i).ak=m.ak:=match i with
  | 0=>rfl
  | 1=>rfl
  | 2=>rfl
  | _+3=>rfl
theorem add_st (m:MS) (s:Int) (i:Nat):({m with st:=s}:MS).add i={m.add i with st:=s}:=match i with
  | 0=>rfl
  | 1=>rfl
  | 2=>rfl
  | _+3=>rfl
theorem deedF_ak {p:Pg} {lev j:Nat} {m:MS}:(deedF p lev j m).2.ak=m.ak:=deedF_el (Q:=fun r=>r.2.ak=m.ak) (fun _=>rfl) (fun _=>rfl) (fun _=>add_ak ..) (fun _ _ _=>rfl) (fun _ _=>rfl) fun _ _=>rfl
theorem if_map {α β:Type} {c:Prop} {_:Decidable c} {a b:α} {a' b':β} (φ:α→β) (h1:a'=φ a) (h2:b'=φ b):(if c then a' else b')=φ (if c then a else b):=by
  by_cases h:c
  · rw [if_pos h,if_pos h,h1]
  · rw [if_neg h,if_neg h,h2]
theorem deedF_st {p:Pg} {lev j:Nat} {m:MS} (s:Int):deedF p lev j {m with st:=s}=((deedF p lev j m).1,{(deedF p lev j m).2 with st:=s}):=by
  unfold deedF
  generalize (p.deed j).sort=k
  match k with
  | 0=>rfl
  | 1=>rfl
  | 2=>exact congrArg (Prod.mk none) (add_st (m.logD j lev) s _)
  | 3=>exact if_map (c:=lev < 2∧(m.logD j lev).lg.length < 12) (a:=(some (max (lev+1) (p.deed j).to.toNat),m.logD j lev)) (b:=(none,m.logD j lev)) (fun r:Option Nat × MS=>(r.1,{r.2 with st:=s})) rfl rfl
  | _+4=>rfl
theorem ask_el {Q:MS→Prop} {m:MS} {l:Nat} {b:Bool} (h1:akOf m l b=some m.ep→Q m) (h2:akOf m l b=none→Q {m with ak:=putD m.ak (l,b) m.ep,md:=m.md++[avM (l,b)]}) (h3:∀ e,akOf m l b=some e→e ≠ m.ep→Q {m with ak:=putD m.ak (l,b) m.ep,md:=m.md++[avM (l,b)]}):Q (m.ask l b):=by
  unfold MS.ask
  cases e:akOf m l b with
  | none=>exact h2 e
  | some v =>
    show Q (if v=m.ep then _ else _)
    by_cases c:v=m.ep
    · rw [if_pos c];exact h1 (e.trans (congrArg some c))
    · rw [if_neg c];exact h3 v e c
theorem ask_st {m:MS} {l:Nat} {b:Bool} (s:Int):({m with st:=s}:MS).ask l b={m.ask l b with st:=s}:=by
  unfold MS.ask
  show (match akOf m l b with | some e=>if e=m.ep then _ else _ | none=>_)=_
  cases akOf m l b with
  | none=>rfl
  | some v=>exact if_map (c:=v=m.ep) (a:=m) (b:={m with ak:=putD m.ak (l,b) m.ep,md:=m.md++[avM (l,b)]}) (fun m:MS=>{m with st:=s}) rfl rfl
section
variable {P:Params} {H:Hooks} {p:Pg} {dep:Nat}
noncomputable def Cx.ok:Cx→Prop
  | .three ..=>False
  | _=>True
theorem a_nest {cx cx':Cx} {m m':MS} {f:Fr} {σ:List AObj} (h:At p cx m f σ) (K:Hk H p) (hd:dep≤400) {j lev l:Nat} {s2:List AV} (hl:l < 3) (hf:f.st=s2++wds j lev) (hr:RowAt f (avR .inv)) (hs:StOk f.st) (hm:MOk 0 m) (hm':m'.ak=m.ak) (hmd:m'.md.length≤1000000)
    (hc:cx.push (f.nx s2) l=some cx') (hq:Spec (H.fn 777) [.inst 593 2,.sl (wds j lev),dDat p] (hB p m.spd 1) (.ok (.inst 105 10)) (hB p m' 1++[nestO l p.b]) 460) :
    ∃ σ',Rch P H dep σ σ'∧At p cx' {m'.ask l p.b with st:=m.st+1} ⟨(rwA p l).map avR,m'.ep,0,[]⟩ σ':=by
  have hk:=bk_lk (p:=p) (b:=p.b) hl hm.ks
  have hb:m.ak.length≤1000000:=by have:=hm.ak;omega
  have hmk:=K.maker m' 1 l p.b hl hmd
  have hak:(putD m.ak (l,p.b) m'.ep).map (bkA p)=putD (m.ak.map (bkA p)) (bkey l p.b) (cdA p l m'.ep):=bk_put hl hm.ks
  unfold MS.ask
  have ea:akOf m' l p.b=lkD m.ak (l,p.b):=by unfold akOf;rw [hm']
  rw [ea,hm']
  cases q:lkD m.ak (l,p.b) with
  | none =>
    rw [q] at hk
    have hk:lkD (m.ak.map (bkA p)) (pT l,p.b,sOf [58,58])=none:=hk
    cases cx with
    | one =>
      cases hc
      rcases h with rfl | rfl
      · exact ⟨_,one (newA P H p m f m' dep j lev l s2 hd hf hr hs hm.w hq hk hb hmk _ hak),rfl⟩
      · exact ⟨_,one (newB P H p m f m' dep j lev l s2 hd hf hr hs hm.w hq hk hb hmk _ hak),rfl⟩
    | two f1 l2=>cases hc;cases h;exact ⟨_,one (new2 P H p m f1 l2 f m' dep j lev l s2 hd hf hr hs hm.w hq hk hb hmk _ hak),rfl⟩
    | three=>cases hc
  | some e =>
    rw [q] at hk
    have hk:lkD (m.ak.map (bkA p)) (pT l,p.b,sOf [58,58])=some (cdA p l e):=hk
    by_cases he:e=m'.ep
    · subst he
      simp only [if_pos rfl]
      have em:({m' with st:=m.st+1,ak:=m.ak}:MS)={m' with st:=m.st+1}:=by rw [← hm']
      cases cx with
      | one =>
        cases hc
        rcases h with rfl | rfl
        · have z:=hitA P H p m f m' dep j lev l s2 hd hf hr hs hm.w hq hk
          rw [em] at z
          exact ⟨_,one z,rfl⟩
        · have z:=hitB P H p m f m' dep j lev l s2 hd hf hr hs hm.w hq hk
          rw [em] at z
          exact ⟨_,one z,rfl⟩
      | two f1 l2 =>
        cases hc;cases h
        have z:=hit2 P H p m f1 l2 f m' dep j lev l s2 hd hf hr hs hm.w hq hk
        rw [em] at z
        exact ⟨_,one z,rfl⟩
      | three=>cases hc
    · simp only [if_neg he]
      cases cx with
      | one =>
        cases hc
        rcases h with rfl | rfl
        · exact ⟨_,one (oldA P H p m f m' dep j lev l s2 hd hf hr hs hm.w hq e hk he hb hmk _ hak),rfl⟩
        · exact ⟨_,one (oldB P H p m f m' dep j lev l s2 hd hf hr hs hm.w hq e hk he hb hmk _ hak),rfl⟩
      | two f1 l2=>cases hc;cases h;exact ⟨_,one (old2 P H p m f1 l2 f m' dep j lev l s2 hd hf hr hs hm.w hq e hk he hb hmk _ hak),rfl⟩
      | three=>cases hc
theorem a_end {cx cx':Cx} {m:MS} {f f1:Fr} {l:Nat} {σ:List AObj} (hc:cx.push f1 l=some cx') (h:At p cx' m f σ) {x:Str} (hp:f.pc=(f.R.length:Int)) (hR:f.R.length≤100000) (hs:f.st=[.ss x]) (h1:f1.st.length≤100000) :
    ∃ σ',Rch P H dep σ σ'∧At p cx m {f1 with st:=f1.st++[.ss x]} σ':=by
  cases cx with
  | one=>cases hc;cases h;exact ⟨_,one (end2 P H p m f1 l f dep x hp hR hs h1),.inr rfl⟩
  | two g1 l2=>cases hc;cases h;exact ⟨_,one (end3 P H p m g1 l2 f1 l f dep x hp hR hs h1),rfl⟩
  | three=>cases hc
noncomputable def Res2 (P:Params) (H:Hooks) (p:Pg) (dep:Nat) (cx:Cx) (σ:List AObj) (f:Str→Fr):(Bool × Str) × MS→Prop
  | ((true,x),m')=>∃ σ',Rch P H dep σ σ'∧At p cx m' (f x) σ'
  | ((false,x),m')=>Fin P H p dep σ m' x
theorem Fin.before {σ σ':List AObj} {m:MS} {x:Str} (h:Rch P H dep σ σ') (k:Fin P H p dep σ' m x):Fin P H p dep σ m x:=by
  obtain ⟨g,hg,k⟩:=k
  exact ⟨g,hg,h.lp k⟩
theorem Res2.before {cx:Cx} {σ σ':List AObj} {f:Str→Fr} {r:(Bool × Str) × MS} (h:Rch P H dep σ σ') (k:Res2 P H p dep cx σ' f r):Res2 P H p dep cx σ f r:=by
  obtain ⟨⟨b,x⟩,m'⟩:=r
  cases b with
  | true =>
    obtain ⟨σ2,k1,k2⟩:=k
    exact ⟨σ2,h.trans k1,k2⟩
  | false=>exact Fin.before h k
noncomputable def SimCall (P:Params) (H:Hooks) (p:Pg) (dep:Nat) (cx:Cx) (l C:Nat) (call:Nat→MS→(Bool × Str) × MS):Prop:=∀ m f σ n j,At p cx m f σ→Lay f.R n (rwI l n (.deed j))→f.pc=.ofNat n→f.R.length≤100000→f.st.length≤50000→(∀ v∈f.st,Cl v)→j < 6→MOk (8+C) m →
  Res2 P H p dep cx σ (fun x=>{f with pc:=.ofNat (n+4),st:=f.st++[.ss x]}) (call j {m with st:=m.st+4})
theorem strs_map (acc:List Str):strsOf (acc.map AV.ss)=some acc:=by
  induction acc with
  | nil=>rfl
  | cons x r ih =>
    show Option.map (x::·) (strsOf (r.map AV.ss))=_
    rw [ih];rfl
theorem cl_map {st:List AV} (h:∀ v∈st,Cl v) (acc:List Str):∀ v∈st++acc.map AV.ss,Cl v:=fun v m =>
  (List.mem_append.mp m).elim (h v) fun m=>let ⟨_,_,e⟩:=List.mem_map.mp m;e▸⟨1,rfl⟩
theorem pc_eq {f:Fr} {n:Nat} (h:f.pc=.ofNat n):f.pc+1=.ofNat (n+1):=by rw [h];rfl
theorem MOk.fit {c:Nat} {m:MS} (h:MOk c m):Fit 40000 m:=⟨leA h.cm rfl,leA h.fi rfl⟩
theorem MOk.top {c k:Nat} {m:MS} (h:MOk (k+c) m):c≤16000000:=leL (Nat.le_trans (Nat.le_add_left c k) (Nat.le_trans (Nat.le_add_left _ _) h.cm)) rfl
theorem pc_piece (n k:Nat):n+1+k+1=n+(k+2):=by omega
theorem len_next {a b k n:Nat} (h:a+(b+k)≤n) (h1:1≤b):a+1+k≤n:=by omega
theorem szI_pos:∀ i,1≤szI i
  | .plain _=>Nat.le_refl 1
  | .deed _=>(by decide:1≤4)
  | .piece _ _ its=>Nat.le_add_left_of_le (by decide:1≤2)
theorem srcF_st {p:Pg} {t:Bool} {k:Nat} {s:MS}:(srcF p t k s).2.st=s.st∧(srcF p t k s).2.ak=s.ak:=srcF_el (Q:=fun r=>r.2.st=s.st∧r.2.ak=s.ak) (fun _=>⟨rfl,rfl⟩) (fun _=>⟨rfl,rfl⟩) (fun _=>⟨rfl,rfl⟩) fun _ _ _=>⟨rfl,rfl⟩
theorem stak_eq {m:MS} {a:Int} {b:List ((Nat × Bool) × Int)} (h:m.st=a∧m.ak=b):({m with st:=a,ak:=b}:MS)=m:=h.1▸h.2▸rfl
mutual
theorem simI (K:Hk H p) (hd:dep≤400) {cx:Cx} {l C:Nat} {call:Nat→MS→(Bool × Str) × MS} (hcall:SimCall P H p dep cx l C call) (hok:CallOk C call):∀ (i:It) (m:MS) (f:Fr) (σ:List AObj) (n:Nat),At p cx m f σ→Lay f.R n (rwI l n i)→f.pc=.ofNat n→f.R.length≤100000→f.st.length+szI i≤50000→(∀ v∈f.st,Cl v)→WfI i→MOk (wI C i) m →
    Res2 P H p dep cx σ (fun x=>{f with pc:=.ofNat (n+szI i),st:=f.st++[.ss x]}) (playI p call f.e i m)
  | .plain x,m,f,σ,n,h,hl,hp,hR,hs,hcl,hw,hm=>by
    obtain ⟨σ',r1,r2⟩:=a_push (P:=P) (H:=H) (dep:=dep) h (x:=x) (hl.row hp hR (.refl _)) (leA hs rfl)
    have e:f.nx (f.st++[.ss x])={f with pc:=.ofNat (n+1),st:=f.st++[.ss x]}:=congrArg (fun z=>(⟨f.R,f.e,z,_⟩:Fr)) (pc_eq hp)
    rw [e] at r2
    exact ⟨σ',r1,r2⟩
  | .deed j,m,f,σ,n,h,hl,hp,hR,hs,hcl,hw,hm=>hcall m f σ n j h hl hp hR (leA hs rfl) hcl hw hm
  | .piece t k its,m,f,σ,n,h,hl,hp,hR,hs,hcl,hw,hm=>by
    have hlr:Lay f.R n (.start t k (n+1+szL its+1)::(rwL l (n+1) its++[Rw.join its.len])):=hl
    have hrow:=hlr.row (w:=avR (.start t k (n+1+szL its+1))) hp hR (.refl _)
    have e4:n+1+szL its+1=n+szI (.piece t k its):=pc_piece n (szL its)
    show Res2 P H p dep cx σ _ (if m.ep=f.e then _ else _)
    by_cases he:m.ep=f.e
    · rw [if_pos he]
      obtain ⟨σ',r1,r2⟩:=a_same (P:=P) (H:=H) (dep:=dep) h hrow he
      have q:=simL K hd hcall hok its [] f.st its.len m.stp (f.nx f.st) σ' (n+1) r2 hlr.tail (pc_eq hp) hR (Nat.le_trans (Nat.add_le_add_left (Nat.le_add_right _ 2) _) hs) (List.append_nil _).symm (Nat.zero_add _).symm hcl hw.2 ((hm.le (Nat.le_add_left (wL C its) 8)).cnt (m.st+1) m.sp) ((Nat.zero_add (wL C its)).symm▸MOk.top (k:=8) (c:=wL C its) hm)
      rw [e4] at q
      exact Res2.before r1 q
    · rw [if_neg he]
      have hsrc:=K.src {m with st:=m.st+1} 2 t k hw.1 ⟨hm.fit.cm,hm.fit.fi⟩ (leA hm.lg rfl)
      have hg:=(src_ok (p:=p) (t:=t) (c:=0) (m:={m with st:=m.st+1}) hw.1 ((hm.le (Nat.le_add_right_of_le (by decide):2≤8+wL C its)).cnt _ _)).2
      have hst:=srcF_st (p:=p) (t:=t) (k:=k) (s:={m with st:=m.st+1})
      generalize srcF p t k {m with st:=m.st+1}=out at hsrc hg hst
      obtain ⟨⟨b,x⟩,m'⟩:=out
      have e1:({m' with st:=m.st+1,ak:=m.ak}:MS)=m':=stak_eq hst
      cases b with
      | true =>
        obtain ⟨σ',r1,r2⟩:=a_ran (P:=P) (H:=H) (dep:=dep) (m':=m') h hd hrow he (leA hs rfl) hsrc
        rw [e1,e4] at r2
        exact ⟨σ',r1,r2⟩
      | false=>exact e1▸a_exc (P:=P) (H:=H) (dep:=dep) (m':=m') h hd hrow he (leL hg rfl) hsrc
theorem simL (K:Hk H p) (hd:dep≤400) {cx:Cx} {l C:Nat} {call:Nat→MS→(Bool × Str) × MS} (hcall:SimCall P H p dep cx l C call) (hok:CallOk C call):∀ (r:Its) (acc:List Str) (st0:List AV) (N:Nat) (m:MS) (f:Fr) (σ:List AObj) (n:Nat),At p cx m f σ→Lay f.R n (rwL l n r++[Rw.join N])→f.pc=.ofNat n→f.R.length≤100000→f.st.length+szL r≤50000 →
    f.st=st0++acc.map .ss→N=acc.length+r.len→(∀ v∈st0,Cl v)→WfL r→MOk (wL C r) m→(acc.map slen).sum+wL C r≤16000000 →
    Res2 P H p dep cx σ (fun x=>{f with pc:=.ofNat (n+szL r+1),st:=st0++[.ss x]}) (playL p call f.e r acc m)
  | .nil,acc,st0,N,m,f,σ,n,h,hl,hp,hR,hs,hst,hN,hcl,hw,hm,ht=>by
    have hl:Lay f.R n [Rw.join N]:=hl
    rw [show N=(acc.map AV.ss).length from hN.trans (List.length_map ..).symm] at hl
    obtain ⟨σ',r1,r2⟩:=a_join (P:=P) (H:=H) (dep:=dep) h hst (hl.row hp hR (.refl _)) ⟨leA hs rfl,hst▸cl_map hcl acc⟩ (strs_map acc) ht
    have e:f.nx (st0++[.ss (joinE acc)])={f with pc:=.ofNat (n+1),st:=st0++[.ss (joinE acc)]}:=congrArg (fun z=>(⟨f.R,f.e,z,_⟩:Fr)) (pc_eq hp)
    rw [e] at r2
    exact ⟨σ',r1,r2⟩
  | .cons i r,acc,st0,N,m,f,σ,n,h,hl,hp,hR,hs,hst,hN,hcl,hw,hm,ht=>by
    have hl1:Lay f.R n (rwI l n i++(rwL l (n+szI i) r++[Rw.join N])):=by rw [← List.append_assoc];exact hl
    have q:=simI K hd hcall hok i m f σ n h hl1.left hp hR (Nat.le_trans (Nat.add_le_add_left (Nat.le_add_right (szI i) (szL r)) _) hs) (hst▸cl_map hcl acc) hw.1 (hm.le (Nat.le_add_right (wI C i) (wL C r)))
    obtain ⟨g1,g2⟩:=playI_ok (p:=p) hok f.e i (wL C r) m hw.1 (hm.le (Nat.le_of_eq (Nat.add_comm (wL C r) (wI C i))))
    show Res2 P H p dep cx σ _ (match playI p call f.e i m with | ((true,x),s')=>playL p call f.e r (acc++[x]) s' | ((false,x),s')=>((false,x),s'))
    generalize playI p call f.e i m=out at q g1 g2
    obtain ⟨⟨b,x⟩,s'⟩:=out
    cases b with
    | true =>
      obtain ⟨σ',r1,r2⟩:=q
      have hl2:=hl1.right
      rw [rwI_len] at hl2
      have q2:=simL K hd hcall hok r (acc++[x]) st0 N s' {f with pc:=.ofNat (n+szI i),st:=f.st++[.ss x]} σ' (n+szI i) r2 hl2 rfl hR (by show (f.st++[_]).length+_≤_;rw [List.length_append];exact len_next hs (szI_pos i))
        (by show f.st++[AV.ss x]=_;rw [hst,List.map_append,List.append_assoc];rfl) (hN.trans ((Nat.add_right_comm _ _ 1).trans (by rw [List.length_append];rfl))) hcl hw.2 g1 (by rw [List.map_append,List.sum_append,Nat.add_assoc];exact Nat.le_trans (Nat.add_le_add_left (Nat.add_le_add_right g2 _) _) ht)
      have e2:n+szL (.cons i r)+1=n+szI i+szL r+1:=congrArg (·+1) (Nat.add_assoc n (szI i) (szL r)).symm
      rw [e2]
      exact Res2.before r1 q2
    | false=>exact q
end
end
end T
namespace T
section
variable {P:Params} {H:Hooks} {p:Pg} {dep:Nat}
noncomputable def NestOk (P:Params) (H:Hooks) (p:Pg) (dep:Nat) (cx:Cx) (l C:Nat) (later:Nat→MS→(Bool × Str) × MS):Prop:=∀ (j:Nat) (m:MS) (l':Nat) (f:Fr),(deedF p l j m).1=some l'→l' < 3∧∃ cx',cx.push f l'=some cx'∧∀ m2 σ',At p cx' (m2.ask l' p.b) ⟨(rwA p l').map avR,m2.ep,0,[]⟩ σ'→MOk (1+C) m2 →
  Res2 P H p dep cx' σ' (fun x=>⟨(rwA p l').map avR,m2.ep,.ofNat (szL (p.prog l')+1),[.ss x]⟩) (later l' m2)
theorem rwA_len (l:Nat):((rwA p l).map avR).length=szL (p.prog l)+1:=by rw [List.length_map,rwA,List.length_append,rwL_len];rfl
theorem nx1 {st:List AV} {a:AV} {b c:Nat} (h:st.length≤b) (e:Nat.ble (b+1) c=true):(st++[a]).length≤c:=by rw [List.length_append];exact leP h e
theorem nx2 {st:List AV} {a a':AV} {b c:Nat} (h:st.length≤b) (e:Nat.ble (b+2) c=true):(st++[a]++[a']).length≤c:=by rw [List.append_assoc,List.length_append];exact leP h e
theorem nx3 {st:List AV} {j l b c:Nat} (h:st.length≤b) (e:Nat.ble (b+3) c=true):(st++wds j l).length≤c:=by rw [List.length_append];exact leP h e
theorem st4 (x:Int):x+1+1+1+1=x+4:=by omega
theorem res_text {cx:Cx} {m md:MS} {f:Fr} {σ σ4:List AObj} {j:Nat} {n:Nat} {x:Fr} (hak:md.ak=m.ak) (r:Rch P H dep σ σ4) (hx:x={f with pc:=.ofNat (n+4),st:=f.st++[AV.ss (wOf j)]}) (h4:At p cx {({md with st:=m.st+1+1+1}:MS) with st:=m.st+1+1+1+1,ak:=m.ak} x σ4) :
    Res2 P H p dep cx σ (fun x=>{f with pc:=.ofNat (n+4),st:=f.st++[.ss x]}) ((true,wOf j),{md with st:=m.st+4}):=by
  rw [st4,← hak,hx] at h4
  exact ⟨σ4,r,h4⟩
theorem simCall (K:Hk H p) (w:WfPg p) (hd:dep≤400) {cx:Cx} {l C:Nat} (hl3:l < 3) {later:Nat→MS→(Bool × Str) × MS} (hn:NestOk P H p dep cx l C later):SimCall P H p dep cx l C (callF p l later):=by
  intro m f σ n j h hl hp hR hs hcl hj hm
  have hl0:Lay f.R n (.push (.str dW) dW::.push (.ss (intS (.ofNat j))) (intS (.ofNat j))::.push (.ss (intS (.ofNat l))) (intS (.ofNat l))::.inv::[]):=hl
  obtain ⟨σ1,r1,h1⟩:=a_push (P:=P) (H:=H) (dep:=dep) h (x:=dW) (hl0.row hp hR (tup3 .ss)) (leL hs rfl)
  obtain ⟨σ2,r2,h2⟩:=a_push (P:=P) (H:=H) (dep:=dep) h1 (x:=intS (.ofNat j)) (hl0.tail.row (f:=f.nx _) (pc_eq hp) hR (.refl _)) (nx1 hs rfl)
  obtain ⟨σ3,r3,h3⟩:=a_push (P:=P) (H:=H) (dep:=dep) h2 (x:=intS (.ofNat l)) (hl0.tail.tail.row (f:=(f.nx _).nx _) (pc_eq (f:=f.nx _) (pc_eq hp)) hR (.refl _)) (nx2 hs rfl)
  have r:=r1.trans (r2.trans r3)
  have e3:(⟨f.R,f.e,f.pc+1+1+1,f.st++[AV.ss dW]++[AV.ss (intS (.ofNat j))]++[AV.ss (intS (.ofNat l))]⟩:Fr)=⟨f.R,f.e,.ofNat (n+3),f.st++wds j l⟩:=by
    rw [hp,List.append_assoc,List.append_assoc];rfl
  have h3:At p cx m.stp.stp.stp ⟨f.R,f.e,.ofNat (n+3),f.st++wds j l⟩ σ3:=e3▸h3
  have hrow:RowAt ⟨f.R,f.e,.ofNat (n+3),f.st++wds j l⟩ (avR .inv):=Lay.row (n:=n+3) (rs:=[]) hl0.tail.tail.tail rfl hR (.refl _)
  have hso:StOk (f.st++wds j l):=⟨nx3 hs rfl,cl_map hcl [dW,intS (.ofNat j),intS (.ofNat l)]⟩
  have hd1:=deedF_st (p:=p) (lev:=l) (j:=j) (m:=m.spd) (m.st+1+1+1)
  have hd2:=deedF_st (p:=p) (lev:=l) (j:=j) (m:=m.spd) (m.st+4)
  have hak:=deedF_ak (p:=p) (lev:=l) (j:=j) (m:=m.spd)
  have hspec:=K.deed m.stp.stp.stp.spd 1 j l hj hl3 ⟨leA hm.cm rfl,leA hm.fi rfl⟩ (leA hm.lg rfl)
  have hgrow:=deed_ok (p:=p) (lev:=l) (j:=j) (c:=1+C) (m:=m.spd) ((hm.le (by omega)).cnt m.st (m.sp+1))
  have heq1:(m.stp.stp.stp.spd:MS)={m.spd with st:=m.st+1+1+1}:=rfl
  rw [heq1,hd1] at hspec
  have hcall:callF p l later j {m with st:=m.st+4}=callK j later ((deedF p l j m.spd).1,{(deedF p l j m.spd).2 with st:=m.st+4}):=congrArg (callK j later) hd2
  rw [hcall]
  have hok3:MOk 0 m.stp.stp.stp:=(hm.le (Nat.zero_le _)).cnt _ _
  have hnn:=hn j m.spd
  generalize deedF p l j m.spd=d at hspec hgrow hak hnn ⊢
  obtain ⟨o,md⟩:=d
  cases o with
  | none =>
    obtain ⟨σ4,r4,h4⟩:=a_text (P:=P) (H:=H) (dep:=dep) (m':={md with st:=m.st+1+1+1}) h3 hd rfl hrow hso hm.w hspec
    exact res_text hak (r.trans r4) rfl h4
  | some l' =>
    obtain ⟨hl',cx',hpush,hsim⟩:=hnn l' ⟨f.R,f.e,.ofNat (n+4),f.st⟩ rfl
    obtain ⟨σ4,r4,h4⟩:=a_nest (P:=P) (H:=H) (dep:=dep) (m':={md with st:=m.st+1+1+1}) h3 K hd hl' rfl hrow hso hok3 hak (leA hgrow.md rfl) hpush hspec
    have e1:({({md with st:=m.st+1+1+1}:MS).ask l' p.b with st:=m.st+1+1+1+1}:MS)=({md with st:=m.st+4}:MS).ask l' p.b:=by
      rw [ask_st (m:=md) (m.st+1+1+1),ask_st (m:=md) (m.st+4),st4]
    have h4:At p cx' (({md with st:=m.st+4}:MS).ask l' p.b) ⟨(rwA p l').map avR,md.ep,0,[]⟩ σ4:=e1▸h4
    have q:=hsim {md with st:=m.st+4} σ4 h4 (hgrow.cnt (m.st+4) md.sp)
    show Res2 P H p dep cx σ _ (later l' {md with st:=m.st+4})
    generalize later l' {md with st:=m.st+4}=out at q ⊢
    obtain ⟨⟨b,x⟩,mo⟩:=out
    cases b with
    | true =>
      obtain ⟨σ5,r5,h5⟩:=q
      obtain ⟨σ6,r6,h6⟩:=a_end (P:=P) (H:=H) (dep:=dep) hpush h5 (x:=x) (by rw [rwA_len];rfl) (by rw [rwA_len];exact leP (w.sz l' hl') rfl) rfl (leL hs rfl)
      exact ⟨σ6,r.trans (r4.trans (r5.trans r6)),h6⟩
    | false=>exact Fin.before (r.trans r4) q
theorem deed2_none {j:Nat} {m:MS}:(deedF p 2 j m).1=none:=deedF_el (Q:=fun r=>r.1=none) (fun _=>rfl) (fun _=>rfl) (fun _=>rfl) (fun _ h _=>absurd h (by decide)) (fun _ _=>rfl) fun _ _=>rfl
theorem deed_later {l j l':Nat} {m:MS} (w:WfPg p):(deedF p l j m).1=some l'→l < l'∧l' < 3 :=
  deedF_el (Q:=fun r=>r.1=some l'→l < l'∧l' < 3) (fun _=>no_some) (fun _=>no_some) (fun _=>no_some) (fun hs h _ e=>Option.some.inj e▸⟨Nat.le_max_left ..,max_lt w hs h⟩) (fun _ _=>no_some) fun _ _=>no_some
noncomputable def b2 (p:Pg):Nat:=wL 0 (p.prog 2)
noncomputable def b1 (p:Pg):Nat:=wL (b2 p) (p.prog 1)
noncomputable def b0 (p:Pg):Nat:=wL (max (b1 p) (b2 p)) (p.prog 0)
structure Wf2 (p:Pg):Prop extends WfPg p where
  b0:b0 p≤10000
  b1:b1 p≤10000
  b2:b2 p≤10000
theorem mok_up {C k:Nat} {m:MS} (hm:MOk (1+C) m) (h:k≤C):MOk (k+1) m:=hm.le (Nat.add_comm 1 C▸Nat.add_le_add_right h 1)
theorem mok_up2 {c C k:Nat} {m:MS} (hm:MOk (c+1+C) m) (h:k≤C):MOk (c+k+1) m:=hm.le (Nat.add_right_comm c k 1▸Nat.add_le_add_left h (c+1))
theorem l12 {G:Nat→Prop} {l:Nat} (h1:0 < l) (h2:l < 3) (g1:G 1) (g2:G 2):G l:=match l,h1,h2 with
  | 1,_,_=>g1
  | 2,_,_=>g2
theorem l2_of {l:Nat} (h1:1 < l) (h2:l < 3):l=2:=Nat.le_antisymm (Nat.le_of_lt_succ h2) h1
theorem gr0 {a b:Nat} (h:a≤([].map slen:List Nat).sum+b):a≤b:=Nat.zero_add b▸h
theorem ok2:CallOk 0 (call2 p):=callF_ok fun l j c m h=>by rw [deed2_none] at h;exact no_some h
theorem ok1 (w:WfPg p):CallOk (b2 p) (call1 p):=callF_ok fun l j c m h hm =>
  have q:=playL_ok (p:=p) (ok2 (p:=p)) (deedF p 1 j m).2.ep (p.prog 2) c [] ((deedF p 1 j m).2.ask 2 p.b) (w.wf 2 (by decide)) ((mok_up2 hm (Nat.le_refl _)).ask 2 p.b (by decide))
  ⟨q.1,gr0 q.2⟩
theorem ok0 (w:WfPg p):CallOk (max (b1 p) (b2 p)) (call0 p):=callF_ok fun l j c m h hm =>
  have ⟨h1,h2⟩:=deed_later w h
  l12 (G:=fun l=>Gr c (max (b1 p) (b2 p)) (enterF p (fun l=>match l with | 1=>call1 p | _=>call2 p) l (deedF p 0 j m).2)) h1 h2
    (have q:=playL_ok (p:=p) (ok1 w) (deedF p 0 j m).2.ep (p.prog 1) c [] ((deedF p 0 j m).2.ask 1 p.b) (w.wf 1 (by decide)) ((mok_up2 hm (Nat.le_max_left ..)).ask 1 p.b (by decide));⟨q.1,Nat.le_trans (gr0 q.2) (Nat.le_max_left ..)⟩)
    (have q:=playL_ok (p:=p) (ok2 (p:=p)) (deedF p 0 j m).2.ep (p.prog 2) c [] ((deedF p 0 j m).2.ask 2 p.b) (w.wf 2 (by decide)) ((mok_up2 hm (Nat.le_max_right ..)).ask 2 p.b (by decide));⟨q.1,Nat.le_trans (gr0 q.2) (Nat.le_max_right ..)⟩)
theorem simCode (K:Hk H p) (w:WfPg p) (hd:dep≤400) {cx:Cx} {l C:Nat} (hl:l < 3) {call:Nat→MS→(Bool × Str) × MS} (hcall:SimCall P H p dep cx l C call) (hok:CallOk C call) {m:MS} {e:Int} {σ:List AObj} (h:At p cx m ⟨(rwA p l).map avR,e,0,[]⟩ σ) (hm:MOk (wL C (p.prog l)) m) :
    Res2 P H p dep cx σ (fun x=>⟨(rwA p l).map avR,e,.ofNat (szL (p.prog l)+1),[.ss x]⟩) (playL p call e (p.prog l) [] m):=by
  have hz:=w.sz l hl
  have q:=simL K hd hcall hok (p.prog l) [] [] (p.prog l).len m ⟨(rwA p l).map avR,e,0,[]⟩ σ 0 h ⟨[],[],(List.append_nil _).symm,rfl⟩ rfl (by rw [rwA_len];exact leP hz rfl) (by show 0+szL (p.prog l)≤50000;rw [Nat.zero_add];exact leL hz rfl) rfl (Nat.zero_add _).symm (fun v m=>nomatch m) (w.wf l hl) hm (by show 0+wL C (p.prog l)≤_;rw [Nat.zero_add];exact leL (Nat.le_trans (Nat.le_add_left _ _) hm.cm) rfl)
  rw [Nat.zero_add] at q
  exact q
theorem nest2 (cx:Cx) (later:Nat→MS→(Bool × Str) × MS):NestOk P H p dep cx 2 0 later:=fun j m l' f h=>by rw [deed2_none] at h;exact no_some h
theorem sim2 (K:Hk H p) (w:WfPg p) (hd:dep≤400) (cx:Cx):SimCall P H p dep cx 2 0 (call2 p):=simCall K w hd (by decide) (nest2 cx _)
theorem sim1 (K:Hk H p) (w:WfPg p) (hd:dep≤400) (f1:Fr) (l2:Nat):SimCall P H p dep (.two f1 l2) 1 (b2 p) (call1 p):=simCall K w hd (by decide) fun j m l' f h=>by
  obtain ⟨h1,h2⟩:=deed_later w h
  cases l2_of h1 h2
  exact ⟨by decide,_,rfl,fun m2 σ' hA hm=>simCode K w hd (by decide) (sim2 K w hd _) ok2 hA ((mok_up hm (Nat.le_refl _)).ask 2 p.b (by decide))⟩
theorem sim0 (K:Hk H p) (w:WfPg p) (hd:dep≤400):SimCall P H p dep .one 0 (max (b1 p) (b2 p)) (call0 p):=simCall K w hd (by decide) fun j m l' f h=>by
  obtain ⟨h1,h2⟩:=deed_later w h
  refine ⟨h2,_,rfl,fun m2 σ'=>?_⟩
  exact l12 (G:=fun l'=>At p (.two f l') (m2.ask l' p.b) ⟨(rwA p l').map avR,m2.ep,0,[]⟩ σ'→MOk (1+max (b1 p) (b2 p)) m2→Res2 P H p dep (.two f l') σ' (fun x=>⟨(rwA p l').map avR,m2.ep,.ofNat (szL (p.prog l')+1),[.ss x]⟩) (enterF p (fun l=>match l with | 1=>call1 p | _=>call2 p) l' m2)) h1 h2
    (fun hA hm=>simCode K w hd (by decide) (sim1 K w hd _ _) (ok1 w) hA ((mok_up hm (Nat.le_max_left ..)).ask 1 p.b (by decide))) fun hA hm=>simCode K w hd (by decide) (sim2 K w hd _) ok2 hA ((mok_up hm (Nat.le_max_right ..)).ask 2 p.b (by decide))
theorem machine_loop (K:Hk H p) (w:Wf2 p) (hd:dep≤400) {m:MS} {e:Int} (hm:MOk (b0 p) m):match playL p (call0 p) e (p.prog 0) [] m with
    | ((true,x),m')=>Lp (testE P H) (stepE P H) (rdR P dep) 20 lsR (cA p m ⟨(rwA p 0).map avR,e,0,[]⟩) (.ok .next) lsR (cE p m' x)
    | ((false,x),m')=>Fin P H p dep (cA p m ⟨(rwA p 0).map avR,e,0,[]⟩) m' x:=by
  have q:=simCode (P:=P) K w.toWfPg hd (by decide) (sim0 K w.toWfPg hd) (ok0 w.toWfPg) (e:=e) (.inl rfl:At p .one m ⟨(rwA p 0).map avR,e,0,[]⟩ _) hm
  split
  · rename_i x m' h
    rw [h] at q
    obtain ⟨σ',r,hA⟩:=q
    rcases hA with rfl | rfl
    · exact r.lp (.step (endA P H p m' _ dep x (by rw [rwA_len];rfl) (by rw [rwA_len];exact leP (w.sz 0 (by decide)) rfl) rfl) (.stop (testE_end P H p m' x dep)))
    · exact r.lp (.step (endB P H p m' _ dep x (by rw [rwA_len];rfl) (by rw [rwA_len];exact leP (w.sz 0 (by decide)) rfl) rfl) (.stop (testE_end P H p m' x dep)))
  · rename_i x m' h
    rw [h] at q
    exact q
end
end T
namespace T
noncomputable def act0 (R:List AV) (e:Int):AObj:=.sd false [(sOf [99,111,100,101],codeV ⟨R,e,0,[]⟩),(sOf [110,101,115,116],.inst 105 13),(sOf [112,99],.int 0),(sOf [115,116,97,99,107],.mut 15),(sOf [115,108,111,116,115],.mut 17),(sOf [101,97,99,104],.mut 18),(sOf [99,97,117,103,104,116],.tup [.int 0,.str (sOf []),.none])]
noncomputable def cS (p:Pg) (m:MS) (R:List AV) (e:Int):List AObj:=mB p m 1 (.mut 19) (.str (sOf [])) []++[nest1,act0 R e,.list false [],.list false [.none],.list false [],.ed,.list false [.inst 191 14]]
theorem cS_wk (p:Pg) (m:MS) (R:List AV) (e:Int):WkS (cS p m R e) (cA p m ⟨R,e,0,[]⟩):=by
  have h:adj [16] [14,15] 0 (cS p m R e)=cA p m ⟨R,e,0,[]⟩:=by kernel_rfl
  exact h▸.mapI (adjF_wk [16] [14,15]) 0 (cS p m R e)
noncomputable def gones:Nat→List AObj
  | 0=>[]
  | n+1=>.gone::gones n
section
variable (P:Params)
noncomputable abbrev stW (H:Hooks) (dep:Nat) (p:Pg) (m:MS) (e:Int) (r:Res AFlow) (σ':List AObj):Prop:=Runs WkF (H.st (wS P)) (rdR P (dep+2)) lsR (cA p m ⟨(rwA p 0).map avR,e,0,[]⟩) r lsR σ'
noncomputable def pRun (H:Hooks) (dep:Nat) (p:Pg) (m:MS) (e:Int) (r:Res AFlow) (σ':List AObj):List Prop:=[dep+2≤500,WkLs lsR lsR,WkS (cS p m ((rwA p 0).map avR) e) (cA p m ⟨(rwA p 0).map avR,e,0,[]⟩),stW P H dep p m e r σ']
theorem pRun_ok {H:Hooks} {dep:Nat} {p:Pg} {m:MS} {e:Int} {r:Res AFlow} {σ':List AObj} (hd:dep≤300) (h:stW P H dep p m e r σ'):AllP (pRun P H dep p m e r σ'):=⟨by omega,.refl _,cS_wk _ _ _ _,h,trivial⟩
noncomputable def oRun (p:Pg) (m:MS) (e:Int) (r:Res AFlow) (σ':List AObj):Orc:=.stm lsR (cA p m ⟨(rwA p 0).map avR,e,0,[]⟩) r lsR σ'
theorem run_ok (H:Hooks) (p:Pg) (m m':MS) (e:Int) (x:Str) (sc:Scope) (dep:Nat) (hd:dep≤300) (h:stW P H dep p m e (.ok .next) (cE p m' x)) :
    Runs Weak (F P H 307 [.inst 296 10,cdA p 0 e]) ⟨sc,none,dep,0⟩ [] (mB p m 0 (.mut 11) (.str (sOf [])) []) (.ok (.ss x)) [] (mB p m' 0 (.mut 11) (.ss x) []++gones 7) :=
  Runs.msk Weak.refl [13,14,15,16,17,18,19] [] [oRun p m e (.ok .next) (cE p m' x)] (pRun P H dep p m e (.ok .next) (cE p m' x)) (by kernel_rfl) rfl (pRun_ok P hd h)
theorem run_exc (H:Hooks) (p:Pg) (m m':MS) (e:Int) (x:Str) (g:List AObj) (hg:g=[]∨g=[.gone]∨g=[.gone,.gone,.gone]∨g=[.gone,.gone,.gone,.gone,.gone]) (sc:Scope) (dep:Nat) (hd:dep≤300) (h:stW P H dep p m e (.exc (20+g.length)) (cX p m' g x)) :
    Runs Weak (F P H 307 [.inst 296 10,cdA p 0 e]) ⟨sc,none,dep,0⟩ [] (mB p m 0 (.mut 11) (.str (sOf [])) []) (.exc (20+g.length)) [] (mB p m' 0 (.mut 11) (.str (sOf [])) []++(gones 7++(g++[excO (21+g.length),excF x]))):=by
  rcases hg with rfl | rfl | rfl | rfl
  · exact Runs.msk Weak.refl [13,14,15,16,17,18,19] [] [oRun p m e (.exc 20) (cX p m' [] x)] (pRun P H dep p m e (.exc 20) (cX p m' [] x)) (by kernel_rfl) rfl (pRun_ok P hd h)
  · exact Runs.msk Weak.refl [13,14,15,16,17,18,19] [] [oRun p m e (.exc 21) (cX p m' [.gone] x)] (pRun P H dep p m e (.exc 21) (cX p m' [.gone] x)) (by kernel_rfl) rfl (pRun_ok P hd h)
  · exact Runs.msk Weak.refl [13,14,15,16,17,18,19] [] [oRun p m e (.exc 23) (cX p m' [.gone,.gone,.gone] x)] (pRun P H dep p m e (.exc 23) (cX p m' [.gone,.gone,.gone] x)) (by kernel_rfl) rfl (pRun_ok P hd h)
  · exact Runs.msk Weak.refl [13,14,15,16,17,18,19] [] [oRun p m e (.exc 25) (cX p m' [.gone,.gone,.gone,.gone,.gone] x)] (pRun P H dep p m e (.exc 25) (cX p m' [.gone,.gone,.gone,.gone,.gone] x)) (by kernel_rfl) rfl (pRun_ok P hd h)
theorem exc_at (p:Pg) (m:MS) (x:Str) (g:List AObj) (hg:g=[]∨g=[.gone]∨g=[.gone,.gone,.gone]∨g=[.gone,.gone,.gone,.gone,.gone]):(cX p m g x)[20+g.length]?=some (.exc 84 (some (21+g.length)) true):=by
  rcases hg with rfl | rfl | rfl | rfl<;>rfl
theorem s_run (n:Nat) (p:Pg) (K:Hk (hk (tabs P) n) p) (w:Wf2 p) (m:MS) (e:Int) (hm:MOk (b0 p) m) (sc:Scope) (dep:Nat) (hd:dep≤300):match playL p (call0 p) e (p.prog 0) [] m with
    | ((true,x),m')=>Runs Weak (F P (hk (tabs P) (n+1)) 307 [.inst 296 10,cdA p 0 e]) ⟨sc,none,dep,0⟩ [] (mB p m 0 (.mut 11) (.str (sOf [])) []) (.ok (.ss x)) [] (mB p m' 0 (.mut 11) (.ss x) []++gones 7)
    | ((false,x),m')=>∃ g:List AObj,(g=[]∨g=[.gone]∨g=[.gone,.gone,.gone]∨g=[.gone,.gone,.gone,.gone,.gone])∧Runs Weak (F P (hk (tabs P) (n+1)) 307 [.inst 296 10,cdA p 0 e]) ⟨sc,none,dep,0⟩ [] (mB p m 0 (.mut 11) (.str (sOf [])) []) (.exc (20+g.length)) [] (mB p m' 0 (.mut 11) (.str (sOf [])) []++(gones 7++(g++[excO (21+g.length),excF x]))):=by
  have q:=machine_loop (P:=P) (dep:=dep+2) K w (by omega) (e:=e) hm
  split
  · rename_i x m' h
    rw [h] at q
    refine run_ok P _ p m m' e x sc dep hd ?_
    show Runs _ _ _ _ _ _ _ _
    rw [st293]
    exact q.runs (by show dep+2≤500;omega) rfl
  · rename_i x m' h
    rw [h] at q
    obtain ⟨g,hg,q⟩:=q
    refine ⟨g,hg,run_exc P _ p m m' e x g hg sc dep hd ?_⟩
    show Runs _ _ _ _ _ _ _ _
    rw [st293]
    exact q.runsX (by show dep+2≤500;omega) rfl (exc_at p m' x g hg)
end
end T
namespace T
noncomputable def keyW (l:Nat) (b:Bool):Int:=2 * (Int.ofNat l)+(match b with | true=>1 | false=>0)
noncomputable def akE (x:(Nat × Bool) × Int):Int × AV:=(keyW x.1.1 x.1.2,.si x.2)
noncomputable def wT (s:MS):List AObj:=[.sd false [(nmS 0,.si s.n0),(nmS 1,.si s.n1),(nmS 2,.si s.n2),(nmS 3,.si s.n3)],.list false [.si s.ep,.si s.st],.list true s.lg,.list true s.md,.nd (s.ak.map akE)]
noncomputable def wB (p:Pg) (mf:MS) (tx:Str) (s:MS):List AObj:=mB p mf 0 (.mut 11) (.ss tx) []++wT s
noncomputable def wV (p:Pg):AV:=.tup [.mut 14,.mut 13,.mut 15,.mut 16,.mut 1,.tup [.sl (ddA p),.bool p.b],.mut 17,.mut 0]
noncomputable def outV (o:Bool × Str):AV:=.tup [.bool o.1,.ss o.2]
end T
namespace T
noncomputable def viewA {α:Type} (I J:List Nat) (N:List Str) (r:Option (Res α × AS)):Option (Res α × List (Str × AV) × List AObj × List Orc × List Prop):=viewI (adjF I J) N r
theorem Runs.ad {α:Type} {W:α→α→Prop} {m:EM α} {rd:Rd} {ls ls':List (Str × AV)} {σ σ':List AObj} {a:α} (hW:∀ a,W a a) (I J:List Nat) (N:List Str) (orc:List Orc) (ps:List Prop)
    (e:viewA I J N (m.run rd ⟨ls,σ,orc,[]⟩)=some (.ok a,ls',σ',[],ps)) (h:AllP ps):Runs W m rd ls σ (.ok a) ls' σ':=.mski hW (adjF_wk I J) e (fun _ z=>nomatch z) h
theorem keyW_inj {a b:Nat} {x y:Bool} (h:keyW a x=keyW b y):(a,x)=(b,y):=by
  unfold keyW at h
  cases x<;>cases y<;>simp at h ⊢<;>omega
theorem ak_lk {l:Nat} {b:Bool} {ak:List ((Nat × Bool) × Int)}:lkD (ak.map akE) (keyW l b)=(lkD ak (l,b)).map (fun e=>AV.si e) :=
  map_lk (f:=fun k:Nat × Bool=>keyW k.1 k.2) (h:=fun _ e=>AV.si e) (k:=(l,b)) fun _ _ z=>keyW_inj z
theorem ak_put {l:Nat} {b:Bool} {e:Int} {ak:List ((Nat × Bool) × Int)}:(putD ak (l,b) e).map akE=putD (ak.map akE) (keyW l b) (.si e) :=
  map_put (f:=fun k:Nat × Bool=>keyW k.1 k.2) (h:=fun _ e=>AV.si e) (k:=(l,b)) fun _ _ z=>keyW_inj z
theorem lkD_putD {K β:Type} [DecidableEq K] (k:K) (v:β):∀ l:List (K × β),lkD (putD l k v) k=some v
  | []=>by simp [putD,lkD]
  | p::r=>by
    unfold putD
    by_cases q:p.1=k
    · rw [if_pos q];unfold lkD;rw [if_pos q]
    · rw [if_neg q];unfold lkD;rw [if_neg q];exact lkD_putD k v r
noncomputable def wBn (p:Pg) (mf:MS) (tx:Str) (s:MS) (nd:List (Int × AV)):List AObj:=mB p mf 0 (.mut 11) (.ss tx) []++(take' 4 (wT s)++[.nd nd])
theorem wB_nd {p:Pg} {mf:MS} {tx:Str} {s:MS} {nd:List (Int × AV)} (h:s.ak.map akE=nd):wB p mf tx s=wBn p mf tx s nd:=by subst h;rfl
noncomputable def AskOk (H:Hooks) (p:Pg):Prop:=∀ mf tx s l b,l < 3→MOk 1 s→Spec (H.fn 805) [wV p,.si (.ofNat l),.bool b] (wB p mf tx s) (.ok (.si s.ep)) (wB p mf tx (s.ask l b)) 450
noncomputable def RunOk (H:Hooks) (p:Pg):Prop:=∀ mf tx s t k,k < 11→MOk 2 s→Spec (H.fn 798) [wV p,.ss (nmP t k)] (wB p mf tx s) (.ok (outV (srcF p t k s).1)) (wB p mf tx (srcF p t k s).2) 450
section
variable (P:Params)
theorem pT_len (l:Nat) (h:l < 3):slen (sOf [80])+slen (intS (.ofNat l))≤sizeLine:=by rw [intS_len (by omega)];decide
theorem s_ask (H:Hooks) (p:Pg) (mf:MS) (tx:Str) (s:MS) (l:Nat) (b:Bool) (hl:l < 3) (hm:MOk 1 s):Spec (F P H 805) [wV p,.si (.ofNat l),.bool b] (wB p mf tx s) (.ok (.si s.ep)) (wB p mf tx (s.ask l b)) 450:=fun sc dep hd=>by
  have hk:=ak_lk (l:=l) (b:=b) (ak:=s.ak)
  have h1:=pT_len l hl
  have h2:(Int.ofNat l).natAbs < 1000000:=by show l < _;omega
  have h3:s.md.length≤sizeLine:=Nat.le_trans (by have:=hm.md;omega:s.md.length≤20000) (by decide)
  have h4:(s.ak.map akE).length≤100000:=by have:=hm.ak;simp;omega
  have h5:=lkD_putD (keyW l b) (AV.si s.ep) (s.ak.map akE)
  unfold MS.ask
  unfold akOf
  cases q:lkD s.ak (l,b) with
  | none =>
    rw [q] at hk
    simp only
    rw [wB_nd (s:={s with ak:=putD s.ak (l,b) s.ep,md:=s.md++[avM (l,b)]}) ak_put]
    have h6:(lkD (s.ak.map akE) (keyW l b)).isSome=false:=by rw [hk];rfl
    cases b with
    | true =>
      exact Runs.msk Weak.refl [] [] [.b false,.v (.si s.ep)] [lkD (putD (s.ak.map akE) (keyW l true) (.si s.ep)) (keyW l true)=some (.si s.ep),s.md.length≤sizeLine,slen (sOf [80])+slen (intS (.ofNat l))≤sizeLine,(Int.ofNat l).natAbs < 1000000,(s.ak.map akE).length≤100000,(lkD (s.ak.map akE) (keyW l true)).isSome=false]
        (by kernel_rfl) rfl ⟨h5,h3,h1,h2,h4,h6,trivial⟩
    | false =>
      exact Runs.msk Weak.refl [] [] [.b false,.v (.si s.ep)] [lkD (putD (s.ak.map akE) (keyW l false) (.si s.ep)) (keyW l false)=some (.si s.ep),s.md.length≤sizeLine,slen (sOf [80])+slen (intS (.ofNat l))≤sizeLine,(Int.ofNat l).natAbs < 1000000,(s.ak.map akE).length≤100000,(lkD (s.ak.map akE) (keyW l false)).isSome=false]
        (by kernel_rfl) rfl ⟨h5,h3,h1,h2,h4,h6,trivial⟩
  | some e =>
    rw [q] at hk
    have hk:lkD (s.ak.map akE) (keyW l b)=some (.si e):=hk
    have h6:(lkD (s.ak.map akE) (keyW l b)).isSome=true:=by rw [hk];rfl
    by_cases he:e=s.ep
    · subst he
      simp only [if_pos]
      have hne:(s.ep != s.ep)=false:=by simp
      cases b with
      | true =>
        exact Runs.msk Weak.refl [] [] [.b true,.v (.si s.ep),.b false,.v (.si s.ep)] [lkD (s.ak.map akE) (keyW l true)=some (.si s.ep),(s.ep != s.ep)=false,lkD (s.ak.map akE) (keyW l true)=some (.si s.ep),(lkD (s.ak.map akE) (keyW l true)).isSome=true] (by kernel_rfl) rfl ⟨hk,hne,hk,h6,trivial⟩
      | false =>
        exact Runs.msk Weak.refl [] [] [.b true,.v (.si s.ep),.b false,.v (.si s.ep)] [lkD (s.ak.map akE) (keyW l false)=some (.si s.ep),(s.ep != s.ep)=false,lkD (s.ak.map akE) (keyW l false)=some (.si s.ep),(lkD (s.ak.map akE) (keyW l false)).isSome=true] (by kernel_rfl) rfl ⟨hk,hne,hk,h6,trivial⟩
    · simp only [if_neg he]
      rw [wB_nd (s:={s with ak:=putD s.ak (l,b) s.ep,md:=s.md++[avM (l,b)]}) ak_put]
      have hne:(e != s.ep)=true:=by simpa using he
      cases b with
      | true =>
        exact Runs.msk Weak.refl [] [] [.b true,.v (.si e),.b true,.v (.si s.ep)] [lkD (putD (s.ak.map akE) (keyW l true) (.si s.ep)) (keyW l true)=some (.si s.ep),s.md.length≤sizeLine,slen (sOf [80])+slen (intS (.ofNat l))≤sizeLine,(Int.ofNat l).natAbs < 1000000,(s.ak.map akE).length≤100000,(e != s.ep)=true,lkD (s.ak.map akE) (keyW l true)=some (.si e),(lkD (s.ak.map akE) (keyW l true)).isSome=true]
          (by kernel_rfl) rfl ⟨h5,h3,h1,h2,h4,hne,hk,h6,trivial⟩
      | false =>
        exact Runs.msk Weak.refl [] [] [.b true,.v (.si e),.b true,.v (.si s.ep)] [lkD (putD (s.ak.map akE) (keyW l false) (.si s.ep)) (keyW l false)=some (.si s.ep),s.md.length≤sizeLine,slen (sOf [80])+slen (intS (.ofNat l))≤sizeLine,(Int.ofNat l).natAbs < 1000000,(s.ak.map akE).length≤100000,(e != s.ep)=true,lkD (s.ak.map akE) (keyW l false)=some (.si e),(lkD (s.ak.map akE) (keyW l false)).isSome=true]
          (by kernel_rfl) rfl ⟨h5,h3,h1,h2,h4,hne,hk,h6,trivial⟩
theorem s_wrun (H:Hooks) (p:Pg) (mf:MS) (tx:Str) (s:MS) (t:Bool) (k:Nat) (hk:k < 11) (hm:MOk 2 s):Spec (F P H 798) [wV p,.ss (nmP t k)] (wB p mf tx s) (.ok (outV (srcF p t k s).1)) (wB p mf tx (srcF p t k s).2) 450:=fun sc dep hd=>by
  obtain ⟨e1,e2⟩:=eff_at p t k hk
  have l1:s.lg.length≤sizeLine:=Nat.le_trans (by have:=hm.lg;omega:s.lg.length≤20000) (by decide)
  have l2:slen (nmP t k)≤sizeLine:=Nat.le_trans e2 (by decide)
  unfold srcF
  generalize nmP t k=x at *
  simp only
  by_cases c1:p.eff k=1
  · rw [if_pos c1]
    exact Runs.ad Weak.refl [] [13] [] [.v (.si (p.eff k)),.b true,.b false,.b false] [(p.eff k == 3)=false,(p.eff k == 2)=false,(p.eff k == 1)=true,lk (effE p) (Txt.slice x (some 1) none)=some (.si (p.eff k)),slen x≤sizeLine,s.lg.length≤sizeLine]
      (by kernel_rfl) ⟨by rw [c1];rfl,by rw [c1];rfl,by rw [c1];rfl,e1,l2,l1,trivial⟩
  · rw [if_neg c1]
    by_cases c2:p.eff k=2
    · rw [if_pos c2]
      exact Runs.ad Weak.refl [] [13] [] [.v (.si (p.eff k)),.b false,.b true,.b false] [(p.eff k == 3)=false,(p.eff k == 2)=true,(p.eff k == 1)=false,lk (effE p) (Txt.slice x (some 1) none)=some (.si (p.eff k)),slen x≤sizeLine,s.lg.length≤sizeLine]
        (by kernel_rfl) ⟨by rw [c2];rfl,by rw [c2];rfl,by rw [c2];rfl,e1,l2,l1,trivial⟩
    · rw [if_neg c2]
      by_cases c3:p.eff k=3
      · rw [if_pos c3]
        exact Runs.ad Weak.refl [] [] [] [.v (.si (p.eff k)),.b false,.b false,.b true] [slen (sOf [110,111,32])+slen x≤sizeLine,(p.eff k == 3)=true,(p.eff k == 2)=false,(p.eff k == 1)=false,lk (effE p) (Txt.slice x (some 1) none)=some (.si (p.eff k)),slen x≤sizeLine,s.lg.length≤sizeLine]
          (by kernel_rfl) ⟨Nat.le_trans (Nat.add_le_add_left e2 _) (by decide),by rw [c3];rfl,by rw [c3];rfl,by rw [c3];rfl,e1,l2,l1,trivial⟩
      · rw [if_neg c3]
        exact Runs.ad Weak.refl [] [] [] [.v (.si (p.eff k)),.b false,.b false,.b false] [(p.eff k == 3)=false,(p.eff k == 2)=false,(p.eff k == 1)=false,lk (effE p) (Txt.slice x (some 1) none)=some (.si (p.eff k)),slen x≤sizeLine,s.lg.length≤sizeLine]
          (by kernel_rfl) ⟨by simpa using c3,by simpa using c2,by simpa using c1,e1,l2,l1,trivial⟩
end
end T
namespace T
noncomputable def avDi (d:Dd) (i:Nat):AV:=.tup [.ss (dsS d.sort),.int (.ofNat i),.si d.to]
theorem wk_is {i:Int}:Weak (.si i) (.int i):=fun c v h=>h.elim (.int i)
theorem avDi_wk {d:Dd} {i:Nat} (h:d.name=i):Weak (.op (avD d)) (avDi d i):=fun c v r=>by
  subst h
  have e:∀ {l},VRels c [.ss (dsS d.sort),.si (.ofNat d.name),.si d.to] l→VRels c [.ss (dsS d.sort),.int (.ofNat d.name),.si d.to] l:=fun q=>q.consE fun _ _ h1 q=>q.consE (G:=fun l=>VRels c [.ss (dsS d.sort),.int (.ofNat d.name),.si d.to] (_::l)) fun _ _ h2 q=>.cons h1 (.cons (wk_is _ _ h2) q)
  exact r.elim fun x (r:VRel c (.tup [.ss (dsS d.sort),.si (.ofNat d.name),.si d.to]) x) _=>r.elim fun _ _ g1 g2=>.tup g1 (e g2)
theorem ask_sp {m:MS} {l:Nat} {b:Bool} (x:Int):({m with sp:=x}:MS).ask l b={m.ask l b with sp:=x}:=by
  unfold MS.ask
  have e:akOf {m with sp:=x} l b=akOf m l b:=rfl
  rw [e]
  cases akOf m l b with
  | none=>rfl
  | some v =>
    by_cases c:v=m.ep
    · simp only [if_pos c]
    · simp only [if_neg c]
theorem wB_ask_sp (p:Pg) (mf:MS) (tx:Str) (m:MS) (l:Nat) (b:Bool) (x:Int):wB p mf tx (({m with sp:=x}:MS).ask l b)=wB p mf tx (m.ask l b):=by rw [ask_sp];rfl
noncomputable def pWc (p:Pg) (s:MS) (j lev:Nat) (v:AV):List Prop:=[pIx (ddA p) j v,s.lg.length≤sizeLine,(Int.ofNat lev).natAbs < 1000000,(Int.ofNat j).natAbs < 1000000]
noncomputable def pWe (j:Nat):List Prop:=[slen dW+slen (intS (.ofNat j))≤sizeLine,(Int.ofNat j).natAbs < 1000000]
noncomputable def NestW (H:Hooks) (p:Pg) (l C d:Nat) (later:Nat→MS→(Bool × Str) × MS):Prop:=∀ (j:Nat) (m:MS) (l':Nat),(deedF p l j m).1=some l'→l' < 3∧∀ mf tx s2,MOk (1+C) s2 →
  Spec (H.fn 819) [wV p,.sl (avL (p.prog l')),.si (.ofNat l'),.si s2.ep] (wB p mf tx (s2.ask l' p.b)) (.ok (outV (later l' s2).1)) (wB p mf tx (later l' s2).2++[.gone]) d
noncomputable def CallW (f:List AV→EM AV) (p:Pg) (l C d:Nat) (call:Nat→MS→(Bool × Str) × MS):Prop:=∀ mf tx s j,j < 6→MOk (8+C) s →
  ∃ gs:List AObj,(gs=[]∨gs=[.gone])∧Spec f [wV p,.si (.ofNat j),.si (.ofNat l)] (wB p mf tx s) (.ok (outV (call j s).1)) (wB p mf tx (call j s).2++gs) d
section
variable (P:Params)
noncomputable abbrev sc812:Scope:=(fdOf (KP P) 812).scope
theorem prog_ix (p:Pg) (l:Nat) (h:l < 3):pIx [AV.sl (avL (p.prog 0)),AV.sl (avL (p.prog 1)),AV.sl (avL (p.prog 2))] l (.sl (avL (p.prog l))):=prog_at p l h
section
variable {P} {H:Hooks} {p:Pg} {mf s:MS} {tx:Str} {j l dep:Nat} {sc:Scope}
noncomputable abbrev WR (P:Params) (H:Hooks) (p:Pg) (mf s:MS) (tx:Str) (j l dep:Nat) (sc:Scope) (r:AV) (σ:List AObj):Prop:=Runs Weak (F P H 812 [wV p,.si (.ofNat j),.si (.ofNat l)]) ⟨sc,none,dep,0⟩ [] (wB p mf tx s) (.ok r) [] σ
noncomputable abbrev WcQ (P:Params) (H:Hooks) (p:Pg) (mf s:MS) (tx:Str) (j l dep:Nat) (sc:Scope) (I:List Nat) (a b c:Bool) (gs:List AObj) (m':MS) (i:Nat):Prop :=
  viewA I [13] [] ((F P H 812 [wV p,.si (.ofNat j),.si (.ofNat l)]).run ⟨sc,none,dep,0⟩ ⟨[],wB p mf tx s,[.v (avDi (p.deed j) i),.b a,.b b,.b c,.b false],[]⟩)=some (.ok (outV (true,wOf j)),[],wB p mf tx m'++gs,[],pWe j++(sq p j 3 false::sq p j 2 c::sq p j 1 b::sq p j 0 a::pWc p s j l (avDi (p.deed j) i)))
theorem wc_put:∀ i,i < 4→WcQ P H p mf s tx j l dep sc [] true false false [] ((({s with sp:=s.sp+1}:MS).logD j l).put i) i :=
  all4 (Q:=fun i=>WcQ P H p mf s tx j l dep sc [] true false false [] ((({s with sp:=s.sp+1}:MS).logD j l).put i) i) (by kernel_rfl) (by kernel_rfl) (by kernel_rfl) (by kernel_rfl)
theorem wc_del:∀ i,i < 4→WcQ P H p mf s tx j l dep sc [] false true false [] ((({s with sp:=s.sp+1}:MS).logD j l).del i) i :=
  all4 (Q:=fun i=>WcQ P H p mf s tx j l dep sc [] false true false [] ((({s with sp:=s.sp+1}:MS).logD j l).del i) i) (by kernel_rfl) (by kernel_rfl) (by kernel_rfl) (by kernel_rfl)
theorem wc_add:∀ i,i < 4→WcQ P H p mf s tx j l dep sc [18] false false true [.gone] ((({s with sp:=s.sp+1}:MS).logD j l).add i) i :=
  all4 (Q:=fun i=>WcQ P H p mf s tx j l dep sc [18] false false true [.gone] ((({s with sp:=s.sp+1}:MS).logD j l).add i) i) (by kernel_rfl) (by kernel_rfl) (by kernel_rfl) (by kernel_rfl)
theorem wc_run {I:List Nat} {a b c:Bool} {gs:List AObj} {m':MS} {i:Nat} (e:WcQ P H p mf s tx j l dep sc I a b c gs m' i) (fin:AllP (pWe j)) (z:Sq p j a b c false) (pre:AllP (pWc p s j l (avDi (p.deed j) i))):WR P H p mf s tx j l dep sc (outV (true,wOf j)) (wB p mf tx m'++gs) :=
  Runs.ad Weak.refl I [13] [] _ _ e (allP_app fin ⟨z.h3,z.h2,z.h1,z.h0,pre⟩)
theorem wc_nest {L:Nat} {o:Bool × Str} {so:MS} (hL:(if (p.deed j).to > Int.ofNat l+1 then (p.deed j).to else Int.ofNat l+1)=.ofNat L) (hL3:L < 3) (hc1:l < 2) (hc2:(s.logD j l).lg.length < 12) (hd:dep≤400)
    (hq:Runs Weak (H.fn 819 [wV p,.sl (avL (p.prog L)),.si (.ofNat L),.si s.ep]) ⟨sc812 P,none,dep+1,0⟩ [] (wB p mf tx ((s.logD j l).ask L p.b)) (.ok (outV o)) [] (wB p mf tx so++[AObj.gone])) (ha:Runs Weak (H.fn 805 [wV p,.si (.ofNat L),.bool p.b]) ⟨sc812 P,none,dep+1,0⟩ [] (wB p mf tx (s.logD j l)) (.ok (.si s.ep)) [] (wB p mf tx ((s.logD j l).ask L p.b)))
    (z:Sq p j false false false true) (pre:AllP (pWc p s j l (avD (p.deed j)))):WR P H p mf s tx j l dep sc (outV o) (wB p mf tx so++[]) :=
  Runs.ad Weak.refl [] [] [] [.v (avD (p.deed j)),.b false,.b false,.b false,.b true,.b true,.b true,.v (.si (.ofNat L)),.v (.sl (avL (p.prog L))),.cut 18 [wV p,.si (.ofNat L),.bool p.b] (wB p mf tx (s.logD j l)) (.ok (.si s.ep)) (wB p mf tx ((s.logD j l).ask L p.b)),
      .cut 18 [wV p,.sl (avL (p.prog L)),.si (.ofNat L),.si s.ep] (wB p mf tx ((s.logD j l).ask L p.b)) (.ok (outV o)) (wB p mf tx so++[AObj.gone])]
    ((dep+1≤500)::WkL [wV p,.sl (avL (p.prog L)),.si (.ofNat L),.si s.ep] [wV p,.sl (avL (p.prog L)),.si (.ofNat L),.si s.ep]::WkS (wB p mf tx ((s.logD j l).ask L p.b)) (wB p mf tx ((s.logD j l).ask L p.b)) ::
      Runs Weak (H.fn 819 [wV p,.sl (avL (p.prog L)),.si (.ofNat L),.si s.ep]) ⟨sc812 P,none,dep+1,0⟩ [] (wB p mf tx ((s.logD j l).ask L p.b)) (.ok (outV o)) [] (wB p mf tx so++[AObj.gone]) ::
      (dep+1≤500)::WkL [wV p,.si (.ofNat L),.bool p.b] [wV p,.si (.ofNat L),.bool p.b]::WkS (wB p mf tx (s.logD j l)) (wB p mf tx (s.logD j l)) ::
      Runs Weak (H.fn 805 [wV p,.si (.ofNat L),.bool p.b]) ⟨sc812 P,none,dep+1,0⟩ [] (wB p mf tx (s.logD j l)) (.ok (.si s.ep)) [] (wB p mf tx ((s.logD j l).ask L p.b)) ::
      pIx [AV.sl (avL (p.prog 0)),AV.sl (avL (p.prog 1)),AV.sl (avL (p.prog 2))] L (.sl (avL (p.prog L)))::(∃ l',intOf (.si (.ofNat L))=some (l',if (p.deed j).to > Int.ofNat l+1 then (p.deed j).to else Int.ofNat l+1))::(decide (((s.logD j l).lg.length:Int) < 12)=true) ::
      ((s.logD j l).lg.length≤4611686018427387904)::(decide (Int.ofNat l < 2)=true)::sq p j 3 true::sq p j 2 false::sq p j 1 false::sq p j 0 false::pWc p s j l (avD (p.deed j)))
    (by kernel_rfl) ⟨leP hd rfl,.refl _,.refl _,hq,leP hd rfl,.refl _,.refl _,ha,prog_at p L hL3,⟨false,by rw [hL];rfl⟩,len_t hc2,Nat.le_trans (Nat.le_of_lt hc2) (by decide),lvl_t hc1,z.h3,z.h2,z.h1,z.h0,pre⟩
theorem wc_deep (hc1:l < 2) (hc2:¬ (s.logD j l).lg.length < 12) (hm:(s.logD j l).lg.length≤4611686018427387904) (fin:AllP (pWe j)) (z:Sq p j false false false true) (pre:AllP (pWc p s j l (avD (p.deed j)))):WR P H p mf s tx j l dep sc (outV (true,wOf j)) (wB p mf tx (({s with sp:=s.sp+1}:MS).logD j l)++[]) :=
  Runs.ad Weak.refl [] [] [] [.v (avD (p.deed j)),.b false,.b false,.b false,.b true,.b true,.b false]
    (pWe j++((decide (((s.logD j l).lg.length:Int) < 12)=false)::((s.logD j l).lg.length≤4611686018427387904)::(decide (Int.ofNat l < 2)=true)::sq p j 3 true::sq p j 2 false::sq p j 1 false::sq p j 0 false::pWc p s j l (avD (p.deed j))))
    (by kernel_rfl) (allP_app fin ⟨len_f hc2,hm,lvl_t hc1,z.h3,z.h2,z.h1,z.h0,pre⟩)
theorem wc_last (hc1:¬ l < 2) (fin:AllP (pWe j)) (z:Sq p j false false false true) (pre:AllP (pWc p s j l (avD (p.deed j)))):WR P H p mf s tx j l dep sc (outV (true,wOf j)) (wB p mf tx (({s with sp:=s.sp+1}:MS).logD j l)++[]) :=
  Runs.ad Weak.refl [] [] [] [.v (avD (p.deed j)),.b false,.b false,.b false,.b true,.b false] (pWe j++((decide (Int.ofNat l < 2)=false)::sq p j 3 true::sq p j 2 false::sq p j 1 false::sq p j 0 false::pWc p s j l (avD (p.deed j))))
    (by kernel_rfl) (allP_app fin ⟨lvl_f hc1,z.h3,z.h2,z.h1,z.h0,pre⟩)
theorem wc_none (fin:AllP (pWe j)) (z:Sq p j false false false false) (pre:AllP (pWc p s j l (avD (p.deed j)))):WR P H p mf s tx j l dep sc (outV (true,wOf j)) (wB p mf tx (({s with sp:=s.sp+1}:MS).logD j l)++[]) :=
  Runs.ad Weak.refl [] [] [] [.v (avD (p.deed j)),.b false,.b false,.b false,.b false] (pWe j++(sq p j 3 false::sq p j 2 false::sq p j 1 false::sq p j 0 false::pWc p s j l (avD (p.deed j)))) (by kernel_rfl) (allP_app fin ⟨z.h3,z.h2,z.h1,z.h0,pre⟩)
end
theorem s_wcall (H:Hooks) (p:Pg) (w:WfPg p) (hA:AskOk H p) {l C d:Nat} (hl:l < 3) (hD:d≤400) {later:Nat→MS→(Bool × Str) × MS} (hn:NestW H p l C (d+10) later):CallW (F P H 812) p l C d (callF p l later):=by
  intro mf tx s j hj hm
  have fin:AllP (pWe j):=⟨by rw [intS_len hj];decide,ltL hj rfl,trivial⟩
  have hlg:s.lg.length≤20000:=Nat.le_trans (Nat.le_add_right ..) hm.lg
  have pre:∀ {v},pIx (ddA p) j v→AllP (pWc p s j l v):=fun h=>⟨h,Nat.le_trans hlg (by decide),ltL hl rfl,ltL hj rfl,trivial⟩
  have dix:=fun i (h:(p.deed j).name=i)=>pre (pIx_ok (dd_at p hj) (ltL hj rfl) (avDi_wk h))
  have dix0:=pre (pIx_ok (dd_at p hj) (ltL hj rfl) .unop)
  have hnm:=w.nm j
  show ∃ gs:List AObj,(gs=[]∨gs=[.gone])∧Spec (F P H 812) [wV p,.si (.ofNat j),.si (.ofNat l)] (wB p mf tx s) (.ok (outV (callK j later (deedF p l j {s with sp:=s.sp+1})).1)) (wB p mf tx (callK j later (deedF p l j {s with sp:=s.sp+1})).2++gs) d
  refine deedF_el (Q:=fun r=>(∀ l',r.1=some l'→l' < 3∧∀ mf tx s2,MOk (1+C) s2→Spec (H.fn 819) [wV p,.sl (avL (p.prog l')),.si (.ofNat l'),.si s2.ep] (wB p mf tx (s2.ask l' p.b)) (.ok (outV (later l' s2).1)) (wB p mf tx (later l' s2).2++[.gone]) (d+10)) →
      ∃ gs:List AObj,(gs=[]∨gs=[.gone])∧Spec (F P H 812) [wV p,.si (.ofNat j),.si (.ofNat l)] (wB p mf tx s) (.ok (outV (callK j later r).1)) (wB p mf tx (callK j later r).2++gs) d)
    (fun hs _=>⟨[],.inl rfl,fun _ _ _=>wc_run (wc_put _ hnm) fin (sq_of w hs) (dix _ rfl)⟩) (fun hs _=>⟨[],.inl rfl,fun _ _ _=>wc_run (wc_del _ hnm) fin (sq_of w hs) (dix _ rfl)⟩) (fun hs _=>⟨[.gone],.inr rfl,fun _ _ _=>wc_run (wc_add _ hnm) fin (sq_of w hs) (dix _ rfl)⟩)
    (fun hs h1 h2 hlate=>⟨[],.inl rfl,fun sc dep hd=>?_⟩) (fun hs h _=>⟨[],.inl rfl,fun _ _ _=>(Nat.lt_or_ge l 2).elim (fun c=>wc_deep c (fun d=>h ⟨c,d⟩) (lgD_len s j l▸leP hlg rfl) fin (sq_of w hs) dix0) fun c=>wc_last (Nat.not_lt.mpr c) fin (sq_of w hs) dix0⟩)
    (fun _ hs _=>⟨[],.inl rfl,fun _ _ _=>wc_none fin (sq_none w hs) dix0⟩) (hn j {s with sp:=s.sp+1})
  obtain ⟨hL3,hpl⟩:=hlate _ rfl
  have hg:MOk (1+C) (({s with sp:=s.sp+1}:MS).logD j l):=MOk.logD ((hm.le (Nat.add_comm C 8▸Nat.add_comm 1 C▸Nat.add_le_add_left (by decide:2≤8) C)).cnt s.st _) j l
  have hq:=hpl mf tx _ hg (sc812 P) (dep+1) (Nat.add_le_add hd (by decide))
  have ew:wB p mf tx ((({s with sp:=s.sp+1}:MS).logD j l).ask (max (l+1) (p.deed j).to.toNat) p.b)=wB p mf tx ((s.logD j l).ask (max (l+1) (p.deed j).to.toNat) p.b):=wB_ask_sp p mf tx (s.logD j l) _ p.b (s.sp+1)
  rw [ew] at hq
  exact wc_nest to_max hL3 h1 h2 (Nat.le_trans hd hD) hq (hA mf tx (s.logD j l) _ p.b hL3 ((hm.le (Nat.le_add_right_of_le (by decide):2≤8+C)).logD j l) (sc812 P) (dep+1) (leP (Nat.le_trans hd hD) rfl)) (sq_of w hs) dix0
end
end T
namespace T
noncomputable def nWorld:Str:=(sOf [119,111,114,108,100])
noncomputable def nEpoch:Str:=(sOf [101,112,111,99,104])
noncomputable def nTexts:Str:=(sOf [116,101,120,116,115])
noncomputable def lsP (p:Pg) (vs:List AV) (l:Nat) (e:Int):List (Str × AV):=[(nWorld,wV p),(nItems,.sl vs),(nLevel,.si (.ofNat l)),(nEpoch,.si e),(nTexts,.mut 18)]
noncomputable def nsP:List Str:=[nWorld,nItems,nLevel,nEpoch,nTexts]
noncomputable def lsI (p:Pg) (vs:List AV) (l:Nat) (e:Int) (i:AV):List (Str × AV):=(nItem,i)::lsP p vs l e
section
variable (P:Params)
noncomputable abbrev sc819:Scope:=(fdOf (KP P) 819).scope
noncomputable def playE (H:Hooks):EM AFlow:=stsE (ev (tabs P) H 200).st (forB (frS P 819 1))
theorem st819 (n:Nat):(hk (tabs P) (n+1)).st (frS P 819 1)=askM fun k=>forS true ((ev (tabs P) (hk (tabs P) n) 200).ex (forI (frS P 819 1))) ((ev (tabs P) (hk (tabs P) n) 200).asg (forT (frS P 819 1))) (cutS (playE P (hk (tabs P) n))) k:=by kernel_rfl
noncomputable def wBt (p:Pg) (mf:MS) (tx:Str) (s:MS) (T:List AV):List AObj:=wB p mf tx s++[.list true T]
variable (H:Hooks) (p:Pg) (mf:MS) (tx:Str) (vs T:List AV) (l:Nat) (e:Int) (s:MS) (dep:Nat)
noncomputable abbrev rdP:Rd:=⟨sc819 P,none,dep,0⟩
theorem le_line {T:List AV} (h:T.length≤100000):T.length≤sizeLine:=Nat.le_trans h (by decide)
theorem p_plain (x:Str) (hT:T.length≤100000):Runs WkF (playE P H) (rdP P dep) (lsI p vs l e (avI (.plain x))) (wBt p mf tx s T) (.ok .next) (lsP p vs l e) (wBt p mf tx {s with st:=s.st+1} (T++[.ss x])) :=
  Runs.ad WkF.refl [] [] nsP [] [T.length≤sizeLine] (by kernel_rfl) ⟨le_line hT,trivial⟩
theorem p_deed0t (j:Nat) (x:Str) (s':MS) {dC:Nat} (hC:dC≤450) (hd:dep≤dC) (hT:T.length≤100000) (hq:Spec (H.fn 812) [wV p,.si (.ofNat j),.si (.ofNat l)] (wB p mf tx {s with st:=s.st+4}) (.ok (outV (true,x))) (wB p mf tx s'++[]) dC):Runs WkF (playE P H) (rdP P dep) (lsI p vs l e (avI (.deed j))) (wBt p mf tx s T) (.ok .next) (lsP p vs l e) (wBt p mf tx s' (T++[.ss x])) :=
  Runs.ad WkF.refl [] [] nsP [.cut 18 [wV p,.si (.ofNat j),.si (.ofNat l)] (wB p mf tx {s with st:=s.st+4}) (.ok (outV (true,x))) (wB p mf tx s'++[])] ((T.length≤sizeLine)::(dep≤500)::WkL [wV p,.si (.ofNat j),.si (.ofNat l)] [wV p,.si (.ofNat j),.si (.ofNat l)]::WkS (wB p mf tx {s with st:=s.st+4}) (wB p mf tx {s with st:=s.st+4})::Runs Weak (H.fn 812 [wV p,.si (.ofNat j),.si (.ofNat l)]) (rdP P dep) [] (wB p mf tx {s with st:=s.st+4}) (.ok (outV (true,x))) [] (wB p mf tx s'++[])::[]) (by kernel_rfl) ⟨le_line hT,by omega,.refl _,.refl _,hq _ _ (by omega),trivial⟩
theorem p_deed0f (j:Nat) (x:Str) (s':MS) {dC:Nat} (hC:dC≤450) (hd:dep≤dC) (hq:Spec (H.fn 812) [wV p,.si (.ofNat j),.si (.ofNat l)] (wB p mf tx {s with st:=s.st+4}) (.ok (outV (false,x))) (wB p mf tx s'++[]) dC):Runs WkF (playE P H) (rdP P dep) (lsI p vs l e (avI (.deed j))) (wBt p mf tx s T) (.ok (.ret (outV (false,x)))) (lsP p vs l e) (wB p mf tx s'++[.gone]) :=
  Runs.ad WkF.refl [18] [] nsP [.cut 18 [wV p,.si (.ofNat j),.si (.ofNat l)] (wB p mf tx {s with st:=s.st+4}) (.ok (outV (false,x))) (wB p mf tx s'++[])] ((dep≤500)::WkL [wV p,.si (.ofNat j),.si (.ofNat l)] [wV p,.si (.ofNat j),.si (.ofNat l)]::WkS (wB p mf tx {s with st:=s.st+4}) (wB p mf tx {s with st:=s.st+4})::Runs Weak (H.fn 812 [wV p,.si (.ofNat j),.si (.ofNat l)]) (rdP P dep) [] (wB p mf tx {s with st:=s.st+4}) (.ok (outV (false,x))) [] (wB p mf tx s'++[])::[]) (by kernel_rfl) ⟨by omega,.refl _,.refl _,hq _ _ (by omega),trivial⟩
theorem p_deed1t (j:Nat) (x:Str) (s':MS) {dC:Nat} (hC:dC≤450) (hd:dep≤dC) (hT:T.length≤100000) (hq:Spec (H.fn 812) [wV p,.si (.ofNat j),.si (.ofNat l)] (wB p mf tx {s with st:=s.st+4}) (.ok (outV (true,x))) (wB p mf tx s'++[AObj.gone]) dC):Runs WkF (playE P H) (rdP P dep) (lsI p vs l e (avI (.deed j))) (wBt p mf tx s T) (.ok .next) (lsP p vs l e) (wBt p mf tx s' (T++[.ss x])) :=
  Runs.ad WkF.refl [] [] nsP [.cut 18 [wV p,.si (.ofNat j),.si (.ofNat l)] (wB p mf tx {s with st:=s.st+4}) (.ok (outV (true,x))) (wB p mf tx s'++[AObj.gone])] ((T.length≤sizeLine)::(dep≤500)::WkL [wV p,.si (.ofNat j),.si (.ofNat l)] [wV p,.si (.ofNat j),.si (.ofNat l)]::WkS (wB p mf tx {s with st:=s.st+4}) (wB p mf tx {s with st:=s.st+4})::Runs Weak (H.fn 812 [wV p,.si (.ofNat j),.si (.ofNat l)]) (rdP P dep) [] (wB p mf tx {s with st:=s.st+4}) (.ok (outV (true,x))) [] (wB p mf tx s'++[AObj.gone])::[]) (by kernel_rfl) ⟨le_line hT,by omega,.refl _,.refl _,hq _ _ (by omega),trivial⟩
theorem p_deed1f (j:Nat) (x:Str) (s':MS) {dC:Nat} (hC:dC≤450) (hd:dep≤dC) (hq:Spec (H.fn 812) [wV p,.si (.ofNat j),.si (.ofNat l)] (wB p mf tx {s with st:=s.st+4}) (.ok (outV (false,x))) (wB p mf tx s'++[AObj.gone]) dC):Runs WkF (playE P H) (rdP P dep) (lsI p vs l e (avI (.deed j))) (wBt p mf tx s T) (.ok (.ret (outV (false,x)))) (lsP p vs l e) (wB p mf tx s'++[.gone]) :=
  Runs.ad WkF.refl [18] [] nsP [.cut 18 [wV p,.si (.ofNat j),.si (.ofNat l)] (wB p mf tx {s with st:=s.st+4}) (.ok (outV (false,x))) (wB p mf tx s'++[AObj.gone])] ((dep≤500)::WkL [wV p,.si (.ofNat j),.si (.ofNat l)] [wV p,.si (.ofNat j),.si (.ofNat l)]::WkS (wB p mf tx {s with st:=s.st+4}) (wB p mf tx {s with st:=s.st+4})::Runs Weak (H.fn 812 [wV p,.si (.ofNat j),.si (.ofNat l)]) (rdP P dep) [] (wB p mf tx {s with st:=s.st+4}) (.ok (outV (false,x))) [] (wB p mf tx s'++[AObj.gone])::[]) (by kernel_rfl) ⟨by omega,.refl _,.refl _,hq _ _ (by omega),trivial⟩
theorem p_runt (t:Bool) (k:Nat) (its:Its) (he:s.ep ≠ e) (x:Str) (s':MS) {dC:Nat} (hC:dC≤450) (hd:dep≤dC) (hT:T.length≤100000) (hq:Spec (H.fn 798) [wV p,.ss (nmP t k)] (wB p mf tx {s with st:=s.st+1}) (.ok (outV (true,x))) (wB p mf tx s'++[]) dC):Runs WkF (playE P H) (rdP P dep) (lsI p vs l e (avI (.piece t k its))) (wBt p mf tx s T) (.ok .next) (lsP p vs l e) (wBt p mf tx s' (T++[.ss x])) :=
  Runs.ad WkF.refl [] [] nsP [.b true,.cut 18 [wV p,.ss (nmP t k)] (wB p mf tx {s with st:=s.st+1}) (.ok (outV (true,x))) (wB p mf tx s'++[])] ((T.length≤sizeLine)::(dep≤500)::WkL [wV p,.ss (nmP t k)] [wV p,.ss (nmP t k)]::WkS (wB p mf tx {s with st:=s.st+1}) (wB p mf tx {s with st:=s.st+1})::Runs Weak (H.fn 798 [wV p,.ss (nmP t k)]) (rdP P dep) [] (wB p mf tx {s with st:=s.st+1}) (.ok (outV (true,x))) [] (wB p mf tx s'++[])::[(s.ep != e)=true]) (by kernel_rfl) ⟨le_line hT,by omega,.refl _,.refl _,hq _ _ (by omega),by simpa using he,trivial⟩
theorem p_playt (t:Bool) (k:Nat) (its:Its) (he:s.ep=e) (x:Str) (s':MS) {dC:Nat} (hC:dC≤450) (hd:dep≤dC) (hT:T.length≤100000) (hq:Spec (H.fn 819) [wV p,.sl (avL its),.si (.ofNat l),.si e] (wB p mf tx {s with st:=s.st+1}) (.ok (outV (true,x))) (wB p mf tx s'++[AObj.gone]) dC):Runs WkF (playE P H) (rdP P dep) (lsI p vs l e (avI (.piece t k its))) (wBt p mf tx s T) (.ok .next) (lsP p vs l e) (wBt p mf tx s' (T++[.ss x])) :=
  Runs.ad WkF.refl [] [] nsP [.b false,.cut 18 [wV p,.sl (avL its),.si (.ofNat l),.si e] (wB p mf tx {s with st:=s.st+1}) (.ok (outV (true,x))) (wB p mf tx s'++[AObj.gone])] ((T.length≤sizeLine)::(dep≤500)::WkL [wV p,.sl (avL its),.si (.ofNat l),.si e] [wV p,.sl (avL its),.si (.ofNat l),.si e]::WkS (wB p mf tx {s with st:=s.st+1}) (wB p mf tx {s with st:=s.st+1})::Runs Weak (H.fn 819 [wV p,.sl (avL its),.si (.ofNat l),.si e]) (rdP P dep) [] (wB p mf tx {s with st:=s.st+1}) (.ok (outV (true,x))) [] (wB p mf tx s'++[AObj.gone])::[(s.ep != e)=false]) (by kernel_rfl) ⟨le_line hT,by omega,.refl _,.refl _,hq _ _ (by omega),by rw [he];simp,trivial⟩
theorem p_runf (t:Bool) (k:Nat) (its:Its) (he:s.ep ≠ e) (x:Str) (s':MS) {dC:Nat} (hC:dC≤450) (hd:dep≤dC) (hq:Spec (H.fn 798) [wV p,.ss (nmP t k)] (wB p mf tx {s with st:=s.st+1}) (.ok (outV (false,x))) (wB p mf tx s'++[]) dC):Runs WkF (playE P H) (rdP P dep) (lsI p vs l e (avI (.piece t k its))) (wBt p mf tx s T) (.ok (.ret (outV (false,x)))) (lsP p vs l e) (wB p mf tx s'++[.gone]) :=
  Runs.ad WkF.refl [18] [] nsP [.b true,.cut 18 [wV p,.ss (nmP t k)] (wB p mf tx {s with st:=s.st+1}) (.ok (outV (false,x))) (wB p mf tx s'++[])] ((dep≤500)::WkL [wV p,.ss (nmP t k)] [wV p,.ss (nmP t k)]::WkS (wB p mf tx {s with st:=s.st+1}) (wB p mf tx {s with st:=s.st+1})::Runs Weak (H.fn 798 [wV p,.ss (nmP t k)]) (rdP P dep) [] (wB p mf tx {s with st:=s.st+1}) (.ok (outV (false,x))) [] (wB p mf tx s'++[])::[(s.ep != e)=true]) (by kernel_rfl) ⟨by omega,.refl _,.refl _,hq _ _ (by omega),by simpa using he,trivial⟩
theorem p_playf (t:Bool) (k:Nat) (its:Its) (he:s.ep=e) (x:Str) (s':MS) {dC:Nat} (hC:dC≤450) (hd:dep≤dC) (hq:Spec (H.fn 819) [wV p,.sl (avL its),.si (.ofNat l),.si e] (wB p mf tx {s with st:=s.st+1}) (.ok (outV (false,x))) (wB p mf tx s'++[AObj.gone]) dC):Runs WkF (playE P H) (rdP P dep) (lsI p vs l e (avI (.piece t k its))) (wBt p mf tx s T) (.ok (.ret (outV (false,x)))) (lsP p vs l e) (wB p mf tx s'++[.gone]) :=
  Runs.ad WkF.refl [18] [] nsP [.b false,.cut 18 [wV p,.sl (avL its),.si (.ofNat l),.si e] (wB p mf tx {s with st:=s.st+1}) (.ok (outV (false,x))) (wB p mf tx s'++[AObj.gone])] ((dep≤500)::WkL [wV p,.sl (avL its),.si (.ofNat l),.si e] [wV p,.sl (avL its),.si (.ofNat l),.si e]::WkS (wB p mf tx {s with st:=s.st+1}) (wB p mf tx {s with st:=s.st+1})::Runs Weak (H.fn 819 [wV p,.sl (avL its),.si (.ofNat l),.si e]) (rdP P dep) [] (wB p mf tx {s with st:=s.st+1}) (.ok (outV (false,x))) [] (wB p mf tx s'++[AObj.gone])::[(s.ep != e)=false]) (by kernel_rfl) ⟨by omega,.refl _,.refl _,hq _ _ (by omega),by rw [he];simp,trivial⟩
end
end T
namespace T
noncomputable def PlayW (f:List AV→EM AV) (p:Pg) (l C D d:Nat) (call:Nat→MS→(Bool × Str) × MS):Prop:=∀ mf tx its e s,dpL its≤D→WfL its→MOk (wL C its) s →
  Spec f [wV p,.sl (avL its),.si (.ofNat l),.si e] (wB p mf tx s) (.ok (outV (playL p call e its [] s).1)) (wB p mf tx (playL p call e its [] s).2++[.gone]) d
theorem Spec.le {f:List AV→EM AV} {as:List AV} {σ σ':List AObj} {r:Res AV} {a b:Nat} (h:Spec f as σ r σ' b) (l:a≤b):Spec f as σ r σ' a:=fun sc dep hd=>h sc dep (Nat.le_trans hd l)
noncomputable def rsI (b:Bool) (x:Str):AFlow:=match b with
  | true=>.next
  | false=>.ret (outV (false,x))
noncomputable def stI (p:Pg) (mf:MS) (tx:Str) (T:List AV) (b:Bool) (x:Str) (s:MS):List AObj:=match b with
  | true=>wBt p mf tx s (T++[.ss x])
  | false=>wB p mf tx s++[.gone]
theorem le_wL (C:Nat) (r:Its):r.len≤wL C r:=by
  induction r using Its.rec (motive_1:=fun i=>1≤wI C i) with
  | plain x=>exact (by decide:1≤3)
  | deed j=>exact Nat.le_add_right_of_le (by decide:1≤8)
  | piece t k its ih=>exact Nat.le_add_right_of_le (by decide:1≤8)
  | nil=>exact Nat.le_refl _
  | cons i r h1 h2=>exact Nat.le_trans (Nat.add_le_add h2 h1) (Nat.le_of_eq (Nat.add_comm (wL C r) (wI C i)))
section
variable (P:Params)
noncomputable abbrev PI (P:Params) (H:Hooks) (p:Pg) (l:Nat) (mf:MS) (tx:Str) (vs T:List AV) (e:Int) (s:MS) (dep:Nat) (i:It) (o:(Bool × Str) × MS):Prop:=Runs WkF (playE P H) (rdP P dep) (lsI p vs l e (avI i)) (wBt p mf tx s T) (.ok (rsI o.1.1 o.1.2)) (lsP p vs l e) (stI p mf tx T o.1.1 o.1.2 o.2)
theorem p_item (H:Hooks) (p:Pg) {l C D dd:Nat} (hD:dd≤450) {call:Nat→MS→(Bool × Str) × MS} (hC:CallW (H.fn 812) p l C dd call) (hR:RunOk H p) (hP:∀ d,D=d+1→PlayW (H.fn 819) p l C d dd call) (mf:MS) (tx:Str) (vs T:List AV) (e:Int) (s:MS) (dep:Nat) (hd:dep≤dd) (hT:T.length≤100000):∀ i,dpI i≤D→WfI i→MOk (wI C i) s→PI P H p l mf tx vs T e s dep i (playI p call e i s)
  | .plain y,_,_,_=>p_plain P H p mf tx vs T l e s dep y hT
  | .deed j,_,w,hm=>by
    obtain ⟨gs,hg,q⟩:=hC mf tx {s with st:=s.st+4} j w (MOk.cnt hm (s.st+4) s.sp)
    show PI P H p l mf tx vs T e s dep (.deed j) (call j {s with st:=s.st+4})
    generalize call j {s with st:=s.st+4}=o at q ⊢
    obtain ⟨⟨b,x⟩,s'⟩:=o
    rcases hg with rfl | rfl<;>cases b
    · exact p_deed0f P H p mf tx vs T l e s dep j x s' hD hd q
    · exact p_deed0t P H p mf tx vs T l e s dep j x s' hD hd hT q
    · exact p_deed1f P H p mf tx vs T l e s dep j x s' hD hd q
    · exact p_deed1t P H p mf tx vs T l e s dep j x s' hD hd hT q
  | .piece t k its,h1,w,hm=>by
    have hm:MOk (8+wL C its) s:=hm
    show PI P H p l mf tx vs T e s dep (.piece t k its) (if s.ep=e then _ else _)
    by_cases he:s.ep=e
    · rw [if_pos he]
      cases D with
      | zero=>exact absurd h1 (Nat.not_succ_le_zero _)
      | succ d =>
        have q:=hP d rfl mf tx its e {s with st:=s.st+1} (Nat.le_of_succ_le_succ h1) w.2 ((hm.le (Nat.le_add_left ..)).cnt (s.st+1) s.sp)
        generalize playL p call e its [] {s with st:=s.st+1}=o at q ⊢
        obtain ⟨⟨b,x⟩,s'⟩:=o
        cases b
        · exact p_playf P H p mf tx vs T l e s dep t k its he x s' hD hd q
        · exact p_playt P H p mf tx vs T l e s dep t k its he x s' hD hd hT q
    · rw [if_neg he]
      have q:=(hR mf tx {s with st:=s.st+1} t k w.1 ((hm.le (Nat.le_add_right_of_le (by decide))).cnt (s.st+1) s.sp)).le hD
      generalize srcF p t k {s with st:=s.st+1}=o at q ⊢
      obtain ⟨⟨b,x⟩,s'⟩:=o
      rw [← List.append_nil (wB p mf tx (_,s').2)] at q
      cases b
      · exact p_runf P H p mf tx vs T l e s dep t k its he x s' hD hd q
      · exact p_runt P H p mf tx vs T l e s dep t k its he x s' hD hd hT q
noncomputable abbrev FpW (P:Params) (n:Nat) (p:Pg) (l:Nat) (mf:MS) (tx:Str) (e:Int) (dep:Nat) (all:Its) (k:Nat) (s:MS) (acc:List Str) (r:AFlow) (σ:List AObj):Prop:=Fp ((ev (tabs P) (hk (tabs P) n) 200).asg (forT (frS P 819 1))) (playE P (hk (tabs P) n)) (rdP P dep) (avL all) k (lsP p (avL all) l e) (wBt p mf tx s (acc.map .ss)) (.ok r) (lsP p (avL all) l e) σ
noncomputable def WOut (P:Params) (n:Nat) (p:Pg) (l:Nat) (mf:MS) (tx:Str) (e:Int) (dep:Nat) (all:Its) (k:Nat) (s:MS) (acc:List Str):(Bool × Str) × MS→Prop
  | ((true,x),s')=>∃ acc' s1,x=joinE acc'∧s'={s1 with st:=s1.st+1}∧FpW P n p l mf tx e dep all k s acc .next (wBt p mf tx s1 (acc'.map .ss))
  | ((false,x),s')=>FpW P n p l mf tx e dep all k s acc (.ret (outV (false,x))) (wB p mf tx s'++[.gone])
theorem w_loop (n:Nat) (p:Pg) {l C D dd:Nat} (hD:dd≤450) {call:Nat→MS→(Bool × Str) × MS} (ho:CallOk C call) (hC:CallW ((hk (tabs P) n).fn 812) p l C dd call) (hR:RunOk (hk (tabs P) n) p) (hP:∀ d,D=d+1→PlayW ((hk (tabs P) n).fn 819) p l C d dd call) (mf:MS) (tx:Str) (e:Int) (dep:Nat) (hd:dep≤dd) (all:Its):∀ (r:Its) (acc:List Str) (k:Nat) (s:MS),(∃ pre:List AV,avL all=pre++avL r∧pre.length=k)→dpL r≤D→WfL r→MOk (wL C r) s→acc.length+wL C r≤100000 →
    WOut P n p l mf tx e dep all k s acc (playL p call e r acc s)
  | .nil,acc,k,s,⟨pre,ep,hl⟩,_,_,_,h3=>⟨acc,s,rfl,rfl,.done (by rw [ep,avL,List.append_nil];exact List.getElem?_eq_none (Nat.le_of_eq hl))⟩
  | .cons i r,acc,k,s,hpre,h1,w,hm,h3=>by
    have hix:=avL_app k all i r hpre
    have hnext:∃ pre:List AV,avL all=pre++avL r∧pre.length=k+1:=let ⟨pre,e,h⟩:=hpre;⟨pre++[.op (avI i)],e.trans (List.append_assoc pre [_] _).symm,by rw [List.length_append,h];rfl⟩
    have hm:MOk (wL C r+wI C i) s:=hm.le (Nat.le_of_eq (Nat.add_comm ..))
    have q0:=playI_ok (p:=p) ho e i (wL C r) s w.1 hm
    have hit:=p_item P (hk (tabs P) n) p hD hC hR hP mf tx (avL all) (acc.map .ss) e s dep hd (by rw [List.length_map];exact leA h3 rfl) i (Nat.le_trans (Nat.le_max_left ..) h1) w.1 (hm.le (Nat.le_add_left ..))
    show WOut P n p l mf tx e dep all k s acc (match playI p call e i s with | ((true,x),s')=>playL p call e r (acc++[x]) s' | ((false,x),s')=>((false,x),s'))
    generalize playI p call e i s=out at q0 hit ⊢
    obtain ⟨⟨b0,x0⟩,s0⟩:=out
    cases b0 with
    | false=>exact Fp.out (ls1:=(nItem,.op (avI i))::lsP p (avL all) l e) hix (fun orc obl=>by kernel_rfl) (.head .unop) hit
    | true =>
      have ih:=w_loop n p hD ho hC hR hP mf tx e dep hd all r (acc++[x0]) (k+1) s0 hnext (Nat.le_trans (Nat.le_max_right ..) h1) w.2 q0.1 (by rw [List.length_append];exact len_next h3 (le_wL C (.cons i .nil)))
      have step:∀ {f:AFlow} {σ:List AObj},FpW P n p l mf tx e dep all (k+1) s0 (acc++[x0]) f σ→FpW P n p l mf tx e dep all k s acc f σ:=fun hf=>by
        unfold FpW at hf
        rw [List.map_append] at hf
        exact Fp.step (ls1:=(nItem,.op (avI i))::lsP p (avL all) l e) hix (fun orc obl=>by kernel_rfl) (.head .unop) hit hf
      show WOut P n p l mf tx e dep all k s acc (playL p call e r (acc++[x0]) s0)
      generalize playL p call e r (acc++[x0]) s0=o at ih ⊢
      obtain ⟨⟨b,x⟩,s'⟩:=o
      cases b with
      | true=>exact let ⟨acc',s1,e1,e2,hf⟩:=ih;⟨acc',s1,e1,e2,step hf⟩
      | false=>exact step ih
theorem play_t {n:Nat} {p:Pg} {l dep:Nat} {mf s s1:MS} {tx x:Str} {its:Its} {e:Int} {acc:List Str} {sc:Scope} (hd:dep+1≤500) (ht:(acc.map slen).sum≤16000000) (hx:x=joinE acc) (hws:WkS (wB p mf tx s++[.list false []]) (wBt p mf tx s [])) (hle:(avL its).length≤4611686018427387904)
    (hr:Runs WkF ((hk (tabs P) (n+1)).st (frS P 819 1)) (rdP P (dep+1)) (lsP p (avL its) l e) (wBt p mf tx s []) (.ok .next) (lsP p (avL its) l e) (wBt p mf tx s1 (acc.map .ss))) :
    Runs Weak (F P (hk (tabs P) (n+1)) 819 [wV p,.sl (avL its),.si (.ofNat l),.si e]) ⟨sc,none,dep,0⟩ [] (wB p mf tx s) (.ok (outV (true,x))) [] (wB p mf tx {s1 with st:=s1.st+1}++[.gone]) :=
  Runs.msk Weak.refl [18] [] [.stm (lsP p (avL its) l e) (wBt p mf tx s []) (.ok .next) (lsP p (avL its) l e) (wBt p mf tx s1 (acc.map .ss)),.v (.ss x)]
    [∃ ys,strsOf (acc.map AV.ss)=some ys∧(ys.map slen).sum≤16000000∧AV.ss x=.ss (joinE ys),dep+1≤500,WkLs [(nTexts,.mut 18),(nEpoch,.si e),(nLevel,.si (.ofNat l)),(nItems,.sl (avL its)),(nWorld,wV p)] (lsP p (avL its) l e),WkS (wB p mf tx s++[.list false []]) (wBt p mf tx s []),
      Runs WkF ((hk (tabs P) (n+1)).st (frS P 819 1)) (rdP P (dep+1)) (lsP p (avL its) l e) (wBt p mf tx s []) (.ok .next) (lsP p (avL its) l e) (wBt p mf tx s1 (acc.map .ss))]
    (by kernel_rfl) rfl ⟨⟨acc,strs_map acc,ht,congrArg AV.ss hx⟩,hd,WkLs.pick _ nsP,hws,hr,trivial⟩
theorem play_f {n:Nat} {p:Pg} {l dep:Nat} {mf s s':MS} {tx x:Str} {its:Its} {e:Int} {sc:Scope} (hd:dep+1≤500) (hws:WkS (wB p mf tx s++[.list false []]) (wBt p mf tx s [])) (hle:(avL its).length≤4611686018427387904)
    (hr:Runs WkF ((hk (tabs P) (n+1)).st (frS P 819 1)) (rdP P (dep+1)) (lsP p (avL its) l e) (wBt p mf tx s []) (.ok (.ret (outV (false,x)))) (lsP p (avL its) l e) (wB p mf tx s'++[.gone])) :
    Runs Weak (F P (hk (tabs P) (n+1)) 819 [wV p,.sl (avL its),.si (.ofNat l),.si e]) ⟨sc,none,dep,0⟩ [] (wB p mf tx s) (.ok (outV (false,x))) [] (wB p mf tx s'++[.gone]) :=
  Runs.msk Weak.refl [18] [] [.stm (lsP p (avL its) l e) (wBt p mf tx s []) (.ok (.ret (outV (false,x)))) (lsP p (avL its) l e) (wB p mf tx s'++[AObj.gone])]
    [dep+1≤500,WkLs [(nTexts,.mut 18),(nEpoch,.si e),(nLevel,.si (.ofNat l)),(nItems,.sl (avL its)),(nWorld,wV p)] (lsP p (avL its) l e),WkS (wB p mf tx s++[.list false []]) (wBt p mf tx s []),
      Runs WkF ((hk (tabs P) (n+1)).st (frS P 819 1)) (rdP P (dep+1)) (lsP p (avL its) l e) (wBt p mf tx s []) (.ok (.ret (outV (false,x)))) (lsP p (avL its) l e) (wB p mf tx s'++[AObj.gone])]
    (by kernel_rfl) rfl ⟨hd,WkLs.pick _ nsP,hws,hr,trivial⟩
theorem play_runs {n:Nat} {p:Pg} {l dep:Nat} {mf s:MS} {tx:Str} {its:Its} {e:Int} {f:AFlow} {σ:List AObj} (hd:dep+1≤500) (hf:FpW P n p l mf tx e (dep+1) its 0 s [] f σ) :
    Runs WkF ((hk (tabs P) (n+1)).st (frS P 819 1)) (rdP P (dep+1)) (lsP p (avL its) l e) (wBt p mf tx s []) (.ok f) (lsP p (avL its) l e) σ :=
  st819 P n▸Fp.runs (mi:=(ev (tabs P) (hk (tabs P) n) 200).ex (forI (frS P 819 1))) (.inl rfl) hd rfl (fun orc obl=>by kernel_rfl) hf
theorem s_play (n:Nat) (p:Pg) {l C D dd:Nat} (hD:dd≤440) {call:Nat→MS→(Bool × Str) × MS} (ho:CallOk C call) (hC:CallW ((hk (tabs P) n).fn 812) p l C (dd+10) call) (hR:RunOk (hk (tabs P) n) p) (hP:∀ d,D=d+1→PlayW ((hk (tabs P) n).fn 819) p l C d (dd+10) call):PlayW ((hk (tabs P) (n+2)).fn 819) p l C D dd call:=by
  intro mf tx its e s h1 w hm sc dep hd
  show Runs Weak (F P (hk (tabs P) (n+1)) 819 _) _ _ _ _ _ _
  have hw:wL C its≤20000:=Nat.le_trans (Nat.le_add_left _ _) hm.cm
  have hg:=gr0 (playL_ok (p:=p) ho e its 0 [] s w (hm.le (Nat.le_of_eq (Nat.zero_add _)))).2
  have q:=w_loop P n p (Nat.add_le_add_right hD 10) ho hC hR hP mf tx e (dep+1) (Nat.add_le_add hd (by decide)) its its [] 0 s ⟨[],rfl,rfl⟩ h1 w hm (by show 0+wL C its≤_;rw [Nat.zero_add];exact leL hw rfl)
  have h5:dep+1≤500:=leP (Nat.le_trans hd hD) rfl
  have hle:(avL its).length≤4611686018427387904:=by rw [avL_len];exact leL (Nat.le_trans (le_wL C its) hw) rfl
  have hws:WkS (wB p mf tx s++[.list false []]) (wBt p mf tx s []):=.snoc (.refl _) .symN
  generalize playL p call e its [] s=out at hg q ⊢
  obtain ⟨⟨b,x⟩,s'⟩:=out
  cases b with
  | true =>
    obtain ⟨acc,s1,e1,e2,hf⟩:=q
    exact e2▸play_t P h5 (slen_join acc▸e1▸leL (Nat.le_trans hg hw) rfl) e1 hws hle (play_runs P h5 hf)
  | false=>exact play_f P h5 hws hle (play_runs P h5 q)
theorem CallW.le {f:List AV→EM AV} {p:Pg} {l C a b:Nat} {call:Nat→MS→(Bool × Str) × MS} (q:CallW f p l C b call) (h:a≤b):CallW f p l C a call:=fun mf tx s j hj hm=>let ⟨gs,hg,z⟩:=q mf tx s j hj hm;⟨gs,hg,z.le h⟩
theorem play_all (p:Pg) (N:Nat) {l C dd:Nat} {call:Nat→MS→(Bool × Str) × MS} (ho:CallOk C call) (hR:∀ n,RunOk (hk (tabs P) (n+1)) p) (hd:dd≤420) (h0:CallW ((hk (tabs P) (N+1)).fn 812) p l C (dd+30) call) (h1:CallW ((hk (tabs P) (N+3)).fn 812) p l C (dd+30) call) (h2:CallW ((hk (tabs P) (N+5)).fn 812) p l C (dd+30) call):PlayW ((hk (tabs P) (N+7)).fn 819) p l C 2 dd call :=
  have p0:PlayW ((hk (tabs P) (N+3)).fn 819) p l C 0 (dd+20) call:=s_play P (N+1) p (Nat.add_le_add_right hd 20) ho h0 (hR N) fun d h=>absurd h.symm (Nat.succ_ne_zero d)
  have p1:PlayW ((hk (tabs P) (N+5)).fn 819) p l C 1 (dd+10) call:=s_play P (N+3) p (leP hd rfl) ho (h1.le (Nat.add_le_add_left (by decide:20≤30) dd)) (hR (N+2)) fun d h=>Nat.succ.inj h▸p0
  s_play P (N+5) p (leL hd rfl) ho (h2.le (Nat.add_le_add_left (by decide:10≤30) dd)) (hR (N+4)) fun d h=>Nat.succ.inj h▸p1
structure WorldOk (H:Hooks) (p:Pg):Prop where
  ask:AskOk H p
  run:RunOk H p
theorem world_ok (p:Pg) (n:Nat):WorldOk (hk (tabs P) (n+1)) p:=⟨fun mf tx s l b hl hm=>s_ask P _ p mf tx s l b hl hm,fun mf tx s t k hk hm=>s_wrun P _ p mf tx s t k hk hm⟩
theorem play0 (p:Pg) (w:Wf2 p) (hdp:∀ l,l < 3→dpL (p.prog l)≤2) (n:Nat):PlayW ((hk (tabs P) (n+22)).fn 819) p 0 (max (b1 p) (b2 p)) 2 260 (call0 p):=by
  have hR:∀ n,RunOk (hk (tabs P) (n+1)) p:=fun n=>(world_ok P p n).run
  have c2:∀ n,CallW ((hk (tabs P) (n+2)).fn 812) p 2 0 400 (call2 p):=fun n=>s_wcall P _ p w.toWfPg (world_ok P p n).ask (by decide) (by decide) fun j m l' h=>by rw [deed2_none] at h;exact no_some h
  have p2:∀ n,PlayW ((hk (tabs P) (n+8)).fn 819) p 2 0 2 370 (call2 p):=fun n=>play_all P p (n+1) ok2 hR (by decide) (c2 n) (c2 (n+2)) (c2 (n+4))
  have n2:∀ {n C d:Nat} {s2:MS} (mf:MS) (tx:Str),wL 0 (p.prog 2)≤C→MOk (1+C) s2→d≤370→Spec ((hk (tabs P) (n+8)).fn 819) [wV p,.sl (avL (p.prog 2)),.si (.ofNat 2),.si s2.ep] (wB p mf tx (s2.ask 2 p.b)) (.ok (outV (playL p (call2 p) s2.ep (p.prog 2) [] (s2.ask 2 p.b)).1)) (wB p mf tx (playL p (call2 p) s2.ep (p.prog 2) [] (s2.ask 2 p.b)).2++[.gone]) d :=
    fun mf tx h hm hd=>(p2 _ mf tx (p.prog 2) _ _ (hdp 2 (by decide)) (w.wf 2 (by decide)) ((mok_up hm h).ask 2 p.b (by decide))).le hd
  have c1:∀ n,CallW ((hk (tabs P) (n+9)).fn 812) p 1 (b2 p) 350 (call1 p):=fun n=>s_wcall P _ p w.toWfPg (world_ok P p (n+7)).ask (by decide) (by decide) fun j s l' h=>by
    obtain ⟨h1,h2⟩:=deed_later w.toWfPg h
    cases Nat.le_antisymm (Nat.le_of_lt_succ h2) h1
    exact ⟨h2,fun mf tx s2 hm=>n2 (n:=n) mf tx (Nat.le_refl _) hm (by decide)⟩
  have p1:∀ n,PlayW ((hk (tabs P) (n+15)).fn 819) p 1 (b2 p) 2 320 (call1 p):=fun n=>play_all P p (n+8) (ok1 w.toWfPg) hR (by decide) (c1 n) (c1 (n+2)) (c1 (n+4))
  have c0:∀ n,CallW ((hk (tabs P) (n+16)).fn 812) p 0 (max (b1 p) (b2 p)) 300 (call0 p):=fun n=>s_wcall P _ p w.toWfPg (world_ok P p (n+14)).ask (by decide) (by decide) fun j s l' h=>by
    obtain ⟨h1,h2⟩:=deed_later w.toWfPg h
    rcases Nat.lt_or_eq_of_le h1 with q | q
    · cases Nat.le_antisymm (Nat.le_of_lt_succ h2) q
      exact ⟨h2,fun mf tx s2 hm=>n2 (n:=n+7) mf tx (Nat.le_max_right ..) hm (by decide)⟩
    · cases q
      exact ⟨h2,fun mf tx s2 hm=>(p1 n mf tx (p.prog 1) s2.ep (s2.ask 1 p.b) (hdp 1 (by decide)) (w.wf 1 (by decide)) ((mok_up hm (Nat.le_max_left ..)).ask 1 p.b (by decide))).le (by decide)⟩
  exact fun mf tx its e s h1 h2 h3=>(play_all P p (n+15) (dd:=270) (ok0 w.toWfPg) hR (by decide) (c0 n) (c0 (n+2)) (c0 (n+4)) mf tx its e s h1 h2 h3).le (by decide)
end
end T
namespace T
noncomputable def mapF (f:AV→AV):List AV→List AV
  | []=>[]
  | a::r=>f a::mapF f r
noncomputable def sfV:Nat→AV→AV
  | 0,v=>v
  | n+1,v=>match v with
    | .str s=>.ss s
    | .int i=>.si i
    | .tup (h::t)=>.tup (h::mapF (sfV n) t)
    | .fl l=>(match allF (clF 12) (mapF (sfV n) l) with
      | true=>.sl (mapF .op (mapF (sfV n) l))
      | false=>.fl l)
    | v=>v
theorem WkL.mapF {f:AV→AV} (h:∀ v,Weak v (f v)):∀ l,WkL l (T.mapF f l)
  | []=>.nil
  | a::r=>.cons (h a) (WkL.mapF h r)
theorem Weak.tup {a b:List AV} (h:WkL a b):Weak (.tup a) (.tup b):=fun c v r=>by cases r with | tup g1 g2=>exact .tup g1 (h.rel g2)
theorem Weak.fls {a b:List AV} (h:WkL a b) (k:∀ v∈b,Cl v):Weak (.fl a) (.sl b):=fun c v r=>by cases r with | fl g1 g2=>exact .sl g1 (h.rel g2) k
theorem WkO.list {x:Bool} {a b:List AV} (h:WkL a b) (k:∀ v∈b,Cl v):WkO (.list x a) (.list true b):=fun _ _ _ ⟨vals,n,e,r,_⟩=>⟨vals,n,e,h.rel r,fun _=>k⟩
theorem WkL.ops:∀ {l:List AV},allF (clF 12) l=true→WkL l (T.mapF .op l)
  | [],_=>.nil
  | a::_,h=>.cons (Weak.op ⟨12,allF_iff.mp h a (.head _)⟩) (WkL.ops (allF_iff.mpr fun v m=>allF_iff.mp h v (.tail _ m)))
theorem cl_ops:∀ (l:List AV),∀ v∈T.mapF AV.op l,Cl v
  | [],v,m=>by cases m
  | a::r,v,m=>by
    rcases List.mem_cons.mp m with rfl | m
    · exact ⟨1,rfl⟩
    · exact cl_ops r v m
theorem WkL.trans {a b c:List AV} (h:WkL a b):WkL b c→WkL a c:=by
  intro k
  induction h generalizing c with
  | nil=>exact k
  | cons h1 h2 ih=>cases k with | cons k1 k2=>exact .cons (h1.trans k1) (ih k2)
theorem WkL.app {a b x y:List AV} (h:WkL a b) (k:WkL x y):WkL (a++x) (b++y):=by
  induction h with
  | nil=>exact k
  | cons h1 h2 ih=>exact .cons h1 ih
theorem wk_sf:∀ n v,Weak v (sfV n v)
  | 0,v=>.refl v
  | n+1,v=>by
    unfold sfV
    split
    · exact .ss
    · exact .si
    · exact .tup (.cons (.refl _) (.mapF (wk_sf n) _))
    · split
      · rename_i h
        exact .fls ((WkL.mapF (wk_sf n) _).trans (.ops h)) (cl_ops _)
      · exact .refl _
    · exact .refl _
noncomputable def sfLs:List (Str × AV)→List (Str × AV)
  | []=>[]
  | (x,v)::r=>(x,sfV 8 v)::sfLs r
theorem lk_sf (x:Str):∀ l,lk (sfLs l) x=(lk l x).map (sfV 8)
  | []=>rfl
  | (y,v)::r=>by
    unfold sfLs lk
    cases seq x y with
    | true=>rfl
    | false=>exact lk_sf x r
theorem WkLs.sf (l:List (Str × AV)) (ns:List Str):WkLs l (sfLs (T.pick l ns)):=(WkLs.pick l ns).trans fun x v e=>by
  rw [lk_sf] at e
  cases q:lk (T.pick l ns) x with
  | none=>rw [q] at e;cases e
  | some u=>rw [q] at e;cases e;exact ⟨u,rfl,wk_sf 8 u⟩
noncomputable def nC:Str:=sOf [99]
noncomputable def nJ:Str:=sOf [106]
noncomputable def nDigit:Str:=sOf [100,105,103,105,116]
noncomputable def nInner:Str:=sOf [105,110,110,101,114]
noncomputable def nScript:Str:=sOf [115,99,114,105,112,116]
noncomputable def nFirst:Str:=sOf [102,105,114,115,116]
noncomputable def nShift:Str:=sOf [115,104,105,102,116]
noncomputable def stAt:List Stmt→Nat→Stmt
  | s::_,0=>s
  | _::r,n+1=>stAt r n
  | _,_=>default
noncomputable def dig (S:List Int) (i:Int):Int:=(S[i.toNat]?).getD 0
noncomputable def siL:List Int→List AV
  | []=>[]
  | x::r=>.si x::siL r
noncomputable def pl (a:Nat) (c:Nat):It:=.plain (cat (sOf [a]) (intS (.ofNat c)))
noncomputable def jI (c:Nat) (D:Int):Int:=(D.fdiv 4+.ofNat c).fmod 6
noncomputable def inI (c:Nat):It:=.piece true c (.cons (pl 101 c) .nil)
noncomputable def itF (c:Nat) (D:Int):It:=match (D.fmod 4).toNat with
  | 0=>.deed (jI c D).toNat
  | 1=>.piece false c (.cons (pl 99 c) .nil)
  | 2=>.piece false c (.cons (.deed (jI c D).toNat) (.cons (inI c) .nil))
  | _=>.piece false c (.cons (.plain (sOf [60])) (.cons (.piece true c (.cons (.deed ((jI c D+1).fmod 6).toNat) (.cons (.plain (sOf [45])) .nil))) (.cons (.deed (jI c D).toNat) (.cons (.plain (sOf [62])) .nil))))
noncomputable def lsQ (S:List AV) (f sh D:Int) (c:Nat):List (Str × AV):=[(nItems,.mut 0),(nC,.si (.ofNat c)),(nJ,.si (jI c D)),(nInner,avI (inI c)),(nDigit,.si D),(nScript,.sl S),(nFirst,.si f),(nShift,.si sh)]
noncomputable def nsQ:List Str:=[nItems,nScript,nFirst,nShift]
noncomputable def lsE (S:List AV) (f sh:Int):List (Str × AV):=[(nItems,.mut 0),(nScript,.sl S),(nFirst,.si f),(nShift,.si sh)]
noncomputable def sPlain:AV:=.str (sOf [112,108,97,105,110])
noncomputable def sDeed:AV:=.str (sOf [100,101,101,100])
noncomputable def sPiece:AV:=.str (sOf [112,105,101,99,101])
noncomputable def v1 (c:Nat):AV:=.tup [sPiece,.ss (nmP false c),.fl [.tup [sPlain,.ss (cat (sOf [99]) (intS (.ofNat c)))]]]
noncomputable def v2 (c:Nat) (x:Int):AV:=.tup [sPiece,.ss (nmP false c),.fl [.tup [sDeed,.si x],avI (inI c)]]
noncomputable def v3 (c:Nat) (x y:Int):AV:=.tup [sPiece,.ss (nmP false c),.fl [.tup [sPlain,.str (sOf [60])],.tup [sPiece,.ss (nmP true c),.fl [.tup [sDeed,.si y],.tup [sPlain,.str (sOf [45])]]],.tup [sDeed,.si x],.tup [sPlain,.str (sOf [62])]]]
theorem fmod_nat (x:Int) {k:Int} (h:0 < k):∃ n:Nat,x.fmod k=.ofNat n:=⟨(x.fmod k).toNat,(Int.toNat_of_nonneg (Int.fmod_nonneg_of_pos x h)).symm⟩
section
variable (P:Params)
noncomputable abbrev sc742:Scope:=(fdOf (KP P) 742).scope
noncomputable abbrev ifS:Stmt:=stAt (forB (frS P 742 1)) 3
theorem Runs.postL {m:EM AFlow} {rd:Rd} {ls ls':List (Str × AV)} {σ:List AObj} {L:List AV} {v w:AV} (h:Runs WkF m rd ls σ (.ok .next) ls' [.list true (L++[v])]) (hL:∀ v∈L,Cl v) (e:sfV 8 v=w) (hc:clF 12 w=true):Runs WkF m rd ls σ (.ok .next) ls' [.list true (L++[.op w])] :=
  h.postN (.refl _) (.cons (.list (.app (.refl L) (.cons ((e▸wk_sf 8 v).trans (.op ⟨12,hc⟩)) .nil)) fun u m=>by
    rcases List.mem_append.mp m with m | m
    · exact hL u m
    · rw [List.mem_singleton.mp m];exact ⟨1,rfl⟩) .nil)
theorem s_itm (n:Nat) (S L:List AV) (f sh D:Int) (c:Nat) (dep:Nat) (hc:c < 11) (hL:L.length≤1000) (hl:∀ v∈L,Cl v):Runs WkF ((hk (tabs P) (n+1)).st (ifS P)) ⟨sc742 P,none,dep,0⟩ (lsQ S f sh D c) [.list true L] (.ok .next) (lsE S f sh) [.list true (L++[.op (avI (itF c D))])]:=by
  obtain ⟨a,ha⟩:∃ a:Nat,jI c D=.ofNat a:=fmod_nat _ (by decide)
  obtain ⟨b,hb⟩:∃ b:Nat,(jI c D+1).fmod 6=.ofNat b:=fmod_nat _ (by decide)
  have hL':L.length≤sizeLine:=Nat.le_trans hL (by decide)
  have h1:∀ k,slen (sOf [k])+slen (intS (.ofNat c))≤sizeLine:=fun k=>by
    have h:=slen_nmP true c hc
    rw [nmP,slen_cat] at h
    have e:slen (sOf [k])=slen (sOf [116]):=rfl
    rw [e]
    exact Nat.le_trans h (by decide)
  have h2:(Int.ofNat c).natAbs < 1000000:=by show c < _;omega
  have hm:=Int.fmod_nonneg_of_pos D (show (0:Int) < 4 by decide)
  have hm2:=Int.fmod_lt_of_pos D (show (0:Int) < 4 by decide)
  unfold itF
  generalize hr:D.fmod 4=r at hm hm2
  match r,hm,hm2 with
  | 0,_,_ =>
    have q:Runs WkF ((hk (tabs P) (n+1)).st (ifS P)) ⟨sc742 P,none,dep,0⟩ (lsQ S f sh D c) [.list true L] (.ok .next) (lsE S f sh) [.list true (L++[.tup [sDeed,.si (jI c D)]])] :=
      Runs.ad WkF.refl [] [] nsQ [.b true] [L.length≤sizeLine,(D.fmod 4 == 0)=true] (by kernel_rfl) ⟨hL',by rw [hr];rfl,trivial⟩
    refine q.postL hl (w:=avI (.deed (jI c D).toNat)) ?_ (by kernel_rfl)
    rw [ha];kernel_rfl
  | 1,_,_ =>
    have q:Runs WkF ((hk (tabs P) (n+1)).st (ifS P)) ⟨sc742 P,none,dep,0⟩ (lsQ S f sh D c) [.list true L] (.ok .next) (lsE S f sh) [.list true (L++[v1 c])] :=
      Runs.ad WkF.refl [] [] nsQ [.b false,.b true] [L.length≤sizeLine,slen (sOf [99])+slen (intS (.ofNat c))≤sizeLine,(Int.ofNat c).natAbs < 1000000,slen (sOf [115])+slen (intS (.ofNat c))≤sizeLine,(Int.ofNat c).natAbs < 1000000,(D.fmod 4 == 1)=true,(D.fmod 4 == 0)=false] (by kernel_rfl) ⟨hL',h1 _,h2,h1 _,h2,by rw [hr];rfl,by rw [hr];rfl,trivial⟩
    exact q.postL hl (w:=avI (.piece false c (.cons (pl 99 c) .nil))) (by kernel_rfl) (by kernel_rfl)
  | 2,_,_ =>
    have q:Runs WkF ((hk (tabs P) (n+1)).st (ifS P)) ⟨sc742 P,none,dep,0⟩ (lsQ S f sh D c) [.list true L] (.ok .next) (lsE S f sh) [.list true (L++[v2 c (jI c D)])] :=
      Runs.ad WkF.refl [] [] nsQ [.b false,.b false,.b true] [L.length≤sizeLine,slen (sOf [115])+slen (intS (.ofNat c))≤sizeLine,(Int.ofNat c).natAbs < 1000000,(D.fmod 4 == 2)=true,(D.fmod 4 == 1)=false,(D.fmod 4 == 0)=false] (by kernel_rfl) ⟨hL',h1 _,h2,by rw [hr];rfl,by rw [hr];rfl,by rw [hr];rfl,trivial⟩
    refine q.postL hl (w:=avI (.piece false c (.cons (.deed (jI c D).toNat) (.cons (inI c) .nil)))) ?_ (by kernel_rfl)
    rw [ha];kernel_rfl
  | 3,_,_ =>
    have q:Runs WkF ((hk (tabs P) (n+1)).st (ifS P)) ⟨sc742 P,none,dep,0⟩ (lsQ S f sh D c) [.list true L] (.ok .next) (lsE S f sh) [.list true (L++[v3 c (jI c D) ((jI c D+1).fmod 6)])] :=
      Runs.ad WkF.refl [] [] nsQ [.b false,.b false,.b false] [L.length≤sizeLine,slen (sOf [115])+slen (intS (.ofNat c))≤sizeLine,(Int.ofNat c).natAbs < 1000000,slen (sOf [116])+slen (intS (.ofNat c))≤sizeLine,(Int.ofNat c).natAbs < 1000000,(D.fmod 4 == 2)=false,(D.fmod 4 == 1)=false,(D.fmod 4 == 0)=false] (by kernel_rfl) ⟨hL',h1 _,h2,h1 _,h2,by rw [hr];rfl,by rw [hr];rfl,by rw [hr];rfl,trivial⟩
    refine q.postL hl (w:=avI (.piece false c (.cons (.plain (sOf [60])) (.cons (.piece true c (.cons (.deed ((jI c D+1).fmod 6).toNat) (.cons (.plain (sOf [45])) .nil))) (.cons (.deed (jI c D).toNat) (.cons (.plain (sOf [62])) .nil)))))) ?_ (by kernel_rfl)
    rw [hb,ha];kernel_rfl
end
end T
namespace T
noncomputable def dgI (S:List Int) (f sh:Int) (c:Nat):Int:=dig S (f+.ofNat c)+.ofNat c+sh
noncomputable def itsF (S:List Int) (f sh:Int):Nat→Nat→Its
  | _,0=>.nil
  | b,n+1=>.cons (itF b (dgI S f sh b)) (itsF S f sh (b+1) n)
theorem siL_at:∀ (S:List Int) (n:Nat),(siL S)[n]?=(S[n]?).map AV.si
  | [],n=>by simp [siL]
  | x::r,0=>rfl
  | x::r,n+1=>by simpa [siL] using siL_at r n
theorem siL_len:∀ S:List Int,(siL S).length=S.length
  | []=>rfl
  | _::r=>congrArg Nat.succ (siL_len r)
noncomputable def DigOk (H:Hooks) (S:List Int):Prop:=∀ i,0≤i→i < 1000→Spec (H.fn 728) [.sl (siL S),.si i] [] (.ok (.si (dig S i))) [] 480
section
variable (P:Params)
theorem s_dig (H:Hooks) (S:List Int) (hS:S.length≤100000) (i:Int) (h0:0≤i) (h1:i < 1000):Spec (F P H 728) [.sl (siL S),.si i] [] (.ok (.si (dig S i))) [] 480:=fun sc dep hd=>by
  have hl:(siL S).length≤4611686018427387904:=by rw [siL_len];omega
  obtain ⟨n,rfl⟩:∃ n:Nat,i=.ofNat n:=⟨i.toNat,(Int.toNat_of_nonneg h0).symm⟩
  have h1:n < 1000:=by have:(Int.ofNat n) < 1000:=h1;simp at this;omega
  by_cases h:n < S.length
  · refine Runs.ad Weak.refl [] [] [] [.b true,.v (.si (dig S (.ofNat n)))] [∃ m b,Int.ofNat n=Int.ofNat m∧m < 1000000∧(siL S)[m]?=some b∧Weak b (.si (dig S (.ofNat n))),decide (Int.ofNat n < ((siL S).length:Int))=true,(siL S).length≤4611686018427387904]
      (by kernel_rfl) ⟨⟨n,.si (dig S (.ofNat n)),rfl,by omega,?_,.refl _⟩,by rw [siL_len];simpa using h,hl,trivial⟩
    rw [siL_at]
    show _=some (AV.si ((S[n]?).getD 0))
    rw [List.getElem?_eq_getElem h];rfl
  · have q:Runs Weak (F P H 728 [.sl (siL S),.si (.ofNat n)]) ⟨sc,none,dep,0⟩ [] [] (.ok (.int 0)) [] [] :=
      Runs.ad Weak.refl [] [] [] [.b false] [decide (Int.ofNat n < ((siL S).length:Int))=false,(siL S).length≤4611686018427387904] (by kernel_rfl) ⟨by rw [siL_len];simpa using h,hl,trivial⟩
    have e:dig S (.ofNat n)=0:=by show (S[n]?).getD 0=0;rw [List.getElem?_eq_none (by omega)];rfl
    rw [e]
    exact q.postV .si (.refl _) (.refl _)
noncomputable def inA (c:Nat):AV:=.tup [sPiece,.str (nmP true c),.fl [.tup [sPlain,.str (cat (sOf [101]) (intS (.ofNat c)))]]]
noncomputable def itA (S:List Int) (f sh:Int) (c:Nat) (r:List (Str × AV)):List (Str × AV):=(nInner,inA c)::(nJ,.si (jI c (dgI S f sh c)))::(nDigit,.si (dgI S f sh c))::(nC,.int (.ofNat c))::r
noncomputable def nsI:List Str:=[nItems,nC,nJ,nInner,nDigit,nScript,nFirst,nShift]
noncomputable def itV (S:List Int) (f sh:Int) (c:Nat):AV:=.op (avI (itF c (dgI S f sh c)))
noncomputable def oI (S:List Int) (f sh:Int) (c:Nat) (L:List AV) (r:List Orc):List Orc:=.cut 0 [.sl (siL S),.si (f+.ofNat c)] [] (.ok (.si (dig S (f+.ofNat c)))) []::.stm (lsQ (siL S) f sh (dgI S f sh c) c) [.list true L] (.ok .next) (lsE (siL S) f sh) [.list true (L++[itV S f sh c])]::r
noncomputable def pI (H:Hooks) (S:List Int) (f sh:Int) (dep c:Nat) (L:List AV) (b:List AObj) (r:List (Str × AV)) (ps:List Prop):List Prop :=
  (dep≤500)::WkLs (itA S f sh c r) (lsQ (siL S) f sh (dgI S f sh c) c)::WkS b [.list true L]::Runs WkF (H.st (ifS P)) ⟨sc742 P,none,dep,0⟩ (lsQ (siL S) f sh (dgI S f sh c) c) [.list true L] (.ok .next) (lsE (siL S) f sh) [.list true (L++[itV S f sh c])] ::
  (dep≤500)::WkL [.sl (siL S),.si (f+.ofNat c)] [.sl (siL S),.si (f+.ofNat c)]::WkS [] []::Runs Weak (H.fn 728 [.sl (siL S),.si (f+.ofNat c)]) ⟨sc742 P,none,dep,0⟩ [] [] (.ok (.si (dig S (f+.ofNat c)))) [] []::ps
theorem pI_ok {n:Nat} {S:List Int} (hD:DigOk (hk (tabs P) (n+1)) S) {f sh:Int} (h0:0≤f) (h1:f < 900) {dep c:Nat} (hd:dep≤480) (hc:c < 11) {L:List AV} (hL:L.length≤1000) (hl:∀ v∈L,Cl v) {b:List AObj} (hb:WkS b [.list true L]) {r:List (Str × AV)} (hr:WkLs (itA S f sh c r) (lsQ (siL S) f sh (dgI S f sh c) c)) {ps:List Prop} (h:AllP ps):AllP (pI P (hk (tabs P) (n+1)) S f sh dep c L b r ps) :=
  ⟨by omega,hr,hb,s_itm P n (siL S) L f sh _ c dep hc hL hl,by omega,.refl _,.refl _,hD _ (by have:(0:Int)≤.ofNat c:=Int.natCast_nonneg c;omega) (by have:(Int.ofNat c) < 11:=Int.ofNat_lt.mpr hc;omega) _ _ hd,h⟩
theorem cl_itv {S:List Int} {f sh:Int} {c:Nat} {L:List AV} (h:∀ v∈L,Cl v):∀ v∈L++[itV S f sh c],Cl v:=fun v m=>by
  rcases List.mem_append.mp m with m | m
  · exact h v m
  · rw [List.mem_singleton.mp m];exact ⟨1,rfl⟩
noncomputable def lsB (S:List Int) (f sh b n:Int):List (Str × AV):=[(nItems,.mut 0),(nShift,.si sh),(sOf [99,111,117,110,116],.int n),(sOf [98,101,103,105,110],.int b),(nFirst,.si f),(nScript,.sl (siL S))]
noncomputable def ItemsOk (H:Hooks) (S:List Int) (b n:Nat):Prop:=∀ f sh,0≤f→f < 900→Spec (H.fn 742) [.sl (siL S),.si f,.int (.ofNat b),.int (.ofNat n),.si sh] [] (.ok (.mut 0)) [.list true (avL (itsF S f sh b n))] 470
theorem s_items0 (m:Nat) (S:List Int) (hD:DigOk (hk (tabs P) (m+1)) S) (f sh:Int) (h0:0≤f) (h1:f < 900):Spec (F P (hk (tabs P) (m+1)) 742) [.sl (siL S),.si f,.int 0,.int 6,.si sh] [] (.ok (.mut 0)) [.list true (avL (itsF S f sh 0 6))] 470:=fun sc dep hd=>by
  have w0:sfLs (T.pick (itA S f sh 0 (lsB S f sh 0 6)) nsI)=lsQ (siL S) f sh (dgI S f sh 0) 0:=by kernel_rfl
  have w1:sfLs (T.pick (itA S f sh 1 (lsE (siL S) f sh)) nsI)=lsQ (siL S) f sh (dgI S f sh 1) 1:=by kernel_rfl
  have w2:sfLs (T.pick (itA S f sh 2 (lsE (siL S) f sh)) nsI)=lsQ (siL S) f sh (dgI S f sh 2) 2:=by kernel_rfl
  have w3:sfLs (T.pick (itA S f sh 3 (lsE (siL S) f sh)) nsI)=lsQ (siL S) f sh (dgI S f sh 3) 3:=by kernel_rfl
  have w4:sfLs (T.pick (itA S f sh 4 (lsE (siL S) f sh)) nsI)=lsQ (siL S) f sh (dgI S f sh 4) 4:=by kernel_rfl
  have w5:sfLs (T.pick (itA S f sh 5 (lsE (siL S) f sh)) nsI)=lsQ (siL S) f sh (dgI S f sh 5) 5:=by kernel_rfl
  have c0:∀ v∈([]:List AV),Cl v:=fun v m=>by cases m
  have c1:=cl_itv (S:=S) (f:=f) (sh:=sh) (c:=0) c0
  have c2:=cl_itv (S:=S) (f:=f) (sh:=sh) (c:=1) c1
  have c3:=cl_itv (S:=S) (f:=f) (sh:=sh) (c:=2) c2
  have c4:=cl_itv (S:=S) (f:=f) (sh:=sh) (c:=3) c3
  have c5:=cl_itv (S:=S) (f:=f) (sh:=sh) (c:=4) c4
  exact Runs.ad Weak.refl [] [] [] (oI S f sh 0 [] (oI S f sh 1 ([]++[itV S f sh 0]) (oI S f sh 2 (([]++[itV S f sh 0])++[itV S f sh 1]) (oI S f sh 3 ((([]++[itV S f sh 0])++[itV S f sh 1])++[itV S f sh 2]) (oI S f sh 4 (((([]++[itV S f sh 0])++[itV S f sh 1])++[itV S f sh 2])++[itV S f sh 3]) (oI S f sh 5 ((((([]++[itV S f sh 0])++[itV S f sh 1])++[itV S f sh 2])++[itV S f sh 3])++[itV S f sh 4]) ([])))))))
    (pI P (hk (tabs P) (m+1)) S f sh (dep+1) 5 ((((([]++[itV S f sh 0])++[itV S f sh 1])++[itV S f sh 2])++[itV S f sh 3])++[itV S f sh 4]) [.list true ((((([]++[itV S f sh 0])++[itV S f sh 1])++[itV S f sh 2])++[itV S f sh 3])++[itV S f sh 4])] (lsE (siL S) f sh) (pI P (hk (tabs P) (m+1)) S f sh (dep+1) 4 (((([]++[itV S f sh 0])++[itV S f sh 1])++[itV S f sh 2])++[itV S f sh 3]) [.list true (((([]++[itV S f sh 0])++[itV S f sh 1])++[itV S f sh 2])++[itV S f sh 3])] (lsE (siL S) f sh) (pI P (hk (tabs P) (m+1)) S f sh (dep+1) 3 ((([]++[itV S f sh 0])++[itV S f sh 1])++[itV S f sh 2]) [.list true ((([]++[itV S f sh 0])++[itV S f sh 1])++[itV S f sh 2])] (lsE (siL S) f sh) (pI P (hk (tabs P) (m+1)) S f sh (dep+1) 2 (([]++[itV S f sh 0])++[itV S f sh 1]) [.list true (([]++[itV S f sh 0])++[itV S f sh 1])] (lsE (siL S) f sh) (pI P (hk (tabs P) (m+1)) S f sh (dep+1) 1 ([]++[itV S f sh 0]) [.list true ([]++[itV S f sh 0])] (lsE (siL S) f sh) (pI P (hk (tabs P) (m+1)) S f sh (dep+1) 0 [] [.list false []] (lsB S f sh 0 6) ([])))))))
    (by kernel_rfl) (pI_ok P hD h0 h1 (by omega) (by decide) (by simp) c5 (.refl _) (w5▸WkLs.sf _ nsI) (pI_ok P hD h0 h1 (by omega) (by decide) (by simp) c4 (.refl _) (w4▸WkLs.sf _ nsI) (pI_ok P hD h0 h1 (by omega) (by decide) (by simp) c3 (.refl _) (w3▸WkLs.sf _ nsI) (pI_ok P hD h0 h1 (by omega) (by decide) (by simp) c2 (.refl _) (w2▸WkLs.sf _ nsI) (pI_ok P hD h0 h1 (by omega) (by decide) (by simp) c1 (.refl _) (w1▸WkLs.sf _ nsI) (pI_ok P hD h0 h1 (by omega) (by decide) (by simp) c0 (.cons .symN .nil) (w0▸WkLs.sf _ nsI) (trivial)))))))
theorem s_items6 (m:Nat) (S:List Int) (hD:DigOk (hk (tabs P) (m+1)) S) (f sh:Int) (h0:0≤f) (h1:f < 900):Spec (F P (hk (tabs P) (m+1)) 742) [.sl (siL S),.si f,.int 6,.int 3,.si sh] [] (.ok (.mut 0)) [.list true (avL (itsF S f sh 6 3))] 470:=fun sc dep hd=>by
  have w0:sfLs (T.pick (itA S f sh 6 (lsB S f sh 6 3)) nsI)=lsQ (siL S) f sh (dgI S f sh 6) 6:=by kernel_rfl
  have w1:sfLs (T.pick (itA S f sh 7 (lsE (siL S) f sh)) nsI)=lsQ (siL S) f sh (dgI S f sh 7) 7:=by kernel_rfl
  have w2:sfLs (T.pick (itA S f sh 8 (lsE (siL S) f sh)) nsI)=lsQ (siL S) f sh (dgI S f sh 8) 8:=by kernel_rfl
  have c0:∀ v∈([]:List AV),Cl v:=fun v m=>by cases m
  have c1:=cl_itv (S:=S) (f:=f) (sh:=sh) (c:=6) c0
  have c2:=cl_itv (S:=S) (f:=f) (sh:=sh) (c:=7) c1
  exact Runs.ad Weak.refl [] [] [] (oI S f sh 6 [] (oI S f sh 7 ([]++[itV S f sh 6]) (oI S f sh 8 (([]++[itV S f sh 6])++[itV S f sh 7]) ([]))))
    (pI P (hk (tabs P) (m+1)) S f sh (dep+1) 8 (([]++[itV S f sh 6])++[itV S f sh 7]) [.list true (([]++[itV S f sh 6])++[itV S f sh 7])] (lsE (siL S) f sh) (pI P (hk (tabs P) (m+1)) S f sh (dep+1) 7 ([]++[itV S f sh 6]) [.list true ([]++[itV S f sh 6])] (lsE (siL S) f sh) (pI P (hk (tabs P) (m+1)) S f sh (dep+1) 6 [] [.list false []] (lsB S f sh 6 3) ([]))))
    (by kernel_rfl) (pI_ok P hD h0 h1 (by omega) (by decide) (by simp) c2 (.refl _) (w2▸WkLs.sf _ nsI) (pI_ok P hD h0 h1 (by omega) (by decide) (by simp) c1 (.refl _) (w1▸WkLs.sf _ nsI) (pI_ok P hD h0 h1 (by omega) (by decide) (by simp) c0 (.cons .symN .nil) (w0▸WkLs.sf _ nsI) (trivial))))
theorem s_items9 (m:Nat) (S:List Int) (hD:DigOk (hk (tabs P) (m+1)) S) (f sh:Int) (h0:0≤f) (h1:f < 900):Spec (F P (hk (tabs P) (m+1)) 742) [.sl (siL S),.si f,.int 9,.int 2,.si sh] [] (.ok (.mut 0)) [.list true (avL (itsF S f sh 9 2))] 470:=fun sc dep hd=>by
  have w0:sfLs (T.pick (itA S f sh 9 (lsB S f sh 9 2)) nsI)=lsQ (siL S) f sh (dgI S f sh 9) 9:=by kernel_rfl
  have w1:sfLs (T.pick (itA S f sh 10 (lsE (siL S) f sh)) nsI)=lsQ (siL S) f sh (dgI S f sh 10) 10:=by kernel_rfl
  have c0:∀ v∈([]:List AV),Cl v:=fun v m=>by cases m
  have c1:=cl_itv (S:=S) (f:=f) (sh:=sh) (c:=9) c0
  exact Runs.ad Weak.refl [] [] [] (oI S f sh 9 [] (oI S f sh 10 ([]++[itV S f sh 9]) ([])))
    (pI P (hk (tabs P) (m+1)) S f sh (dep+1) 10 ([]++[itV S f sh 9]) [.list true ([]++[itV S f sh 9])] (lsE (siL S) f sh) (pI P (hk (tabs P) (m+1)) S f sh (dep+1) 9 [] [.list false []] (lsB S f sh 9 2) ([])))
    (by kernel_rfl) (pI_ok P hD h0 h1 (by omega) (by decide) (by simp) c1 (.refl _) (w1▸WkLs.sf _ nsI) (pI_ok P hD h0 h1 (by omega) (by decide) (by simp) c0 (.cons .symN .nil) (w0▸WkLs.sf _ nsI) (trivial)))
end
end T
namespace T
noncomputable def srtF:Nat→Nat
  | 0=>0
  | 1=>1
  | 2=>2
  | 3=>3
  | 4=>3
  | _=>4
noncomputable def ddF (D:Int):Dd:=⟨srtF (D.fmod 6).toNat,((D.fdiv 6).fmod 4).toNat,D.fmod 6 - 2⟩
noncomputable def ddG (S:List Int) (f:Int) (j:Nat):Int:=dig S (f+.ofNat j)+.ofNat j
noncomputable def ddV (D:Int):AV:=.tup [.ss (dsS (ddF D).sort),.si ((D.fdiv 6).fmod 4),.si (D.fmod 6 - 2)]
theorem ddV_wk (D:Int):Weak (ddV D) (.op (avD (ddF D))):=by
  obtain ⟨n,h⟩:=fmod_nat (D.fdiv 6) (show (0:Int) < 4 by decide)
  have e:ddV D=avD (ddF D):=by unfold ddV avD ddF;simp only;rw [h];rfl
  rw [e]
  exact .op ⟨3,rfl⟩
noncomputable def wordsD:List AV:=[.str (sOf [112,117,116]),.str (sOf [114,101,109,111,118,101]),.str (sOf [97,100,100]),.str (sOf [110,101,115,116]),.str (sOf [110,101,115,116]),.str (sOf [110,111,110,101])]
noncomputable def pDD (D:Int):Prop:=∃ n b,D.fmod 6=.ofNat n∧n < 1000000∧wordsD[n]?=some b∧Weak b (.ss (dsS (ddF D).sort))
theorem pDD_ok (D:Int):pDD D:=by
  obtain ⟨n,h⟩:=fmod_nat D (show (0:Int) < 6 by decide)
  have h6:=Int.fmod_lt_of_pos D (show (0:Int) < 6 by decide)
  rw [h] at h6
  have h6:n < 6:=Int.ofNat_lt.mp h6
  have e:(ddF D).sort=srtF n:=by show srtF (D.fmod 6).toNat=_;rw [h];rfl
  refine ⟨n,.str (dsS (srtF n)),h,by omega,?_,e▸.ss⟩
  match n,h6 with
  | 0,_=>rfl
  | 1,_=>rfl
  | 2,_=>rfl
  | 3,_=>rfl
  | 4,_=>rfl
  | 5,_=>rfl
noncomputable def ddL (S:List Int) (f:Int):List AV:=[.op (avD (ddF (ddG S f 0))),.op (avD (ddF (ddG S f 1))),.op (avD (ddF (ddG S f 2))),.op (avD (ddF (ddG S f 3))),.op (avD (ddF (ddG S f 4))),.op (avD (ddF (ddG S f 5)))]
noncomputable def oD (S:List Int) (f:Int) (j:Nat) (r:List Orc):List Orc:=.cut 0 [.sl (siL S),.si (f+.ofNat j)] [] (.ok (.si (dig S (f+.ofNat j)))) []::.v (.ss (dsS (ddF (ddG S f j)).sort))::r
noncomputable def DeedsOk (H:Hooks) (S:List Int):Prop:=∀ f,0≤f→f < 900→Spec (H.fn 749) [.sl (siL S),.si f] [] (.ok (.mut 0)) [.list true (ddL S f)] 470
section
variable (P:Params)
noncomputable def pD (H:Hooks) (S:List Int) (f:Int) (dep j:Nat) (r:List Prop):List Prop:=pDD (ddG S f j)::(dep≤500)::WkL [.sl (siL S),.si (f+.ofNat j)] [.sl (siL S),.si (f+.ofNat j)]::WkS [] []::Runs Weak (H.fn 728 [.sl (siL S),.si (f+.ofNat j)]) ⟨(fdOf (KP P) 749).scope,none,dep,0⟩ [] [] (.ok (.si (dig S (f+.ofNat j)))) [] []::r
theorem pD_ok {H:Hooks} {S:List Int} (hD:DigOk H S) {f:Int} (h0:0≤f) (h1:f < 900) {dep j:Nat} (hd:dep≤480) (hj:j < 6) {r:List Prop} (h:AllP r):AllP (pD P H S f dep j r) :=
  ⟨pDD_ok _,by omega,.refl _,.refl _,hD _ (by have:(0:Int)≤.ofNat j:=Int.natCast_nonneg j;omega) (by have:(Int.ofNat j) < 6:=Int.ofNat_lt.mpr hj;omega) _ _ hd,h⟩
theorem s_deeds (H:Hooks) (S:List Int) (hD:DigOk H S) (f:Int) (h0:0≤f) (h1:f < 900):Spec (F P H 749) [.sl (siL S),.si f] [] (.ok (.mut 0)) [.list true (ddL S f)] 470:=fun sc dep hd=>by
  have q:Runs Weak (F P H 749 [.sl (siL S),.si f]) ⟨sc,none,dep,0⟩ [] [] (.ok (.mut 0)) [] [.list false [ddV (ddG S f 0),ddV (ddG S f 1),ddV (ddG S f 2),ddV (ddG S f 3),ddV (ddG S f 4),ddV (ddG S f 5)]] :=
    Runs.ad Weak.refl [] [] [] (oD S f 0 (oD S f 1 (oD S f 2 (oD S f 3 (oD S f 4 (oD S f 5 ([])))))))
      (pD P H S f (dep+1) 5 (pD P H S f (dep+1) 4 (pD P H S f (dep+1) 3 (pD P H S f (dep+1) 2 (pD P H S f (dep+1) 1 (pD P H S f (dep+1) 0 ([])))))))
      (by kernel_rfl) (pD_ok P hD h0 h1 (by omega) (by decide) (pD_ok P hD h0 h1 (by omega) (by decide) (pD_ok P hD h0 h1 (by omega) (by decide) (pD_ok P hD h0 h1 (by omega) (by decide) (pD_ok P hD h0 h1 (by omega) (by decide) (pD_ok P hD h0 h1 (by omega) (by decide) (trivial)))))))
  exact q.postV (.refl _) (.refl _) (.cons (.list (.cons (ddV_wk _) (.cons (ddV_wk _) (.cons (ddV_wk _) (.cons (ddV_wk _) (.cons (ddV_wk _) (.cons (ddV_wk _) (.nil))))))) (fun v m=>by
    simp only [ddL,List.mem_cons,List.not_mem_nil,or_false] at m
    rcases m with rfl | rfl | rfl | rfl | rfl | rfl<;>exact ⟨1,rfl⟩)) .nil)
end
end T
namespace T
noncomputable def MS.delw (m:MS):MS:={m with cm:=delK m.cm dW,fi:=delK m.fi dW}
noncomputable def MS.putw (m:MS):MS:={m with cm:=putK (delK m.cm dW) dW,fi:=delK m.fi dW}
noncomputable def wData (p:Pg):AV:=.tup [.sl (ddA p),.bool p.b,.mut 8]
noncomputable def DelwOk (H:Hooks) (p:Pg):Prop:=∀ m dp,Fit 50000 m→Spec (H.fn 569) [.inst 593 2,.ss dW] (hB p m dp) (.ok .none) (hB p m.delw dp) 500
noncomputable def PutwOk (H:Hooks) (p:Pg):Prop:=∀ m dp,Fit 50000 m→Spec (H.fn 562) [.inst 593 2,.ss dW,.ref 777,wData p] (hB p m dp) (.ok .none) (hB p m.putw dp) 490
noncomputable def callT' (m:MS) (i:Nat):Str:=match m.cm.contains (nmS i) with
  | true=>cat (sOf [105,100,108,101,32]) (nmS i)
  | false=>cat (cat (sOf [105,110,118,97,108,105,100,32,99,111,109,109,97,110,100,32,110,97,109,101,32,34]) (nmS i)) (sOf [34])
noncomputable def MS.called (m:MS) (i:Nat):MS:=match m.cm.contains (nmS i) with
  | true=>{m with sp:=m.sp+1}
  | false=>m
section
variable (P:Params)
theorem s_delw (H:Hooks) (p:Pg) (m:MS) (dp:Int) (fm:Fit 50000 m):Spec (F P H 569) [.inst 593 2,.ss dW] (hB p m dp) (.ok .none) (hB p m.delw dp) 500:=fun sc dep hd=>by
  have h1:m.cm.length≤100000:=Nat.le_trans fm.cm (by decide)
  have h2:m.fi.length≤100000:=Nat.le_trans fm.fi (by decide)
  exact Runs.msk Weak.refl [] [] [.b false] [false=false,m.fi.length≤100000,m.cm.length≤100000] (by kernel_rfl) rfl ⟨rfl,h2,h1,trivial⟩
theorem s_putw (H:Hooks) (p:Pg) (hH:DelwOk H p) (m:MS) (dp:Int) (fm:Fit 50000 m):Spec (F P H 562) [.inst 593 2,.ss dW,.ref 777,wData p] (hB p m dp) (.ok .none) (hB p m.putw dp) 490:=fun sc dep hd=>by
  have h1:(delK m.cm dW).length≤100000:=Nat.le_trans (delK_len ..) (Nat.le_trans fm.cm (by decide))
  have h3:=hH m dp fm
  exact Runs.msk Weak.refl [] [] [.cut 10 [.inst 593 2,.ss dW] (hB p m dp) (.ok .none) (hB p m.delw dp)]
      [lk (cmTab p) dW=some (.tup [.ref 777,wData p]),(delK m.cm dW).length≤100000,dep+1≤500,WkL [.inst 593 2,.ss dW] [.inst 593 2,.ss dW],WkS (hB p m dp) (hB p m dp),Runs Weak (H.fn 569 [.inst 593 2,.ss dW]) ⟨(fdOf (KP P) 562).scope,none,dep+1,0⟩ [] (hB p m dp) (.ok .none) [] (hB p m.delw dp)]
      (by kernel_rfl) rfl ⟨rfl,h1,by omega,.refl _,.refl _,h3 _ _ (by omega),trivial⟩
end
end T
namespace T
structure CallsOk (H:Hooks) (p:Pg):Prop where
  t:∀ m i,i < 4→m.cm.contains (nmS i)=true→Spec (H.fn 826) [.inst 593 2,.ss (nmS i)] (hB p m 0) (.ok (.ss (callT' m i))) (hB p {m with sp:=m.sp+1} 0) 480
  f:∀ m i,i < 4→m.cm.contains (nmS i)=false→Spec (H.fn 826) [.inst 593 2,.ss (nmS i)] (hB p m 0) (.ok (.ss (callT' m i))) (hB p m 0++gones 3) 480
section
variable (P:Params)
theorem s_callT (H:Hooks) (p:Pg) (m:MS) (i:Nat) (hi:i < 4) (h:m.cm.contains (nmS i)=true):Spec (F P H 826) [.inst 593 2,.ss (nmS i)] (hB p m 0) (.ok (.ss (callT' m i))) (hB p {m with sp:=m.sp+1} 0) 480:=fun sc dep hd=>by
  unfold callT'
  rw [h]
  have hz:∀ n,n≤30→n≤sizeLine:=fun n h=>Nat.le_trans h (by decide)
  match i,hi with
  | 0,_=>exact Runs.msk Weak.refl [] [] [.b true,.v idleT] [7≤sizeLine,m.cm.contains (nmS 0)=true,some idleT=some idleT,m.cm.contains (nmS 0)=true] (by kernel_rfl) rfl ⟨hz _ (by decide),h,rfl,h,trivial⟩
  | 1,_=>exact Runs.msk Weak.refl [] [] [.b true,.v idleT] [7≤sizeLine,m.cm.contains (nmS 1)=true,some idleT=some idleT,m.cm.contains (nmS 1)=true] (by kernel_rfl) rfl ⟨hz _ (by decide),h,rfl,h,trivial⟩
  | 2,_=>exact Runs.msk Weak.refl [] [] [.b true,.v idleT] [7≤sizeLine,m.cm.contains (nmS 2)=true,some idleT=some idleT,m.cm.contains (nmS 2)=true] (by kernel_rfl) rfl ⟨hz _ (by decide),h,rfl,h,trivial⟩
  | 3,_=>exact Runs.msk Weak.refl [] [] [.b true,.v idleT] [7≤sizeLine,m.cm.contains (nmS 3)=true,some idleT=some idleT,m.cm.contains (nmS 3)=true] (by kernel_rfl) rfl ⟨hz _ (by decide),h,rfl,h,trivial⟩
theorem s_callF (H:Hooks) (p:Pg) (m:MS) (i:Nat) (hi:i < 4) (h:m.cm.contains (nmS i)=false):Spec (F P H 826) [.inst 593 2,.ss (nmS i)] (hB p m 0) (.ok (.ss (callT' m i))) (hB p m 0++gones 3) 480:=fun sc dep hd=>by
  unfold callT'
  rw [h]
  have hz:∀ n,n≤30→n≤sizeLine:=fun n h=>Nat.le_trans h (by decide)
  match i,hi with
  | 0,_=>exact Runs.msk Weak.refl [10,11,12] [] [.b false] [25≤sizeLine,24≤sizeLine,m.cm.contains (nmS 0)=false] (by kernel_rfl) rfl ⟨hz _ (by decide),hz _ (by decide),h,trivial⟩
  | 1,_=>exact Runs.msk Weak.refl [10,11,12] [] [.b false] [25≤sizeLine,24≤sizeLine,m.cm.contains (nmS 1)=false] (by kernel_rfl) rfl ⟨hz _ (by decide),hz _ (by decide),h,trivial⟩
  | 2,_=>exact Runs.msk Weak.refl [10,11,12] [] [.b false] [25≤sizeLine,24≤sizeLine,m.cm.contains (nmS 2)=false] (by kernel_rfl) rfl ⟨hz _ (by decide),hz _ (by decide),h,trivial⟩
  | 3,_=>exact Runs.msk Weak.refl [10,11,12] [] [.b false] [25≤sizeLine,24≤sizeLine,m.cm.contains (nmS 3)=false] (by kernel_rfl) rfl ⟨hz _ (by decide),hz _ (by decide),h,trivial⟩
end
structure Rel (m:MS):Prop where
  cn:m.cm.Nodup
  fn:m.fi.Nodup
  c:∀ i,i < 4→(nmS i∈m.cm ↔ 0 < m.nm i)
  f:∀ i,i < 4→(nmS i∈m.fi ↔ m.nm i=2)
  lg:AEqs m.lg m.lg
  md:AEqs m.md m.md
theorem AEqs.app {a b x y:List AV} (h:AEqs a b) (k:AEqs x y):AEqs (a++x) (b++y):=by
  induction h with
  | nil=>exact k
  | cons h1 h2 ih=>exact .cons h1 ih
theorem avE_eq:∀ e:LE,AEq (avE e) (avE e)
  | .deed j l=>.tup (.cons (.str rfl rfl) (.cons (.str rfl rfl) (.cons (.str rfl rfl) .nil)))
  | .run x=>.tup (.cons (.str rfl rfl) (.cons (.str rfl rfl) .nil))
theorem avM_eq (x:Nat × Bool):AEq (avM x) (avM x):=.tup (.cons (.str rfl rfl) (.cons (.bool _) .nil))
theorem mem_delK {k x:Str}:∀ {l:List Str},l.Nodup→(x∈delK l k ↔ x∈l∧x ≠ k)
  | [],_=>by simp [delK]
  | y::r,h=>by
    obtain ⟨h1,h2⟩:=List.nodup_cons.mp h
    unfold delK
    cases q:seq k y with
    | true =>
      have e:=seq_iff.mp q
      subst e
      constructor
      · exact fun m=>⟨.tail _ m,fun e=>h1 (e▸m)⟩
      · rintro ⟨m,ne⟩
        rcases List.mem_cons.mp m with rfl | m
        · exact absurd rfl ne
        · exact m
    | false =>
      have ne:y ≠ k:=fun e=>by rw [e,seq_iff.mpr rfl] at q;cases q
      have ih:=mem_delK (k:=k) (x:=x) h2
      show x∈y::delK r k ↔ _
      rw [List.mem_cons,List.mem_cons,ih]
      constructor
      · rintro (rfl | ⟨a,b⟩)
        · exact ⟨.inl rfl,ne⟩
        · exact ⟨.inr a,b⟩
      · rintro ⟨rfl | a,b⟩
        · exact .inl rfl
        · exact .inr ⟨a,b⟩
theorem delK_sub {k:Str}:∀ {l:List Str},(delK l k).Sublist l
  | []=>.slnil
  | y::r=>by
    unfold delK
    cases seq k y with
    | true=>exact List.sublist_cons_self ..
    | false=>exact .cons_cons _ delK_sub
theorem mem_putK {k x:Str} {l:List Str}:x∈putK l k ↔ x∈l∨x=k:=by
  unfold putK
  split
  · rename_i h
    have h:k∈l:=by simpa using h
    exact ⟨.inl,fun o=>o.elim id fun e=>e▸h⟩
  · simp
theorem putK_nodup {k:Str} {l:List Str} (h:l.Nodup):(putK l k).Nodup:=by
  unfold putK
  split
  · exact h
  · rename_i q
    have q:k ∉ l:=by simpa using q
    exact List.nodup_append.mpr ⟨h,by simp,fun a m b n=>by rw [List.mem_singleton.mp n];exact fun e=>q (e▸m)⟩
theorem nm_set {m:MS} {i j:Nat} {v:Int} {c f:List Str} (hi:i < 4) (hj:j < 4):(m.set i v c f).nm j=if j=i then v else m.nm j:=by
  match i,hi with
  | 0,_=>match j,hj with
    | 0,_=>rfl
    | 1,_=>rfl
    | 2,_=>rfl
    | 3,_=>rfl
  | 1,_=>match j,hj with
    | 0,_=>rfl
    | 1,_=>rfl
    | 2,_=>rfl
    | 3,_=>rfl
  | 2,_=>match j,hj with
    | 0,_=>rfl
    | 1,_=>rfl
    | 2,_=>rfl
    | 3,_=>rfl
  | 3,_=>match j,hj with
    | 0,_=>rfl
    | 1,_=>rfl
    | 2,_=>rfl
    | 3,_=>rfl
theorem nmS_inj {i j:Nat} (hi:i < 4) (hj:j < 4) (h:nmS i=nmS j):i=j:=by
  have:∀ i,i < 4→∀ j,j < 4→seq (nmS i) (nmS j)=true→i=j:=by decide
  exact this i hi j hj (seq_iff.mpr h)
theorem Rel.set {m:MS} (h:Rel m) {i:Nat} (hi:i < 4) {v:Int} {c f:List Str} (hc:c.Nodup) (hf:f.Nodup) (h1:∀ x,x∈c ↔ (x∈m.cm∧x ≠ nmS i)∨(x=nmS i∧0 < v)) (h2:∀ x,x∈f ↔ (x∈m.fi∧x ≠ nmS i)∨(x=nmS i∧v=2)):Rel (m.set i v c f):=by
  refine ⟨hc,hf,fun j hj=>?_,fun j hj=>?_,h.lg,h.md⟩
  · rw [nm_set hi hj]
    show nmS j∈c ↔ _
    rw [h1]
    by_cases e:j=i
    · subst e;simp
    · have ne:nmS j ≠ nmS i:=fun z=>e (nmS_inj hj hi z)
      rw [if_neg e,← h.c j hj];simp [ne]
  · rw [nm_set hi hj]
    show nmS j∈f ↔ _
    rw [h2]
    by_cases e:j=i
    · subst e;simp
    · have ne:nmS j ≠ nmS i:=fun z=>e (nmS_inj hj hi z)
      rw [if_neg e,← h.f j hj];simp [ne]
theorem Rel.put {m:MS} (h:Rel m) {i:Nat} (hi:i < 4):Rel (m.put i):=h.set hi (putK_nodup (h.cn.sublist delK_sub)) (h.fn.sublist delK_sub) (fun x=>by rw [mem_putK,mem_delK h.cn];simp) fun x=>by rw [mem_delK h.fn];simp
theorem Rel.del {m:MS} (h:Rel m) {i:Nat} (hi:i < 4):Rel (m.del i):=h.set hi (h.cn.sublist delK_sub) (h.fn.sublist delK_sub) (fun x=>by rw [mem_delK h.cn];simp) fun x=>by rw [mem_delK h.fn];simp
theorem Rel.add1 {m:MS} (h:Rel m) {i:Nat} (hi:i < 4):Rel (m.add1 i):=h.set hi (putK_nodup (h.cn.sublist delK_sub)) (putK_nodup (h.fn.sublist delK_sub)) (fun x=>by rw [mem_putK,mem_delK h.cn];simp) fun x=>by rw [mem_putK,mem_delK h.fn];simp
theorem Rel.add {m:MS} (h:Rel m) {i:Nat} (hi:i < 4):Rel (m.add i):=by
  match i,hi with
  | 0,_=>exact (h.add1 (i:=0) (by decide)).add1 (i:=3) (by decide)
  | 1,_=>exact (h.add1 (i:=1) (by decide)).add1 (i:=3) (by decide)
  | 2,_=>exact (h.add1 (i:=2) (by decide)).add1 (i:=3) (by decide)
  | 3,_=>exact h.add1 (i:=3) (by decide)
theorem Rel.of {m m':MS} (h:Rel m) (h1:m'.cm=m.cm) (h2:m'.fi=m.fi) (h3:∀ i,m'.nm i=m.nm i) (hl:AEqs m'.lg m'.lg) (hm:AEqs m'.md m'.md):Rel m':=⟨h1▸h.cn,h2▸h.fn,fun i hi=>by rw [h1,h3];exact h.c i hi,fun i hi=>by rw [h2,h3];exact h.f i hi,hl,hm⟩
theorem Rel.same {m m':MS} (h:Rel m) (h1:m'.cm=m.cm) (h2:m'.fi=m.fi) (a:m'.n0=m.n0) (b:m'.n1=m.n1) (c:m'.n2=m.n2) (d:m'.n3=m.n3) (hl:AEqs m'.lg m'.lg) (hm:AEqs m'.md m'.md):Rel m':=h.of h1 h2 (fun i=>by
  match i with
  | 0=>exact a
  | 1=>exact b
  | 2=>exact c
  | _+3=>exact d) hl hm
theorem Rel.ask {m:MS} (h:Rel m) (l:Nat) (b:Bool):Rel (m.ask l b):=by
  unfold MS.ask
  split
  · split
    · exact h
    · exact h.same rfl rfl rfl rfl rfl rfl h.lg (h.md.app (.cons (avM_eq _) .nil))
  · exact h.same rfl rfl rfl rfl rfl rfl h.lg (h.md.app (.cons (avM_eq _) .nil))
theorem Rel.src {p:Pg} {t:Bool} {k:Nat} {m:MS} (h:Rel m):Rel (srcF p t k m).2:=by
  have h1:Rel {m with lg:=m.lg++[avE (.run (nmP t k))]}:=h.same rfl rfl rfl rfl rfl rfl (h.lg.app (.cons (avE_eq _) .nil)) h.md
  unfold srcF
  simp only
  split
  · exact h1.put (by decide)
  · split
    · exact h1.del (by decide)
    · split
      · exact h1
      · exact h1
noncomputable def CallRel (call:Nat→MS→(Bool × Str) × MS):Prop:=∀ j m,Rel m→Rel (call j m).2
mutual
theorem playI_rel {p:Pg} {call:Nat→MS→(Bool × Str) × MS} (hc:CallRel call) (e:Int):∀ (i:It) (m:MS),Rel m→Rel (playI p call e i m).2
  | .plain x,m,h=>h.same rfl rfl rfl rfl rfl rfl h.lg h.md
  | .deed j,m,h=>hc j _ (h.same rfl rfl rfl rfl rfl rfl h.lg h.md)
  | .piece t k its,m,h=>by
    unfold playI
    split
    · exact playL_rel hc e its [] _ (h.same rfl rfl rfl rfl rfl rfl h.lg h.md)
    · exact Rel.src (h.same rfl rfl rfl rfl rfl rfl h.lg h.md)
theorem playL_rel {p:Pg} {call:Nat→MS→(Bool × Str) × MS} (hc:CallRel call) (e:Int):∀ (r:Its) (acc:List Str) (m:MS),Rel m→Rel (playL p call e r acc m).2
  | .nil,acc,m,h=>h.same rfl rfl rfl rfl rfl rfl h.lg h.md
  | .cons i r,acc,m,h=>by
    have q:=playI_rel (p:=p) hc e i m h
    unfold playL
    split
    · rename_i x s' e1
      rw [e1] at q
      exact playL_rel hc e r _ s' q
    · rename_i x s' e1
      rw [e1] at q
      exact q
end
theorem Rel.deed {p:Pg} (w:WfPg p) {lev j:Nat} {m:MS} (h:Rel m):Rel (deedF p lev j m).2:=by
  have h1:Rel (m.logD j lev):=h.same rfl rfl rfl rfl rfl rfl (h.lg.app (.cons (avE_eq _) .nil)) h.md
  unfold deedF
  split
  · exact h1.put (w.nm j)
  · exact h1.del (w.nm j)
  · exact h1.add (w.nm j)
  · split
    · exact h1
    · exact h1
  · exact h1
theorem callF_rel {p:Pg} (w:WfPg p) {lev:Nat} {later:Nat→MS→(Bool × Str) × MS} (hl:∀ l m,Rel m→Rel (later l m).2):CallRel (callF p lev later):=by
  intro j m h
  have q:=Rel.deed w (lev:=lev) (j:=j) (m:={m with sp:=m.sp+1}) (h.same rfl rfl rfl rfl rfl rfl h.lg h.md)
  unfold callF
  split
  · rename_i s' e
    rw [e] at q
    exact q
  · rename_i l s' e
    rw [e] at q
    exact hl l s' q
theorem rel2 {p:Pg} (w:WfPg p):CallRel (call2 p):=callF_rel w fun _ _ h=>h
theorem rel1 {p:Pg} (w:WfPg p):CallRel (call1 p):=callF_rel w fun _ _ h=>playL_rel (rel2 w) _ _ _ _ (h.ask _ _)
theorem rel0 {p:Pg} (w:WfPg p):CallRel (call0 p):=callF_rel w fun l m h=>by
  match l with
  | 0=>exact playL_rel (rel2 w) _ _ _ _ (h.ask _ _)
  | 1=>exact playL_rel (rel1 w) _ _ _ _ (h.ask _ _)
  | _+2=>exact playL_rel (rel2 w) _ _ _ _ (h.ask _ _)
end T
namespace T
noncomputable def nName:Str:=sOf [110,97,109,101]
noncomputable def nNames:Str:=sOf [110,97,109,101,115]
noncomputable def nMachine:Str:=sOf [109,97,99,104,105,110,101]
noncomputable def nIsProc:Str:=sOf [105,115,95,112,114,111,99]
noncomputable def nMade:Str:=sOf [109,97,100,101]
noncomputable def lsN (p:Pg):List (Str × AV):=[(nNames,.mut 13),(nHost,.inst 593 2),(nMachine,.inst 296 10),(nWorld,wV p),(nIsProc,.bool p.b),(nMade,.mut 9)]
noncomputable def nsN:List Str:=[nNames,nHost,nMachine,nWorld,nIsProc,nMade]
noncomputable def idleS (i:Nat):Str:=cat (sOf [105,100,108,101,32]) (nmS i)
noncomputable def noneS (i:Nat):Str:=cat (cat (sOf [105,110,118,97,108,105,100,32,99,111,109,109,97,110,100,32,110,97,109,101,32,34]) (nmS i)) (sOf [34])
theorem rw_eq:∀ r:Rw,AEq (match r with | .push _ x=>avR (.push (.ss x) x) | r=>avR r) (match r with | .push _ x=>avR (.push (.ss x) x) | r=>avR r)
  | .push _ _=>.tup (.cons (.str rfl rfl) (.cons (.str rfl rfl) (.cons .none .nil)))
  | .inv=>.tup (.cons (.str rfl rfl) (.cons (.int rfl rfl) (.cons .none .nil)))
  | .start _ _ _=>.tup (.cons (.str rfl rfl) (.cons (.str rfl rfl) (.cons (.int rfl rfl) .nil)))
  | .join _=>.tup (.cons (.str rfl rfl) (.cons (.int rfl rfl) (.cons .none .nil)))
mutual
theorem rwI_eq (l:Nat):∀ (a:Nat) (i:It),AEqs ((rwI l a i).map avR) ((rwI l a i).map avR)
  | _,.plain x=>.cons (rw_eq (.push .none x)) .nil
  | _,.deed j=>.cons (.tup (.cons (.str rfl rfl) (.cons (.str rfl rfl) (.cons .none .nil)))) (.cons (rw_eq (.push .none _)) (.cons (rw_eq (.push .none _)) (.cons (rw_eq .inv) .nil)))
  | a,.piece t k its=>by
    unfold rwI
    rw [List.map_cons,List.map_append]
    exact .cons (rw_eq (.start _ _ _)) ((rwL_eq l (a+1) its).app (.cons (rw_eq (.join _)) .nil))
theorem rwL_eq (l:Nat):∀ (a:Nat) (r:Its),AEqs ((rwL l a r).map avR) ((rwL l a r).map avR)
  | _,.nil=>.nil
  | a,.cons i r=>by
    unfold rwL
    rw [List.map_append]
    exact (rwI_eq l a i).app (rwL_eq l _ r)
end
theorem rwA_eq (p:Pg) (l:Nat):AEqs ((rwA p l).map avR) ((rwA p l).map avR):=by
  unfold rwA
  rw [List.map_append]
  exact (rwL_eq l 0 _).app (.cons (rw_eq (.join _)) .nil)
section
variable (P:Params)
noncomputable abbrev sc833:Scope:=(fdOf (KP P) 833).scope
noncomputable abbrev rdN (dep:Nat):Rd:=⟨sc833 P,none,dep,0⟩
noncomputable def bodyE (H:Hooks) (i:Nat):EM AFlow:=stsE (ev (tabs P) H 200).st (forB (frS P 833 i))
theorem st627 (n:Nat):(hk (tabs P) (n+1)).st (frS P 833 24)=askM fun k=>forS true ((ev (tabs P) (hk (tabs P) n) 200).ex (forI (frS P 833 24))) ((ev (tabs P) (hk (tabs P) n) 200).asg (forT (frS P 833 24))) (cutS (bodyE P (hk (tabs P) n) 24)) k:=by kernel_rfl
theorem st631 (n:Nat):(hk (tabs P) (n+1)).st (frS P 833 25)=askM fun k=>forS true ((ev (tabs P) (hk (tabs P) n) 200).ex (forI (frS P 833 25))) ((ev (tabs P) (hk (tabs P) n) 200).asg (forT (frS P 833 25))) (cutS (bodyE P (hk (tabs P) n) 25)) k:=by kernel_rfl
noncomputable abbrev BN (H:Hooks) (dep:Nat) (k i:Nat) (p:Pg) (σ σ':List AObj):Prop:=Runs WkF (bodyE P H k) (rdN P dep) ((nName,.str (nmS i))::lsN p) (σ++[.gone]) (.ok .next) (lsN p) (σ'++[.gone])
theorem wkN (i:Nat):WkL [.inst 593 2,.str (nmS i)] [.inst 593 2,.ss (nmS i)]:=.cons (.refl _) (.cons .ss .nil)
noncomputable def pC (H:Hooks) (dep i:Nat) (p:Pg) (m m':MS) (ct:Str) (gs:List AObj) (r:List Prop):List Prop:=(dep≤500)::WkL [.inst 593 2,.str (nmS i)] [.inst 593 2,.ss (nmS i)]::WkS (hB p m 0) (hB p m 0)::Runs Weak (H.fn 826 [.inst 593 2,.ss (nmS i)]) (rdN P dep) [] (hB p m 0) (.ok (.ss ct)) [] (hB p m' 0++gs)::r
theorem pC_ok {H:Hooks} {dep i:Nat} {p:Pg} {m m':MS} {ct:Str} {gs:List AObj} {r:List Prop} (hd:dep≤400) (h:Spec (H.fn 826) [.inst 593 2,.ss (nmS i)] (hB p m 0) (.ok (.ss ct)) (hB p m' 0++gs) 480) (k:AllP r):AllP (pC P H dep i p m m' ct gs r):=⟨by omega,wkN i,.refl _,h _ _ (by omega),k⟩
variable (H:Hooks) (p:Pg) (m:MS) (tx:Str) (x:Int) (dep:Nat) (hd:dep≤400)
include hd
theorem chk0a (h1:decide (m.n0 > 0)=true) (h2:(m.n0 == 2)=true) (h3:m.fi.contains (nmS 0)=true) (hq:Spec (H.fn 826) [.inst 593 2,.ss (nmS 0)] (hB p {m with sp:=x} 0) (.ok (.ss (idleS 0))) (hB p {m with sp:=x+1} 0++[]) 480):BN P H dep 24 0 p (wB p {m with sp:=x} tx m) (wB p {m with sp:=x+1} tx m) :=
  Runs.ad WkF.refl [] [] nsN [.b true,.b true,.b true,.cut 10 [.inst 593 2,.ss (nmS 0)] (hB p {m with sp:=x} 0) (.ok (.ss (idleS 0))) (hB p {m with sp:=x+1} 0++[]),.b false] (((!seq (idleS 0) (idleS 0))=false)::pC P H dep 0 p {m with sp:=x} {m with sp:=x+1} (idleS 0) [] [(m.n0 == 2)=true,m.fi.contains (nmS 0)=true,decide (m.n0 > 0)=true]) (by kernel_rfl) ⟨by decide,pC_ok P hd hq ⟨h2,h3,h1,trivial⟩⟩
theorem chk0b (h1:decide (m.n0 > 0)=true) (h2:(m.n0 == 2)=false) (h3:m.fi.contains (nmS 0)=false) (hq:Spec (H.fn 826) [.inst 593 2,.ss (nmS 0)] (hB p {m with sp:=x} 0) (.ok (.ss (idleS 0))) (hB p {m with sp:=x+1} 0++[]) 480):BN P H dep 24 0 p (wB p {m with sp:=x} tx m) (wB p {m with sp:=x+1} tx m) :=
  Runs.ad WkF.refl [] [] nsN [.b true,.b false,.b false,.cut 10 [.inst 593 2,.ss (nmS 0)] (hB p {m with sp:=x} 0) (.ok (.ss (idleS 0))) (hB p {m with sp:=x+1} 0++[]),.b false] (((!seq (idleS 0) (idleS 0))=false)::pC P H dep 0 p {m with sp:=x} {m with sp:=x+1} (idleS 0) [] [(m.n0 == 2)=false,m.fi.contains (nmS 0)=false,decide (m.n0 > 0)=true]) (by kernel_rfl) ⟨by decide,pC_ok P hd hq ⟨h2,h3,h1,trivial⟩⟩
theorem chk0c (h1:decide (m.n0 > 0)=false) (h2:(m.n0 == 2)=false) (h3:m.fi.contains (nmS 0)=false) (hq:Spec (H.fn 826) [.inst 593 2,.ss (nmS 0)] (hB p {m with sp:=x} 0) (.ok (.ss (noneS 0))) (hB p {m with sp:=x} 0++(gones 3)) 480):BN P H dep 24 0 p (wB p {m with sp:=x} tx m) (wB p {m with sp:=x} tx m) :=
  Runs.ad WkF.refl [] [] nsN [.b false,.b false,.b false,.cut 10 [.inst 593 2,.ss (nmS 0)] (hB p {m with sp:=x} 0) (.ok (.ss (noneS 0))) (hB p {m with sp:=x} 0++(gones 3)),.b false] (((!seq (noneS 0) (noneS 0))=false)::pC P H dep 0 p {m with sp:=x} {m with sp:=x} (noneS 0) (gones 3) [(m.n0 == 2)=false,m.fi.contains (nmS 0)=false,decide (m.n0 > 0)=false]) (by kernel_rfl) ⟨by decide,pC_ok P hd hq ⟨h2,h3,h1,trivial⟩⟩
theorem chk1a (h1:decide (m.n1 > 0)=true) (h2:(m.n1 == 2)=true) (h3:m.fi.contains (nmS 1)=true) (hq:Spec (H.fn 826) [.inst 593 2,.ss (nmS 1)] (hB p {m with sp:=x} 0) (.ok (.ss (idleS 1))) (hB p {m with sp:=x+1} 0++[]) 480):BN P H dep 24 1 p (wB p {m with sp:=x} tx m) (wB p {m with sp:=x+1} tx m) :=
  Runs.ad WkF.refl [] [] nsN [.b true,.b true,.b true,.cut 10 [.inst 593 2,.ss (nmS 1)] (hB p {m with sp:=x} 0) (.ok (.ss (idleS 1))) (hB p {m with sp:=x+1} 0++[]),.b false] (((!seq (idleS 1) (idleS 1))=false)::pC P H dep 1 p {m with sp:=x} {m with sp:=x+1} (idleS 1) [] [(m.n1 == 2)=true,m.fi.contains (nmS 1)=true,decide (m.n1 > 0)=true]) (by kernel_rfl) ⟨by decide,pC_ok P hd hq ⟨h2,h3,h1,trivial⟩⟩
theorem chk1b (h1:decide (m.n1 > 0)=true) (h2:(m.n1 == 2)=false) (h3:m.fi.contains (nmS 1)=false) (hq:Spec (H.fn 826) [.inst 593 2,.ss (nmS 1)] (hB p {m with sp:=x} 0) (.ok (.ss (idleS 1))) (hB p {m with sp:=x+1} 0++[]) 480):BN P H dep 24 1 p (wB p {m with sp:=x} tx m) (wB p {m with sp:=x+1} tx m) :=
  Runs.ad WkF.refl [] [] nsN [.b true,.b false,.b false,.cut 10 [.inst 593 2,.ss (nmS 1)] (hB p {m with sp:=x} 0) (.ok (.ss (idleS 1))) (hB p {m with sp:=x+1} 0++[]),.b false] (((!seq (idleS 1) (idleS 1))=false)::pC P H dep 1 p {m with sp:=x} {m with sp:=x+1} (idleS 1) [] [(m.n1 == 2)=false,m.fi.contains (nmS 1)=false,decide (m.n1 > 0)=true]) (by kernel_rfl) ⟨by decide,pC_ok P hd hq ⟨h2,h3,h1,trivial⟩⟩
theorem chk1c (h1:decide (m.n1 > 0)=false) (h2:(m.n1 == 2)=false) (h3:m.fi.contains (nmS 1)=false) (hq:Spec (H.fn 826) [.inst 593 2,.ss (nmS 1)] (hB p {m with sp:=x} 0) (.ok (.ss (noneS 1))) (hB p {m with sp:=x} 0++(gones 3)) 480):BN P H dep 24 1 p (wB p {m with sp:=x} tx m) (wB p {m with sp:=x} tx m) :=
  Runs.ad WkF.refl [] [] nsN [.b false,.b false,.b false,.cut 10 [.inst 593 2,.ss (nmS 1)] (hB p {m with sp:=x} 0) (.ok (.ss (noneS 1))) (hB p {m with sp:=x} 0++(gones 3)),.b false] (((!seq (noneS 1) (noneS 1))=false)::pC P H dep 1 p {m with sp:=x} {m with sp:=x} (noneS 1) (gones 3) [(m.n1 == 2)=false,m.fi.contains (nmS 1)=false,decide (m.n1 > 0)=false]) (by kernel_rfl) ⟨by decide,pC_ok P hd hq ⟨h2,h3,h1,trivial⟩⟩
theorem chk2a (h1:decide (m.n2 > 0)=true) (h2:(m.n2 == 2)=true) (h3:m.fi.contains (nmS 2)=true) (hq:Spec (H.fn 826) [.inst 593 2,.ss (nmS 2)] (hB p {m with sp:=x} 0) (.ok (.ss (idleS 2))) (hB p {m with sp:=x+1} 0++[]) 480):BN P H dep 24 2 p (wB p {m with sp:=x} tx m) (wB p {m with sp:=x+1} tx m) :=
  Runs.ad WkF.refl [] [] nsN [.b true,.b true,.b true,.cut 10 [.inst 593 2,.ss (nmS 2)] (hB p {m with sp:=x} 0) (.ok (.ss (idleS 2))) (hB p {m with sp:=x+1} 0++[]),.b false] (((!seq (idleS 2) (idleS 2))=false)::pC P H dep 2 p {m with sp:=x} {m with sp:=x+1} (idleS 2) [] [(m.n2 == 2)=true,m.fi.contains (nmS 2)=true,decide (m.n2 > 0)=true]) (by kernel_rfl) ⟨by decide,pC_ok P hd hq ⟨h2,h3,h1,trivial⟩⟩
theorem chk2b (h1:decide (m.n2 > 0)=true) (h2:(m.n2 == 2)=false) (h3:m.fi.contains (nmS 2)=false) (hq:Spec (H.fn 826) [.inst 593 2,.ss (nmS 2)] (hB p {m with sp:=x} 0) (.ok (.ss (idleS 2))) (hB p {m with sp:=x+1} 0++[]) 480):BN P H dep 24 2 p (wB p {m with sp:=x} tx m) (wB p {m with sp:=x+1} tx m) :=
  Runs.ad WkF.refl [] [] nsN [.b true,.b false,.b false,.cut 10 [.inst 593 2,.ss (nmS 2)] (hB p {m with sp:=x} 0) (.ok (.ss (idleS 2))) (hB p {m with sp:=x+1} 0++[]),.b false] (((!seq (idleS 2) (idleS 2))=false)::pC P H dep 2 p {m with sp:=x} {m with sp:=x+1} (idleS 2) [] [(m.n2 == 2)=false,m.fi.contains (nmS 2)=false,decide (m.n2 > 0)=true]) (by kernel_rfl) ⟨by decide,pC_ok P hd hq ⟨h2,h3,h1,trivial⟩⟩
theorem chk2c (h1:decide (m.n2 > 0)=false) (h2:(m.n2 == 2)=false) (h3:m.fi.contains (nmS 2)=false) (hq:Spec (H.fn 826) [.inst 593 2,.ss (nmS 2)] (hB p {m with sp:=x} 0) (.ok (.ss (noneS 2))) (hB p {m with sp:=x} 0++(gones 3)) 480):BN P H dep 24 2 p (wB p {m with sp:=x} tx m) (wB p {m with sp:=x} tx m) :=
  Runs.ad WkF.refl [] [] nsN [.b false,.b false,.b false,.cut 10 [.inst 593 2,.ss (nmS 2)] (hB p {m with sp:=x} 0) (.ok (.ss (noneS 2))) (hB p {m with sp:=x} 0++(gones 3)),.b false] (((!seq (noneS 2) (noneS 2))=false)::pC P H dep 2 p {m with sp:=x} {m with sp:=x} (noneS 2) (gones 3) [(m.n2 == 2)=false,m.fi.contains (nmS 2)=false,decide (m.n2 > 0)=false]) (by kernel_rfl) ⟨by decide,pC_ok P hd hq ⟨h2,h3,h1,trivial⟩⟩
theorem chk3a (h1:decide (m.n3 > 0)=true) (h2:(m.n3 == 2)=true) (h3:m.fi.contains (nmS 3)=true) (hq:Spec (H.fn 826) [.inst 593 2,.ss (nmS 3)] (hB p {m with sp:=x} 0) (.ok (.ss (idleS 3))) (hB p {m with sp:=x+1} 0++[]) 480):BN P H dep 24 3 p (wB p {m with sp:=x} tx m) (wB p {m with sp:=x+1} tx m) :=
  Runs.ad WkF.refl [] [] nsN [.b true,.b true,.b true,.cut 10 [.inst 593 2,.ss (nmS 3)] (hB p {m with sp:=x} 0) (.ok (.ss (idleS 3))) (hB p {m with sp:=x+1} 0++[]),.b false] (((!seq (idleS 3) (idleS 3))=false)::pC P H dep 3 p {m with sp:=x} {m with sp:=x+1} (idleS 3) [] [(m.n3 == 2)=true,m.fi.contains (nmS 3)=true,decide (m.n3 > 0)=true]) (by kernel_rfl) ⟨by decide,pC_ok P hd hq ⟨h2,h3,h1,trivial⟩⟩
theorem chk3b (h1:decide (m.n3 > 0)=true) (h2:(m.n3 == 2)=false) (h3:m.fi.contains (nmS 3)=false) (hq:Spec (H.fn 826) [.inst 593 2,.ss (nmS 3)] (hB p {m with sp:=x} 0) (.ok (.ss (idleS 3))) (hB p {m with sp:=x+1} 0++[]) 480):BN P H dep 24 3 p (wB p {m with sp:=x} tx m) (wB p {m with sp:=x+1} tx m) :=
  Runs.ad WkF.refl [] [] nsN [.b true,.b false,.b false,.cut 10 [.inst 593 2,.ss (nmS 3)] (hB p {m with sp:=x} 0) (.ok (.ss (idleS 3))) (hB p {m with sp:=x+1} 0++[]),.b false] (((!seq (idleS 3) (idleS 3))=false)::pC P H dep 3 p {m with sp:=x} {m with sp:=x+1} (idleS 3) [] [(m.n3 == 2)=false,m.fi.contains (nmS 3)=false,decide (m.n3 > 0)=true]) (by kernel_rfl) ⟨by decide,pC_ok P hd hq ⟨h2,h3,h1,trivial⟩⟩
theorem chk3c (h1:decide (m.n3 > 0)=false) (h2:(m.n3 == 2)=false) (h3:m.fi.contains (nmS 3)=false) (hq:Spec (H.fn 826) [.inst 593 2,.ss (nmS 3)] (hB p {m with sp:=x} 0) (.ok (.ss (noneS 3))) (hB p {m with sp:=x} 0++(gones 3)) 480):BN P H dep 24 3 p (wB p {m with sp:=x} tx m) (wB p {m with sp:=x} tx m) :=
  Runs.ad WkF.refl [] [] nsN [.b false,.b false,.b false,.cut 10 [.inst 593 2,.ss (nmS 3)] (hB p {m with sp:=x} 0) (.ok (.ss (noneS 3))) (hB p {m with sp:=x} 0++(gones 3)),.b false] (((!seq (noneS 3) (noneS 3))=false)::pC P H dep 3 p {m with sp:=x} {m with sp:=x} (noneS 3) (gones 3) [(m.n3 == 2)=false,m.fi.contains (nmS 3)=false,decide (m.n3 > 0)=false]) (by kernel_rfl) ⟨by decide,pC_ok P hd hq ⟨h2,h3,h1,trivial⟩⟩
theorem chk (hC:CallsOk H p) (hr:Rel m) (i:Nat) (hi:i < 4):∃ x',BN P H dep 24 i p (wB p {m with sp:=x} tx m) (wB p {m with sp:=x'} tx m):=by
  have hT:=hC.t {m with sp:=x} i hi
  have hF:=hC.f {m with sp:=x} i hi
  unfold callT' at hT hF
  have hc:=hr.c i hi
  have hf:=hr.f i hi
  rw [List.contains_iff_mem.symm] at hc hf
  have hT:m.cm.contains (nmS i)=true→Spec (H.fn 826) [.inst 593 2,.ss (nmS i)] (hB p {m with sp:=x} 0) (.ok (.ss (idleS i))) (hB p {m with sp:=x+1} 0) 480:=fun h=>by
    have q:=hT h
    rw [show (({m with sp:=x}:MS).cm.contains (nmS i))=true from h] at q
    exact q
  have hF:m.cm.contains (nmS i)=false→Spec (H.fn 826) [.inst 593 2,.ss (nmS i)] (hB p {m with sp:=x} 0) (.ok (.ss (noneS i))) (hB p {m with sp:=x} 0++gones 3) 480:=fun h=>by
    have q:=hF h
    rw [show (({m with sp:=x}:MS).cm.contains (nmS i))=false from h] at q
    exact q
  rw [← List.append_nil (hB p {m with sp:=x+1} 0)] at hT
  have cA:∀ i,i < 4→0 < m.nm i→m.nm i=2→m.fi.contains (nmS i)=true→Spec (H.fn 826) [.inst 593 2,.ss (nmS i)] (hB p {m with sp:=x} 0) (.ok (.ss (idleS i))) (hB p {m with sp:=x+1} 0++[]) 480→BN P H dep 24 i p (wB p {m with sp:=x} tx m) (wB p {m with sp:=x+1} tx m):=all4 (fun a b=>chk0a P H p m tx x dep hd (decide_eq_true a) (beq_iff_eq.mpr b)) (fun a b=>chk1a P H p m tx x dep hd (decide_eq_true a) (beq_iff_eq.mpr b)) (fun a b=>chk2a P H p m tx x dep hd (decide_eq_true a) (beq_iff_eq.mpr b)) (fun a b=>chk3a P H p m tx x dep hd (decide_eq_true a) (beq_iff_eq.mpr b))
  have cB:∀ i,i < 4→0 < m.nm i→¬ m.nm i=2→m.fi.contains (nmS i)=false→Spec (H.fn 826) [.inst 593 2,.ss (nmS i)] (hB p {m with sp:=x} 0) (.ok (.ss (idleS i))) (hB p {m with sp:=x+1} 0++[]) 480→BN P H dep 24 i p (wB p {m with sp:=x} tx m) (wB p {m with sp:=x+1} tx m):=all4 (fun a b=>chk0b P H p m tx x dep hd (decide_eq_true a) (beq_eq_false_iff_ne.mpr b)) (fun a b=>chk1b P H p m tx x dep hd (decide_eq_true a) (beq_eq_false_iff_ne.mpr b)) (fun a b=>chk2b P H p m tx x dep hd (decide_eq_true a) (beq_eq_false_iff_ne.mpr b)) (fun a b=>chk3b P H p m tx x dep hd (decide_eq_true a) (beq_eq_false_iff_ne.mpr b))
  have cC:∀ i,i < 4→¬ 0 < m.nm i→¬ m.nm i=2→m.fi.contains (nmS i)=false→Spec (H.fn 826) [.inst 593 2,.ss (nmS i)] (hB p {m with sp:=x} 0) (.ok (.ss (noneS i))) (hB p {m with sp:=x} 0++gones 3) 480→BN P H dep 24 i p (wB p {m with sp:=x} tx m) (wB p {m with sp:=x} tx m):=all4 (fun a b=>chk0c P H p m tx x dep hd (decide_eq_false a) (beq_eq_false_iff_ne.mpr b)) (fun a b=>chk1c P H p m tx x dep hd (decide_eq_false a) (beq_eq_false_iff_ne.mpr b)) (fun a b=>chk2c P H p m tx x dep hd (decide_eq_false a) (beq_eq_false_iff_ne.mpr b)) (fun a b=>chk3c P H p m tx x dep hd (decide_eq_false a) (beq_eq_false_iff_ne.mpr b))
  have two:m.nm i=2→0 < m.nm i:=fun h=>by omega
  by_cases h1:0 < m.nm i
  · have hq:=hT (hc.mpr h1)
    by_cases h2:m.nm i=2
    · have h3:=hf.mpr h2
      exact ⟨_,cA i hi h1 h2 h3 hq⟩
    · have h3:m.fi.contains (nmS i)=false:=by rw [Bool.eq_false_iff];exact fun h=>h2 (hf.mp h)
      exact ⟨_,cB i hi h1 h2 h3 hq⟩
  · have h2:¬ m.nm i=2:=fun h=>h1 (two h)
    have hq:=hF (by rw [Bool.eq_false_iff];exact fun h=>h1 (hc.mp h))
    have h3:m.fi.contains (nmS i)=false:=by rw [Bool.eq_false_iff];exact fun h=>h2 (hf.mp h)
    exact ⟨_,cC i hi h1 h2 h3 hq⟩
omit hd
theorem chk_all (n:Nat) (hd:dep≤400) (hC:CallsOk (hk (tabs P) n) p) (hr:Rel m):∃ x',Runs WkF ((hk (tabs P) (n+1)).st (frS P 833 24)) (rdN P dep) (lsN p) (wB p m tx m++[.gone]) (.ok .next) (lsN p) (wB p {m with sp:=x'} tx m++[.gone]):=by
  obtain ⟨x1,h1⟩:=chk P (hk (tabs P) n) p m tx m.sp dep hd hC hr 0 (by decide)
  obtain ⟨x2,h2⟩:=chk P (hk (tabs P) n) p m tx x1 dep hd hC hr 1 (by decide)
  obtain ⟨x3,h3⟩:=chk P (hk (tabs P) n) p m tx x2 dep hd hC hr 2 (by decide)
  obtain ⟨x4,h4⟩:=chk P (hk (tabs P) n) p m tx x3 dep hd hC hr 3 (by decide)
  refine ⟨x4,?_⟩
  rw [st627]
  refine Fp.runs (v:=.fl [.str (nmS 0),.str (nmS 1),.str (nmS 2),.str (nmS 3)]) (vs:=[.str (nmS 0),.str (nmS 1),.str (nmS 2),.str (nmS 3)]) (.inr rfl) (by show dep≤500;omega) rfl (fun orc obl=>by kernel_rfl) ?_
  refine Fp.step (ls1:=(nName,.str (nmS 0))::lsN p) rfl (fun orc obl=>by kernel_rfl) (.refl _) h1 ?_
  refine Fp.step (ls1:=(nName,.str (nmS 1))::lsN p) rfl (fun orc obl=>by kernel_rfl) (.refl _) h2 ?_
  refine Fp.step (ls1:=(nName,.str (nmS 2))::lsN p) rfl (fun orc obl=>by kernel_rfl) (.refl _) h3 ?_
  refine Fp.step (ls1:=(nName,.str (nmS 3))::lsN p) rfl (fun orc obl=>by kernel_rfl) (.refl _) h4 ?_
  exact .done rfl
end
end T
namespace T
noncomputable def wBb (p:Pg) (mf:MS) (tx:Str) (s:MS) (bk:List (BK × AV)):List AObj:=mBb p mf 0 (.mut 11) (.ss tx) [] bk++wT s
theorem wB_bk {p:Pg} {mf:MS} {tx:Str} {s:MS} {bk:List (BK × AV)} (h:mf.ak.map (bkA p)=bk):wB p mf tx s=wBb p mf tx s bk:=by subst h;rfl
noncomputable def kP2 (b:Bool):BK:=(pT 2,b,sOf [58,58])
noncomputable def MS.spt (s:MS) (x:Int):MS:={s with sp:=x}
section
variable (P:Params) (H:Hooks) (p:Pg) (s:MS) (tx:Str) (x:Int) (dep:Nat)
noncomputable def R2 (p:Pg):List AV:=(rwA p 2).map avR
theorem wk2 (p:Pg):WkL [wV p,.int 2,.bool p.b] [wV p,.si (.ofNat 2),.bool p.b]:=.cons (.refl _) (.cons .si (.refl _))
theorem wkP (i:Nat):WkL [.inst 593 2,.str (nmS i),.ref 770] [.inst 593 2,.ss (nmS i),.ref 770]:=.cons (.refl _) (.cons .ss (.refl _))
theorem wkM (p:Pg):WkL [.inst 593 2,.str (pT 2),.bool p.b] [.inst 593 2,.ss (pT 2),.bool p.b]:=.cons (.refl _) (.cons .ss (.refl _))
noncomputable def pP (m m':MS) (i:Nat) (r:List Prop):List Prop:=(dep≤500)::WkL [.inst 593 2,.str (nmS i),.ref 770] [.inst 593 2,.ss (nmS i),.ref 770]::WkS (hB p m 0) (hB p m 0)::Runs Weak (H.fn 562 [.inst 593 2,.ss (nmS i),.ref 770]) (rdN P dep) [] (hB p m 0) (.ok .none) [] (hB p m' 0)::r
noncomputable def oP (m m':MS) (i:Nat):Orc:=.cut 10 [.inst 593 2,.ss (nmS i),.ref 770] (hB p m 0) (.ok .none) (hB p m' 0)
noncomputable def pH (bk:List (BK × AV)) (e e2:Int) (r:List Prop):List Prop:=((e != e2)=false)::((lkD bk (kP2 p.b)).getD .none=cdA p 2 e)::(dep+1≤600)::r
noncomputable def pA' (mf m s1:MS) (bk:List (BK × AV)) (r:List Prop):List Prop:=(dep≤500)::WkL [wV p,.int 2,.bool p.b] [wV p,.si (.ofNat 2),.bool p.b]::WkS (wBb p mf tx m bk) (wBb p mf tx m bk)::Runs Weak (H.fn 805 [wV p,.si (.ofNat 2),.bool p.b]) (rdN P dep) [] (wBb p mf tx m bk) (.ok (.si m.ep)) [] (wBb p mf tx s1 bk)::r
noncomputable def oA' (mf m s1:MS) (bk:List (BK × AV)):Orc:=.cut 18 [wV p,.si (.ofNat 2),.bool p.b] (wBb p mf tx m bk) (.ok (.si m.ep)) (wBb p mf tx s1 bk)
noncomputable def pM (mf:MS) (bk:List (BK × AV)) (r:List Prop):List Prop:=(bk.length≤1000000)::(dep+1≤600)::(dep+1≤500)::WkL [.inst 593 2,.str (pT 2),.bool p.b] [.inst 593 2,.ss (pT 2),.bool p.b]::WkS (hB p mf 0) (hB p mf 0)::Runs Weak (H.fn 763 [.inst 593 2,.ss (pT 2),.bool p.b]) ⟨sc230 P,none,dep+1,0⟩ [] (hB p mf 0) (.ok (.inst 324 14)) [] (hB p (logM mf 2 p.b) 0++mkT p mf 2)::r
noncomputable def oM (mf:MS):Orc:=.cut 10 [.inst 593 2,.ss (pT 2),.bool p.b] (hB p mf 0) (.ok (.inst 324 14)) (hB p (logM mf 2 p.b) 0++mkT p mf 2)
variable {P H p s tx x dep}
theorem pP_ok (hH:PutOk H p) (hd:dep≤400) {m:MS} (fm:Fit 50000 m) {i:Nat} (hi:i < 4) {r:List Prop} (h:AllP r):AllP (pP P H p dep m (m.put i) i r):=⟨by omega,wkP i,.refl _,hH m 0 i hi fm [] (.inl rfl) _ _ (by omega),h⟩
theorem pH_ok (hd:dep≤400) {bk:List (BK × AV)} {e e2:Int} (he:e=e2) (hk:lkD bk (kP2 p.b)=some (cdA p 2 e)) {r:List Prop} (h:AllP r):AllP (pH p dep bk e e2 r):=⟨by subst he;simp,by rw [hk];rfl,by omega,h⟩
theorem allC {q:Prop} {r:List Prop} (h:q) (k:AllP r):AllP (q::r):=⟨h,k⟩
theorem wBb_ak (p:Pg) (mf:MS) (tx:Str) (s:MS) (bk:List (BK × AV)) (a:List ((Nat × Bool) × Int)):wBb p {mf with ak:=a} tx s bk=wBb p mf tx s bk:=rfl
theorem pA_ok' (hA:AskOk H p) (hd:dep≤400) {mf m:MS} {bk:List (BK × AV)} {a:List ((Nat × Bool) × Int)} (hb:a.map (bkA p)=bk) (hm:MOk 1 m) {r:List Prop} (h:AllP r):AllP (pA' P H p tx dep mf m (m.ask 2 p.b) bk r):=by
  refine ⟨by omega,wk2 p,.refl _,?_,h⟩
  have q:=hA {mf with ak:=a} tx m 2 p.b (by decide) hm (sc833 P) dep (by omega)
  rw [wB_bk (mf:={mf with ak:=a}) hb,wB_bk (mf:={mf with ak:=a}) hb,wBb_ak,wBb_ak] at q
  exact q
theorem pM_ok (hM:MakerOk H p) (hd:dep≤400) {mf:MS} {bk:List (BK × AV)} (hb:bk.length≤1000000) (hm:mf.md.length≤1000000) {r:List Prop} (h:AllP r):AllP (pM P H p dep mf bk r):=⟨hb,by omega,by omega,wkM p,.refl _,hM mf 0 2 p.b (by decide) hm _ _ (by omega),h⟩
variable (P H p s tx x dep)
noncomputable abbrev bk0 (p:Pg) (s:MS):List (BK × AV):=s.ak.map (bkA p)
noncomputable abbrev bk1 (p:Pg) (s:MS):List (BK × AV):=putD (s.ak.map (bkA p)) (kP2 p.b) (cdA p 2 s.ep)
noncomputable def CHh (i:Nat):Prop:=AllP (pP P H p dep (s.spt x) ((s.spt x).put i) i (AEqs (R2 p) (R2 p)::(dep≤600)::pH p dep (bk0 p s) s.ep s.ep (((s.ep != s.ep)=false)::pA' P H p tx dep (s.spt x) s (s.ask 2 p.b) (bk0 p s) (pH p dep (bk0 p s) s.ep s.ep []))))→BN P H dep 25 i p (wBb p (s.spt x) tx s (bk0 p s)) (wBb p ((s.spt x).put i) tx ((s.ask 2 p.b).put i) (bk0 p s))
theorem ch0h:CHh P H p s tx x dep 0:=fun h1 =>
  Runs.ad WkF.refl [] [13] nsN [.v (cdA p 2 s.ep),.b false,oA' p tx (s.spt x) s (s.ask 2 p.b) (bk0 p s),.b false,.v (cdA p 2 s.ep),.b false,oP p (s.spt x) ((s.spt x).put 0) 0] _ (by kernel_rfl) h1
theorem ch1h:CHh P H p s tx x dep 1:=fun h1 =>
  Runs.ad WkF.refl [] [13] nsN [.v (cdA p 2 s.ep),.b false,oA' p tx (s.spt x) s (s.ask 2 p.b) (bk0 p s),.b false,.v (cdA p 2 s.ep),.b false,oP p (s.spt x) ((s.spt x).put 1) 1] _ (by kernel_rfl) h1
theorem ch2h:CHh P H p s tx x dep 2:=fun h1 =>
  Runs.ad WkF.refl [] [13] nsN [.v (cdA p 2 s.ep),.b false,oA' p tx (s.spt x) s (s.ask 2 p.b) (bk0 p s),.b false,.v (cdA p 2 s.ep),.b false,oP p (s.spt x) ((s.spt x).put 2) 2] _ (by kernel_rfl) h1
theorem ch3h:CHh P H p s tx x dep 3:=fun h1 =>
  Runs.ad WkF.refl [] [13] nsN [.v (cdA p 2 s.ep),.b false,oA' p tx (s.spt x) s (s.ask 2 p.b) (bk0 p s),.b false,.v (cdA p 2 s.ep),.b false,oP p (s.spt x) ((s.spt x).put 3) 3] _ (by kernel_rfl) h1
noncomputable def CHn (i:Nat):Prop:=AllP (pP P H p dep (logM (s.spt x) 2 p.b) ((logM (s.spt x) 2 p.b).put i) i (AEqs (R2 p) (R2 p)::(dep≤600)::pH p dep (bk1 p s) s.ep s.ep (((s.ep != s.ep)=false)::pA' P H p tx dep (logM (s.spt x) 2 p.b) s (s.ask 2 p.b) (bk1 p s) (pM P H p dep (s.spt x) (bk0 p s) (((lkD (bk0 p s) (kP2 p.b)).getD .none=.none)::(dep+1≤600)::[])))))→BN P H dep 25 i p (wBb p (s.spt x) tx s (bk0 p s)) (wBb p ((logM (s.spt x) 2 p.b).put i) tx ((s.ask 2 p.b).put i) (bk1 p s))
theorem ch0n:CHn P H p s tx x dep 0:=fun h1 =>
  Runs.ad WkF.refl [] [13] nsN [.v .none,oM p (s.spt x),oA' p tx (logM (s.spt x) 2 p.b) s (s.ask 2 p.b) (bk1 p s),.b false,.v (cdA p 2 s.ep),.b false,oP p (logM (s.spt x) 2 p.b) ((logM (s.spt x) 2 p.b).put 0) 0] _ (by kernel_rfl) h1
theorem ch1n:CHn P H p s tx x dep 1:=fun h1 =>
  Runs.ad WkF.refl [] [13] nsN [.v .none,oM p (s.spt x),oA' p tx (logM (s.spt x) 2 p.b) s (s.ask 2 p.b) (bk1 p s),.b false,.v (cdA p 2 s.ep),.b false,oP p (logM (s.spt x) 2 p.b) ((logM (s.spt x) 2 p.b).put 1) 1] _ (by kernel_rfl) h1
theorem ch2n:CHn P H p s tx x dep 2:=fun h1 =>
  Runs.ad WkF.refl [] [13] nsN [.v .none,oM p (s.spt x),oA' p tx (logM (s.spt x) 2 p.b) s (s.ask 2 p.b) (bk1 p s),.b false,.v (cdA p 2 s.ep),.b false,oP p (logM (s.spt x) 2 p.b) ((logM (s.spt x) 2 p.b).put 2) 2] _ (by kernel_rfl) h1
theorem ch3n:CHn P H p s tx x dep 3:=fun h1 =>
  Runs.ad WkF.refl [] [13] nsN [.v .none,oM p (s.spt x),oA' p tx (logM (s.spt x) 2 p.b) s (s.ask 2 p.b) (bk1 p s),.b false,.v (cdA p 2 s.ep),.b false,oP p (logM (s.spt x) 2 p.b) ((logM (s.spt x) 2 p.b).put 3) 3] _ (by kernel_rfl) h1
noncomputable def CHo (e:Int) (i:Nat):Prop:=AllP (pP P H p dep (logM (s.spt x) 2 p.b) ((logM (s.spt x) 2 p.b).put i) i (AEqs (R2 p) (R2 p)::(dep≤600)::pH p dep (bk1 p s) s.ep s.ep (((s.ep != s.ep)=false)::pA' P H p tx dep (logM (s.spt x) 2 p.b) s (s.ask 2 p.b) (bk1 p s) (pM P H p dep (s.spt x) (bk0 p s) (((e != s.ep)=true)::((lkD (bk0 p s) (kP2 p.b)).getD .none=cdA p 2 e)::(dep+1≤600)::[])))))→BN P H dep 25 i p (wBb p (s.spt x) tx s (bk0 p s)) (wBb p ((logM (s.spt x) 2 p.b).put i) tx ((s.ask 2 p.b).put i) (bk1 p s))
theorem ch0o (e:Int):CHo P H p s tx x dep e 0:=fun h1 =>
  Runs.ad WkF.refl [] [13] nsN [.v (cdA p 2 e),.b true,oM p (s.spt x),oA' p tx (logM (s.spt x) 2 p.b) s (s.ask 2 p.b) (bk1 p s),.b false,.v (cdA p 2 s.ep),.b false,oP p (logM (s.spt x) 2 p.b) ((logM (s.spt x) 2 p.b).put 0) 0] _ (by kernel_rfl) h1
theorem ch1o (e:Int):CHo P H p s tx x dep e 1:=fun h1 =>
  Runs.ad WkF.refl [] [13] nsN [.v (cdA p 2 e),.b true,oM p (s.spt x),oA' p tx (logM (s.spt x) 2 p.b) s (s.ask 2 p.b) (bk1 p s),.b false,.v (cdA p 2 s.ep),.b false,oP p (logM (s.spt x) 2 p.b) ((logM (s.spt x) 2 p.b).put 1) 1] _ (by kernel_rfl) h1
theorem ch2o (e:Int):CHo P H p s tx x dep e 2:=fun h1 =>
  Runs.ad WkF.refl [] [13] nsN [.v (cdA p 2 e),.b true,oM p (s.spt x),oA' p tx (logM (s.spt x) 2 p.b) s (s.ask 2 p.b) (bk1 p s),.b false,.v (cdA p 2 s.ep),.b false,oP p (logM (s.spt x) 2 p.b) ((logM (s.spt x) 2 p.b).put 2) 2] _ (by kernel_rfl) h1
theorem ch3o (e:Int):CHo P H p s tx x dep e 3:=fun h1 =>
  Runs.ad WkF.refl [] [13] nsN [.v (cdA p 2 e),.b true,oM p (s.spt x),oA' p tx (logM (s.spt x) 2 p.b) s (s.ask 2 p.b) (bk1 p s),.b false,.v (cdA p 2 s.ep),.b false,oP p (logM (s.spt x) 2 p.b) ((logM (s.spt x) 2 p.b).put 3) 3] _ (by kernel_rfl) h1
theorem chg (hA:AskOk H p) (hM:MakerOk H p) (hP:PutOk H p) (hd:dep≤400) (hm:MOk 3 s) (i:Nat) (hi:i < 4):BN P H dep 25 i p (wB p (s.spt x) tx s) (wB p (((s.ask 2 p.b).put i).spt x) tx ((s.ask 2 p.b).put i)):=by
  have hlk:=bk_lk (p:=p) (l:=2) (b:=p.b) (by decide) hm.ks
  have hlk:lkD (bk0 p s) (kP2 p.b)=(lkD s.ak (2,p.b)).map (fun e=>cdA p 2 e):=hlk
  have hpt:(putD s.ak (2,p.b) s.ep).map (bkA p)=bk1 p s:=bk_put (by decide) hm.ks
  have hbl:(bk0 p s).length≤1000000:=by have:=hm.ak;simp;omega
  have hmd:(s.spt x).md.length≤1000000:=by have:=hm.md;show s.md.length≤_;omega
  have hft:Fit 50000 (s.spt x):=⟨by have:=hm.cm;show s.cm.length≤_;omega,by have:=hm.fi;show s.fi.length≤_;omega⟩
  have hfl:Fit 50000 (logM (s.spt x) 2 p.b):=⟨hft.cm,hft.fi⟩
  have hhit:lkD (bk1 p s) (kP2 p.b)=some (cdA p 2 s.ep):=lkD_putD _ _ _
  have m1:MOk 1 s:=hm.le (by omega)
  rw [wB_bk (mf:=s.spt x) rfl]
  have key:∀ (S1:MS),s.ask 2 p.b=S1→S1={s with ak:=putD s.ak (2,p.b) s.ep,md:=s.md++[avM (2,p.b)]}→wB p (((s.ask 2 p.b).put i).spt x) tx ((s.ask 2 p.b).put i)=wBb p ((logM (s.spt x) 2 p.b).put i) tx ((s.ask 2 p.b).put i) (bk1 p s):=fun S1 e1 e2=>by
    rw [wB_bk (mf:=((s.ask 2 p.b).put i).spt x) (bk:=bk1 p s) (by rw [e1,e2];exact hpt),e1,e2]
    exact wBb_ak p ((logM (s.spt x) 2 p.b).put i) tx _ (bk1 p s) (putD s.ak (2,p.b) s.ep)
  cases q:lkD s.ak (2,p.b) with
  | none =>
    have e:s.ask 2 p.b={s with ak:=putD s.ak (2,p.b) s.ep,md:=s.md++[avM (2,p.b)]}:=by unfold MS.ask akOf;rw [q]
    rw [key _ e rfl]
    rw [q] at hlk
    have hall:=pP_ok (P:=P) hP hd hfl hi (allC (rwA_eq p 2) (allC (by omega:dep≤600) (pH_ok hd rfl hhit (allC (by simp:(s.ep != s.ep)=false) (pA_ok' (P:=P) (H:=H) (tx:=tx) (mf:=logM (s.spt x) 2 p.b) (m:=s) hA hd hpt m1 (pM_ok (P:=P) (mf:=s.spt x) hM hd hbl hmd (r:=[(lkD (bk0 p s) (kP2 p.b)).getD .none=.none,dep+1≤600]) ⟨by rw [hlk];rfl,by omega,trivial⟩))))))
    exact all4 (ch0n P H p s tx x dep) (ch1n P H p s tx x dep) (ch2n P H p s tx x dep) (ch3n P H p s tx x dep) i hi hall
  | some e0 =>
    rw [q] at hlk
    by_cases he:e0=s.ep
    · subst he
      have e:s.ask 2 p.b=s:=by unfold MS.ask akOf;rw [q];simp only [if_pos]
      have hk:lkD (bk0 p s) (kP2 p.b)=some (cdA p 2 s.ep):=hlk
      have e3:wB p (((s.ask 2 p.b).put i).spt x) tx ((s.ask 2 p.b).put i)=wBb p ((s.spt x).put i) tx ((s.ask 2 p.b).put i) (bk0 p s):=by rw [e];exact wB_bk rfl
      rw [e3]
      have hall:=pP_ok (P:=P) hP hd hft hi (allC (rwA_eq p 2) (allC (by omega:dep≤600) (pH_ok (e2:=s.ep) hd rfl hk (allC (by simp:(s.ep != s.ep)=false) (pA_ok' (P:=P) (H:=H) (tx:=tx) (mf:=s.spt x) (m:=s) (a:=s.ak) hA hd rfl m1 (pH_ok (e2:=s.ep) hd rfl hk (r:=[]) trivial))))))
      exact all4 (ch0h P H p s tx x dep) (ch1h P H p s tx x dep) (ch2h P H p s tx x dep) (ch3h P H p s tx x dep) i hi hall
    · have e:s.ask 2 p.b={s with ak:=putD s.ak (2,p.b) s.ep,md:=s.md++[avM (2,p.b)]}:=by unfold MS.ask akOf;rw [q];simp only [if_neg he]
      rw [key _ e rfl]
      have hk:lkD (bk0 p s) (kP2 p.b)=some (cdA p 2 e0):=hlk
      have hall:=pP_ok (P:=P) hP hd hfl hi (allC (rwA_eq p 2) (allC (by omega:dep≤600) (pH_ok hd rfl hhit (allC (by simp:(s.ep != s.ep)=false) (pA_ok' (P:=P) (H:=H) (tx:=tx) (mf:=logM (s.spt x) 2 p.b) (m:=s) hA hd hpt m1 (pM_ok (P:=P) (mf:=s.spt x) hM hd hbl hmd (r:=[(e0 != s.ep)=true,(lkD (bk0 p s) (kP2 p.b)).getD .none=cdA p 2 e0,dep+1≤600]) ⟨by simpa using he,by rw [hk];rfl,by omega,trivial⟩))))))
      exact all4 (ch0o P H p s tx x dep e0) (ch1o P H p s tx x dep e0) (ch2o P H p s tx x dep e0) (ch3o P H p s tx x dep e0) i hi hall
noncomputable def MS.chg (s:MS) (b:Bool) (i:Nat):MS:=(s.ask 2 b).put i
theorem MOk.chg {c:Nat} {s:MS} (h:MOk (c+2) s) (b:Bool) (i:Nat):MOk c (s.chg b i):=(MOk.ask (c:=c+1) h 2 b (by decide)).put i
noncomputable def MS.chgs (s:MS) (b:Bool):MS:=(((s.chg b 1).chg b 2).chg b 3).chg b 0
theorem chg_all (n:Nat) (hA:AskOk (hk (tabs P) n) p) (hM:MakerOk (hk (tabs P) n) p) (hP:PutOk (hk (tabs P) n) p) (hd:dep≤400) (hm:MOk 9 s):Runs WkF ((hk (tabs P) (n+1)).st (frS P 833 25)) (rdN P dep) (lsN p) (wB p (s.spt x) tx s++[.gone]) (.ok .next) (lsN p) (wB p ((s.chgs p.b).spt x) tx (s.chgs p.b)++[.gone]):=by
  have h1:=chg P (hk (tabs P) n) p s tx x dep hA hM hP hd (hm.le (by omega)) 1 (by decide)
  have m1:=MOk.chg (c:=7) hm p.b 1
  have h2:=chg P (hk (tabs P) n) p _ tx x dep hA hM hP hd (m1.le (by omega)) 2 (by decide)
  have m2:=MOk.chg (c:=5) m1 p.b 2
  have h3:=chg P (hk (tabs P) n) p _ tx x dep hA hM hP hd (m2.le (by omega)) 3 (by decide)
  have m3:=MOk.chg (c:=3) m2 p.b 3
  have h4:=chg P (hk (tabs P) n) p _ tx x dep hA hM hP hd (m3.le (by omega)) 0 (by decide)
  rw [st631]
  refine Fp.runs (v:=.fl [.str (nmS 1),.str (nmS 2),.str (nmS 3),.str (nmS 0)]) (vs:=[.str (nmS 1),.str (nmS 2),.str (nmS 3),.str (nmS 0)]) (.inr rfl) (by show dep≤500;omega) rfl (fun orc obl=>by kernel_rfl) ?_
  refine Fp.step (ls1:=(nName,.str (nmS 1))::lsN p) rfl (fun orc obl=>by kernel_rfl) (.refl _) h1 ?_
  refine Fp.step (ls1:=(nName,.str (nmS 2))::lsN p) rfl (fun orc obl=>by kernel_rfl) (.refl _) h2 ?_
  refine Fp.step (ls1:=(nName,.str (nmS 3))::lsN p) rfl (fun orc obl=>by kernel_rfl) (.refl _) h3 ?_
  refine Fp.step (ls1:=(nName,.str (nmS 0))::lsN p) rfl (fun orc obl=>by kernel_rfl) (.refl _) h4 ?_
  exact .done rfl
end
end T
namespace T
inductive Ad where
  | soft (ks:List Str)
  | kd (tab:List (Str × AV))
  | nd
  | bd
  | lt
  | ls
noncomputable def inS (x:Str):List Str→Bool:=memP (seq x)
noncomputable def sfK (ks:List Str):List (Str × AV)→List (Str × AV)
  | []=>[]
  | p::r=>(p.1,cond (inS p.1 ks) (sfV 8 p.2) p.2)::sfK ks r
noncomputable def edC (b x:AObj):AObj:=match b with
  | .ed=>x
  | b=>b
noncomputable def adO (a:Ad) (b:AObj):AObj:=match a with
  | .soft ks=>(match b with
    | .sd s es=>.sd s (sfK ks es)
    | b=>b)
  | .kd tab=>edC b (.kd [] tab)
  | .nd=>edC b (.nd [])
  | .bd=>edC b (.bd [])
  | .lt=>softO b
  | .ls=>(match b with
    | .list _ vs=>.list false (mapF (sfV 8) vs)
    | b=>b)
noncomputable def adAt (i:Nat):List (Nat × Ad)→Option Ad
  | []=>none
  | p::r=>cond (Nat.beq i p.1) (some p.2) (adAt i r)
noncomputable def adX (o:Option Ad) (b:AObj):AObj:=match o with
  | some a=>adO a b
  | none=>b
theorem sfK_rel {c:Cc} {ks:List Str} {es:List (Str × AV)} {y:List DictEntry} (r:SRels c es y):SRels c (sfK ks es) y:=r.ind (P:=fun es y=>SRels c (sfK ks es) y) .nil fun p _ e _ _ h1 h2 h3 _ ih=>.cons h1 h2 (by
  cases inS p.1 ks with
  | true=>exact wk_sf 8 _ _ _ h3
  | false=>exact h3) ih
theorem edC_wk {b x:AObj} (h:WkO .ed x):WkO b (edC b x):=by
  cases b with
  | ed=>exact h
  | _=>exact .refl _
theorem adO_wk (a:Ad) (b:AObj):WkO b (adO a b):=by
  cases a with
  | soft ks=>cases b with
    | sd s es=>exact fun _ _ _ ⟨ens,n,e,r⟩=>⟨ens,n,e,sfK_rel r⟩
    | _=>exact .refl _
  | kd tab=>exact edC_wk fun _ _ _ ⟨n,e⟩=>⟨#[],n,e,.nil⟩
  | nd=>exact edC_wk fun _ _ _ ⟨n,e⟩=>⟨#[],n,e,.nil,fun _ m=>nomatch m⟩
  | bd=>exact edC_wk fun _ _ _ ⟨n,e⟩=>⟨#[],n,e,.nil,(fun _ m=>nomatch m),.nil⟩
  | lt=>exact softO_wk b
  | ls=>cases b with
    | list s vs=>exact fun _ _ _ ⟨vals,n,e,r,_⟩=>⟨vals,n,e,(WkL.mapF (wk_sf 8) _).rel r,fun h=>no_tf h⟩
    | _=>exact .refl _
theorem adX_wk (o:Option Ad) (b:AObj):WkO b (adX o b):=by
  cases o with
  | some a=>exact adO_wk a b
  | none=>exact .refl b
theorem ads {I:List (Nat × Ad)} {a b:List AObj} (h:mapI (fun i=>adX (adAt i I)) 0 a=b):WkS a b:=h▸.mapI (fun i=>adX_wk (adAt i I)) 0 a
noncomputable def m00:MS:=⟨0,0,0,0,0,0,0,[],[],[],[],[]⟩
noncomputable def m01:MS:=((m00.add1 0).add1 1).add1 2
noncomputable def mS:MS:=m01.putw
noncomputable def mS3:MS:=mS.ask 0 false
noncomputable def nDeeds:Str:=sOf [100,101,101,100,115]
noncomputable def nPrograms:Str:=sOf [112,114,111,103,114,97,109,115]
noncomputable def nEffects:Str:=sOf [101,102,102,101,99,116,115]
noncomputable def nLog:Str:=sOf [108,111,103]
noncomputable def nTold:Str:=sOf [116,111,108,100]
noncomputable def lsT (p:Pg):List (Str × AV):=[(nMachine,.inst 296 10),(nHost,.inst 593 2),(nDeeds,.sl (ddA p)),(nPrograms,.mut 0),(nEffects,.mut 1),(nIsProc,.bool p.b),(nMade,.mut 9),(nLog,.mut 8)]
noncomputable def nsT:List Str:=[nMachine,nHost,nDeeds,nPrograms,nEffects,nIsProc,nMade,nLog]
noncomputable def lsT2 (p:Pg) (b:Bool) (x:Str):List (Str × AV):=(nTold,.tup [.bool b,.ss x])::lsT p
noncomputable def txF (b:Bool) (x:Str):Str:=match b with
  | true=>x
  | false=>sOf []
noncomputable def mBS (p:Pg) (m:MS):List AObj:=mB p m 0 (.mut 11) (.str (sOf [])) []
noncomputable def GShape (g:List AObj):Prop:=g=[]∨g=[.gone]∨g=[.gone,.gone,.gone]∨g=[.gone,.gone,.gone,.gone,.gone]
section
variable (P:Params)
theorem wkP0:WkL [.inst 593 2,.str (pT 0),.bool false] [.inst 593 2,.ss (pT 0),.bool false]:=.cons (.refl _) (.cons .ss (.refl _))
noncomputable def pT' (H:Hooks) (p:Pg) (dep:Nat) (r:Res AV) (σ:List AObj):List Prop:=(dep≤500)::WkL [.inst 296 10,cdA p 0 mS.ep] [.inst 296 10,cdA p 0 mS.ep]::WkS (mBS p mS3) (mBS p mS3)::Runs Weak (H.fn 307 [.inst 296 10,cdA p 0 mS.ep]) (rdN P dep) [] (mBS p mS3) r [] σ ::
  ((0:Nat)≤1000000)::(dep+1≤600)::(dep+1≤500)::WkL [.inst 593 2,.str (pT 0),.bool false] [.inst 593 2,.ss (pT 0),.bool false]::WkS (hB p mS 0) (hB p mS 0)::Runs Weak (H.fn 763 [.inst 593 2,.ss (pT 0),.bool false]) ⟨sc230 P,none,dep+1,0⟩ [] (hB p mS 0) (.ok (.inst 324 14)) [] (hB p (logM mS 0 false) 0++mkT p mS 0) ::
  (AV.none=AV.none)::(dep+1≤600)::[]
noncomputable def oT (p:Pg) (r:Res AV) (σ:List AObj):List Orc:=[.v .none,.cut 10 [.inst 593 2,.ss (pT 0),.bool false] (hB p mS 0) (.ok (.inst 324 14)) (hB p (logM mS 0 false) 0++mkT p mS 0),.cut 13 [.inst 296 10,cdA p 0 mS.ep] (mBS p mS3) r σ,.ns []]
theorem pT_ok' {H:Hooks} {p:Pg} {dep:Nat} {r:Res AV} {σ:List AObj} (hM:MakerOk H p) (hd:dep≤300) (h:Runs Weak (H.fn 307 [.inst 296 10,cdA p 0 mS.ep]) (rdN P dep) [] (mBS p mS3) r [] σ):AllP (pT' P H p dep r σ) :=
  ⟨by omega,.refl _,.refl _,h,by decide,by omega,by omega,wkP0,.refl _,hM mS 0 0 false (by decide) (by decide) _ _ (by omega),rfl,by omega,trivial⟩
theorem try_ok (H:Hooks) (p:Pg) (hM:MakerOk H p) (m':MS) (x:Str) (dep:Nat) (hd:dep≤300) (h:Runs Weak (H.fn 307 [.inst 296 10,cdA p 0 mS.ep]) (rdN P dep) [] (mBS p mS3) (.ok (.ss x)) [] (mB p m' 0 (.mut 11) (.ss x) []++gones 7)) :
    Runs WkF (stC (tabs P) (ev (tabs P) H 200) (frS P 833 18)) (rdN P dep) (lsT p) (mBS p mS) (.ok .next) (lsT2 p true x) (mB p m' 0 (.mut 11) (.ss x) []) :=
  Runs.ad WkF.refl [] [] (nTold::nsT) (oT p (.ok (.ss x)) (mB p m' 0 (.mut 11) (.ss x) []++gones 7)) (pT' P H p dep (.ok (.ss x)) (mB p m' 0 (.mut 11) (.ss x) []++gones 7)) (by kernel_rfl) (pT_ok' P hM hd h)
noncomputable def cE2 (p:Pg) (m':MS) (g:List AObj) (x:Str):List AObj:=mBS p m'++(gones 7++(g++[excO (21+g.length),excF x]))
theorem try_exc (H:Hooks) (p:Pg) (hM:MakerOk H p) (m':MS) (x:Str) (g:List AObj) (hg:GShape g) (dep:Nat) (hd:dep≤300) (h:Runs Weak (H.fn 307 [.inst 296 10,cdA p 0 mS.ep]) (rdN P dep) [] (mBS p mS3) (.exc (20+g.length)) [] (cE2 p m' g x)) :
    Runs WkF (stC (tabs P) (ev (tabs P) H 200) (frS P 833 18)) (rdN P dep) (lsT p) (mBS p mS) (.ok .next) (lsT2 p false x) (mB p m' 0 (.mut 11) (.ss (sOf [])) []):=by
  have wk:WkS (mBS p m') (mB p m' 0 (.mut 11) (.ss (sOf [])) []):=ads (I:=[(10,.soft [sOf [116,101,120,116]])]) (by kernel_rfl)
  rcases hg with rfl | rfl | rfl | rfl
  · exact (Runs.ad WkF.refl [] [] (nTold::nsT) (oT p (.exc 20) (cE2 p m' [] x)) (pT' P H p dep (.exc 20) (cE2 p m' [] x)) (by kernel_rfl) (pT_ok' P hM hd h)).postN (.refl _) wk
  · exact (Runs.ad WkF.refl [] [] (nTold::nsT) (oT p (.exc 21) (cE2 p m' [.gone] x)) (pT' P H p dep (.exc 21) (cE2 p m' [.gone] x)) (by kernel_rfl) (pT_ok' P hM hd h)).postN (.refl _) wk
  · exact (Runs.ad WkF.refl [] [] (nTold::nsT) (oT p (.exc 23) (cE2 p m' [.gone,.gone,.gone] x)) (pT' P H p dep (.exc 23) (cE2 p m' [.gone,.gone,.gone] x)) (by kernel_rfl) (pT_ok' P hM hd h)).postN (.refl _) wk
  · exact (Runs.ad WkF.refl [] [] (nTold::nsT) (oT p (.exc 25) (cE2 p m' [.gone,.gone,.gone,.gone,.gone] x)) (pT' P H p dep (.exc 25) (cE2 p m' [.gone,.gone,.gone,.gone,.gone] x)) (by kernel_rfl) (pT_ok' P hM hd h)).postN (.refl _) wk
theorem mS3_ok {c:Nat} (h:c≤19000):MOk c mS3:=⟨by show 4+c≤_;omega,by show 3+c≤_;omega,by show 0+c≤_;omega,by show 1+c≤_;omega,by show 1+c≤_;omega,by decide,fun e m=>by
  have h:mS3.ak=[((0,false),2)]:=rfl
  rw [h] at m
  rw [List.mem_singleton.mp m];decide⟩
theorem s_try (n:Nat) (p:Pg) (K:Hk (hk (tabs P) n) p) (hM:MakerOk (hk (tabs P) (n+2)) p) (w:Wf2 p) (dep:Nat) (hd:dep≤300) {b:Bool} {x:Str} {m':MS} (h:playL p (call0 p) mS.ep (p.prog 0) [] mS3=((b,x),m')) :
    Runs WkF ((hk (tabs P) (n+3)).st (frS P 833 18)) (rdN P dep) (lsT p) (mBS p mS) (.ok .next) (lsT2 p b x) (mB p m' 0 (.mut 11) (.ss (txF b x)) []):=by
  have q:=s_run P n p K w mS3 mS.ep (mS3_ok (by have:=w.b0;omega)) (sc833 P) dep hd
  rw [h] at q
  cases b with
  | true=>exact try_ok P _ p hM m' x dep hd q
  | false =>
    obtain ⟨g,hg,q⟩:=q
    exact try_exc P _ p hM m' x g hg dep hd q
end
end T
namespace T
noncomputable def pgF (S:List Int) (f sh:Int):Pg where
  prog:=fun l=>match l with
    | 0=>itsF S f sh 0 6
    | 1=>itsF S f sh 6 3
    | _=>itsF S f sh 9 2
  eff:=fun k=>match k with
    | 2=>((dig S (f+17)).fdiv 128+1).fmod 8
    | k=>(((dig S (f+17)).fdiv 2).fdiv (.ofNat (8 ^ k))).fmod 8
  deed:=fun j=>ddF (ddG S (f+11) j)
  b:=(dig S (f+17)).fmod 2 == 1
noncomputable def fd3:AV:=.fd [(nmS 0,.ref 770),(nmS 1,.ref 770),(nmS 2,.ref 770)]
noncomputable def oR (p:Pg) (S:List Int) (f sh:Int) (b:Bool) (x:Str) (m' m5:MS) (x5:Int):List Orc:=[.cut 0 [.sl (siL S),.si f,.int 0,.int 6,.si sh] [] (.ok (.mut 0)) [.list true (avL (p.prog 0))],.cut 0 [.sl (siL S),.si f,.int 6,.int 3,.si sh] [] (.ok (.mut 0)) [.list true (avL (p.prog 1))],.cut 0 [.sl (siL S),.si f,.int 9,.int 2,.si sh] [] (.ok (.mut 0)) [.list true (avL (p.prog 2))],
  .cut 0 [.sl (siL S),.si (f+11)] [] (.ok (.mut 0)) [.list true (ddA p)],.cut 0 [.sl (siL S),.si (f+17)] [] (.ok (.si (dig S (f+17)))) [],.b p.b,
  .cut 10 [.inst 593 2,fd3] (hB p m00 0) (.ok .none) (hB p m01 0),.cut 10 [.inst 593 2,.ss dW,.ref 777,wData p] (hB p m01 0) (.ok .none) (hB p mS 0),
  .stm (lsT p) (mBS p mS) (.ok .next) (lsT2 p b x) (mB p m' 0 (.mut 11) (.ss (txF b x)) []),
  .cut 18 [wV p,.si (.ofNat 0),.bool false] (wB p m' (txF b x) mS) (.ok (.si mS.ep)) (wB p m' (txF b x) mS3),
  .cut 18 [wV p,.sl (avL (p.prog 0)),.si (.ofNat 0),.si mS.ep] (wB p m' (txF b x) mS3) (.ok (outV (b,x))) (wB p m' (txF b x) m'++[.gone]),
  .b false,.b false,
  .stm (lsN p) (wB p m' (txF b x) m'++[.gone]) (.ok .next) (lsN p) (wB p (m'.spt x5) (txF b x) m'++[.gone]),
  .stm (lsN p) (wB p (m'.spt x5) (txF b x) m'++[.gone]) (.ok .next) (lsN p) (wB p (m5.spt x5) (txF b x) m5++[.gone]),
  .b true]
noncomputable def nK:Str:=sOf [107]
noncomputable def nDue:Str:=sOf [100,117,101]
noncomputable def lsA (p:Pg) (S:List Int) (f sh:Int):List (Str × AV):=[(nMachine,.inst 296 10),(nMade,.mut 9),(nLog,.mut 8),(nHost,.inst 593 2),(nK,.int 10),(nK,.int 9),(nK,.int 8),(nK,.int 7),(nK,.int 6),(nK,.int 5),(nK,.int 4),(nK,.int 3),(nK,.int 2),(nK,.int 1),(nK,.int 0),(nEffects,.mut 1),(nIsProc,.bool p.b),(nDigit,.si (dig S (f+17))),(nDeeds,.sl (ddA p)),(nPrograms,.mut 0),(nShift,.si sh),(nFirst,.si f),(nScript,.sl (siL S))]
noncomputable def lsD (p:Pg) (b:Bool) (x:Str):List (Str × AV):=(nDue,outV (b,x))::(nWorld,wV p)::(nNames,.mut 13)::lsT2 p b x
noncomputable def hA (p:Pg):List AObj:=[.list false [.sl (avL (p.prog 0)),.sl (avL (p.prog 1)),.sl (avL (p.prog 2))],.sd false (effE p),
  .sd false [((sOf [116,111,111,108,115]),.mut 3),((sOf [105,110,108,105,110,101]),.mut 4),((sOf [108,105,109,105,116]),.int 40),((sOf [102,117,101,108]),.none),((sOf [100,101,112,116,104]),.int 0),((sOf [115,112,101,110,116]),.int 0),((sOf [101,112,111,99,104]),.int 0),((sOf [102,114,97,109,101]),.none),((sOf [99,111,114,111,117,116,105,110,101]),.none),((sOf [118,97,114,115]),.mut 5),((sOf [99,111,109,109,97,110,100,115]),.mut 6),((sOf [102,105,114,115,116,115]),.mut 7)],
  .sd false [((sOf [108,97,119]),.tup [.mut 0,.mut 9]),((sOf [115,111,117,114,99,101]),.tup [.mut 1,.mut 8]),((sOf [114,117,110]),.ref 784)],
  .sd false [(nmS 0,.bool true),(nmS 2,.bool true)],.ed,.ed,.ed,.list false [],.list false []]
noncomputable def mcA (p:Pg):List AObj:=hB p mS 0++[
  .sd false [((sOf [104,111,115,116]),.inst 593 2),((sOf [111,112,115]),mOps),((sOf [109,97,107,101,114]),.ref 763),((sOf [97,99,116,115]),.mut 11),((sOf [98,111,111,107]),.mut 12),((sOf [112,97,117,115,101]),.none),((sOf [115,116,101,112,115]),.int 0),((sOf [116,101,120,116]),.str (sOf []))],
  .list false [],.ed]
noncomputable def wA (p:Pg) (m':MS) (tx:Str):List AObj:=mB p m' 0 (.mut 11) (.ss tx) []++[.sd false [(nmS 0,.int 2),(nmS 1,.int 2),(nmS 2,.int 2),(nmS 3,.int 0)],.list false [.int 2,.int 0],.list false [],.list false [],.ed]
theorem hA_wk (p:Pg):WkS (hA p) (hB p m00 0):=ads (I:=[(2,.soft [sOf [115,112,101,110,116],sOf [101,112,111,99,104]]),(6,.kd (cmTab p)),(7,.kd fiTab),(8,.lt),(9,.lt)]) (by kernel_rfl)
theorem mcA_wk (p:Pg):WkS (mcA p) (mBS p mS):=ads (I:=[(10,.soft [sOf [115,116,101,112,115]]),(12,.bd)]) (by kernel_rfl)
theorem wA_wk (p:Pg) (m':MS) (tx:Str):WkS (wA p m' tx) (wB p m' tx mS):=ads (I:=[(13,.soft [nmS 0,nmS 1,nmS 2,nmS 3]),(14,.ls),(15,.lt),(16,.lt),(17,.nd)]) (by kernel_rfl)
theorem mS_rel:Rel mS:=⟨by decide,by decide,by decide,by decide,.nil,.nil⟩
section
variable (P:Params)
noncomputable def pCut (f:List AV→EM AV) (dep:Nat) (as as0:List AV) (σ σ0:List AObj) (r:Res AV) (σ1:List AObj) (ps:List Prop):List Prop:=(dep≤500)::WkL as as0::WkS σ σ0::Runs Weak (f as0) (rdN P dep) [] σ0 r [] σ1::ps
noncomputable def pStm (m:EM AFlow) (dep:Nat) (ls ls0:List (Str × AV)) (σ σ0:List AObj) (ls1:List (Str × AV)) (σ1:List AObj) (ps:List Prop):List Prop:=(dep≤500)::WkLs ls ls0::WkS σ σ0::Runs WkF m (rdN P dep) ls0 σ0 (.ok .next) ls1 σ1::ps
theorem pCut_ok {f:List AV→EM AV} {dep d:Nat} {as as0:List AV} {σ σ0:List AObj} {r:Res AV} {σ1:List AObj} {ps:List Prop} (hd:dep≤250) (hl:250≤d) (h:Spec f as0 σ0 r σ1 d) (hw:WkL as as0) (hs:WkS σ σ0) (k:AllP ps):AllP (pCut P f dep as as0 σ σ0 r σ1 ps):=⟨by omega,hw,hs,h _ _ (by omega),k⟩
theorem pStm_ok {m:EM AFlow} {dep:Nat} {ls ls0:List (Str × AV)} {σ σ0:List AObj} {ls1:List (Str × AV)} {σ1:List AObj} {ps:List Prop} (hd:dep≤250) (h:Runs WkF m (rdN P dep) ls0 σ0 (.ok .next) ls1 σ1) (hw:WkLs ls ls0) (hs:WkS σ σ0) (k:AllP ps):AllP (pStm P m dep ls ls0 σ σ0 ls1 σ1 ps):=⟨by omega,hw,hs,h,k⟩
theorem wkW0 (p:Pg):WkL [wV p,.int 0,.bool false] [wV p,.si (.ofNat 0),.bool false]:=.cons (.refl _) (.cons .si (.refl _))
theorem wkW1 (p:Pg) (e:AV):WkL [wV p,.sl (avL (p.prog 0)),.int 0,e] [wV p,.sl (avL (p.prog 0)),.si (.ofNat 0),e]:=.cons (.refl _) (.cons (.refl _) (.cons .si (.refl _)))
theorem wkPw (v:AV):WkL [.inst 593 2,.str dW,.ref 777,v] [.inst 593 2,.ss dW,.ref 777,v]:=.cons (.refl _) (.cons .ss (.refl _))
noncomputable def pR (H:Hooks) (dep:Nat) (p:Pg) (S:List Int) (f sh:Int) (b:Bool) (x:Str) (m' m5:MS) (x5:Int):List Prop :=
  (((m5.spt x5).ep == m5.ep)=true)::AEqs (m5.spt x5).md m5.md::(dep≤600) ::
  pStm P (H.st (frS P 833 25)) dep (lsN p) (lsN p) (wB p (m'.spt x5) (txF b x) m'++[.gone]) (wB p (m'.spt x5) (txF b x) m'++[.gone]) (lsN p) (wB p (m5.spt x5) (txF b x) m5++[.gone])
  (pStm P (H.st (frS P 833 24)) dep (lsD p b x) (lsN p) (wB p m' (txF b x) m'++[.list false []]) (wB p m' (txF b x) m'++[.gone]) (lsN p) (wB p (m'.spt x5) (txF b x) m'++[.gone])
  (AEqs [] []::(dep≤600)::((m'.st != m'.st)=false)::((m'.ep != m'.ep)=false)::AEqs m'.md m'.md::(dep≤600)::AEqs m'.lg m'.lg::(dep≤600)::AEq0s [.bool b,.ss x] [.bool b,.ss x]::(dep≤600) ::
  pCut P (H.fn 819) dep [wV p,.sl (avL (p.prog 0)),.int 0,.si mS.ep] [wV p,.sl (avL (p.prog 0)),.si (.ofNat 0),.si mS.ep] (wB p m' (txF b x) mS3) (wB p m' (txF b x) mS3) (.ok (outV (b,x))) (wB p m' (txF b x) m'++[.gone])
  (pCut P (H.fn 805) dep [wV p,.int 0,.bool false] [wV p,.si (.ofNat 0),.bool false] (wA p m' (txF b x)) (wB p m' (txF b x) mS) (.ok (.si mS.ep)) (wB p m' (txF b x) mS3)
  (pStm P (H.st (frS P 833 18)) dep (lsA p S f sh) (lsT p) (mcA p) (mBS p mS) (lsT2 p b x) (mB p m' 0 (.mut 11) (.ss (txF b x)) [])
  (pCut P (H.fn 562) dep [.inst 593 2,.str dW,.ref 777,wData p] [.inst 593 2,.ss dW,.ref 777,wData p] (hB p m01 0) (hB p m01 0) (.ok .none) (hB p mS 0)
  (pCut P (H.fn 576) dep [.inst 593 2,fd3] [.inst 593 2,fd3] (hA p) (hB p m00 0) (.ok .none) (hB p m01 0)
  ((((dig S (f+17)).fmod 2 == 1)=p.b) ::
  pCut P (H.fn 728) dep [.sl (siL S),.si (f+17)] [.sl (siL S),.si (f+17)] [] [] (.ok (.si (dig S (f+17)))) []
  (pCut P (H.fn 749) dep [.sl (siL S),.si (f+11)] [.sl (siL S),.si (f+11)] [] [] (.ok (.mut 0)) [.list true (ddA p)]
  (pCut P (H.fn 742) dep [.sl (siL S),.si f,.int 9,.int 2,.si sh] [.sl (siL S),.si f,.int 9,.int 2,.si sh] [] [] (.ok (.mut 0)) [.list true (avL (p.prog 2))]
  (pCut P (H.fn 742) dep [.sl (siL S),.si f,.int 6,.int 3,.si sh] [.sl (siL S),.si f,.int 6,.int 3,.si sh] [] [] (.ok (.mut 0)) [.list true (avL (p.prog 1))]
  (pCut P (H.fn 742) dep [.sl (siL S),.si f,.int 0,.int 6,.si sh] [.sl (siL S),.si f,.int 0,.int 6,.si sh] [] [] (.ok (.mut 0)) [.list true (avL (p.prog 0))] [])))))))))))
noncomputable def all19:List Nat:=[0,1,2,3,4,5,6,7,8,9,10,11,12,13,14,15,16,17,18]
theorem round_eq (H:Hooks) (sc:Scope) (dep:Nat) (S:List Int) (f sh:Int) (b:Bool) (x:Str) (m' m5:MS) (x5:Int) (h:AllP (pR P H (dep+1) (pgF S f sh) S f sh b x m' m5 x5)):Runs Weak (F P H 833 [.sl (siL S),.si f,.si sh]) ⟨sc,none,dep,0⟩ [] [] (.ok (.bool true)) [] (gones 19) :=
  Runs.msk Weak.refl all19 [] (oR (pgF S f sh) S f sh b x m' m5 x5) (pR P H (dep+1) (pgF S f sh) S f sh b x m' m5 x5) (by kernel_rfl) rfl h
end
end T
namespace T
theorem pl_len {a c:Nat} (h:c < 11):slen (cat (sOf [a]) (intS (.ofNat c)))≤3:=by
  have h1:=slen_nmP true c h
  rw [nmP,slen_cat] at h1
  rw [slen_cat]
  exact h1
theorem fmod_lt' (x:Int) {k:Nat} (h:0 < k):(x.fmod (.ofNat k)).toNat < k:=by
  have hk:(0:Int) < .ofNat k:=Int.ofNat_lt.mpr h
  have h1:=Int.fmod_nonneg_of_pos x hk
  have h2:=Int.fmod_lt_of_pos x hk
  have e:=Int.toNat_of_nonneg h1
  rw [← e] at h2
  exact Int.ofNat_lt.mp h2
theorem j_lt (c:Nat) (D:Int):(jI c D).toNat < 6:=fmod_lt' _ (by decide)
theorem inI_wf {c:Nat} (h:c < 11):WfI (inI c):=⟨h,pl_len h,trivial⟩
theorem itF_wf {c:Nat} (h:c < 11) (D:Int):WfI (itF c D):=by
  unfold itF
  split
  · exact j_lt c D
  · exact ⟨h,pl_len h,trivial⟩
  · exact ⟨h,j_lt c D,inI_wf h,trivial⟩
  · exact ⟨h,(show slen (sOf [60])≤3 by decide),⟨h,fmod_lt' (jI c D+1) (k:=6) (by decide),(show slen (sOf [45])≤3 by decide),trivial⟩,j_lt c D,(show slen (sOf [62])≤3 by decide),trivial⟩
theorem itF_dp (c:Nat) (D:Int):dpI (itF c D)≤2:=by
  unfold itF
  split
  · show 0≤2;decide
  · show 1≤2;decide
  · show 2≤2;decide
  · show 2≤2;decide
theorem itF_sz (c:Nat) (D:Int):szI (itF c D)≤20:=by
  unfold itF
  split
  · show 4≤20;decide
  · show 3≤20;decide
  · show 9≤20;decide
  · show 15≤20;decide
theorem itF_w (C c:Nat) (D:Int):wI C (itF c D)≤41+2 * C:=by
  have e:2 * C=C+C:=Nat.two_mul C
  unfold itF
  split
  · show 8+C≤_
    rw [e]
    exact Nat.add_le_add (by decide) (Nat.le_add_left ..)
  · exact Nat.le_trans (by decide:8+(3+0)≤41) (Nat.le_add_right ..)
  · show 8+(8+C+(8+(3+0)+0))≤_
    rw [e,show 8+(8+C+(8+(3+0)+0))=27+C by omega]
    exact Nat.add_le_add (by decide) (Nat.le_add_left ..)
  · exact Nat.le_of_eq (by show 8+(3+((8+(8+C+(3+0)))+(8+C+(3+0))))=_;omega)
section
variable (S:List Int) (f sh:Int)
theorem its_wf:∀ n b,b+n≤11→WfL (itsF S f sh b n)
  | 0,_,_=>trivial
  | n+1,b,h=>⟨itF_wf (Nat.lt_of_lt_of_le (Nat.lt_add_of_pos_right (Nat.succ_pos n)) h) _,its_wf n (b+1) (Nat.add_right_comm b n 1▸h)⟩
theorem its_dp:∀ n b,dpL (itsF S f sh b n)≤2
  | 0,_=>Nat.zero_le _
  | n+1,b=>Nat.max_le.mpr ⟨itF_dp _ _,its_dp n (b+1)⟩
theorem its_sz:∀ n b,szL (itsF S f sh b n)≤n * 20
  | 0,_=>Nat.zero_le _
  | n+1,b=>Nat.succ_mul n 20▸Nat.add_comm (n * 20) 20▸Nat.add_le_add (itF_sz b (dgI S f sh b)) (its_sz n (b+1))
theorem its_w (C:Nat):∀ n b,wL C (itsF S f sh b n)≤n * (41+2 * C)
  | 0,_=>Nat.zero_le _
  | n+1,b=>Nat.succ_mul n (41+2 * C)▸Nat.add_comm (n * (41+2 * C)) (41+2 * C)▸Nat.add_le_add (itF_w C b (dgI S f sh b)) (its_w C n (b+1))
theorem srt_lt:∀ r,srtF r < 5:=fun r=>by
  unfold srtF
  split<;>decide
theorem srt3 {r:Nat} (h:srtF r=3):r≤4:=by
  unfold srtF at h
  split at h<;>first | omega | (exact absurd h (by decide))
theorem b1_le {a b:Nat} (h:a≤82) (k:b≤3 * (41+2 * a)):b≤615:=Nat.le_trans k (Nat.mul_le_mul_left 3 (Nat.add_le_add_left (Nat.mul_le_mul_left 2 h) 41))
theorem b0_le {a b c:Nat} (h:a≤82) (h1:b≤615) (k:c≤6 * (41+2 * max b a)):c≤10000:=Nat.le_trans k (Nat.le_trans (Nat.mul_le_mul_left 6 (Nat.add_le_add_left (Nat.mul_le_mul_left 2 (Nat.max_le.mpr ⟨h1,Nat.le_trans h (by decide)⟩)) 41)) (by decide))
theorem to_le {x:Int} (q:(x.fmod (.ofNat 6)).toNat≤4):x.fmod 6 - 2≤2:=by
  have e:=Int.toNat_of_nonneg (Int.fmod_nonneg_of_pos x (show (0:Int) < 6 by decide))
  have q:(x.fmod 6).toNat≤4:=q
  omega
theorem pg_wf:Wf2 (pgF S f sh):=by
  have h2:b2 (pgF S f sh)≤82:=its_w S f sh 0 2 9
  have h1:b1 (pgF S f sh)≤615:=b1_le h2 (its_w S f sh (b2 (pgF S f sh)) 3 6)
  exact ⟨⟨all3 (Q:=fun l=>WfL ((pgF S f sh).prog l)) (its_wf S f sh 6 0 (by decide)) (its_wf S f sh 3 6 (by decide)) (its_wf S f sh 2 9 (by decide)),all3 (Q:=fun l=>dpL ((pgF S f sh).prog l)≤2) (its_dp S f sh 6 0) (its_dp S f sh 3 6) (its_dp S f sh 2 9),
    all3 (Q:=fun l=>szL ((pgF S f sh).prog l)≤1000) (leL (its_sz S f sh 6 0) rfl) (leL (its_sz S f sh 3 6) rfl) (leL (its_sz S f sh 2 9) rfl),fun j hs=>to_le (srt3 hs),fun j=>fmod_lt' _ (k:=4) (by decide),fun j=>srt_lt _⟩,
    b0_le h2 h1 (its_w S f sh (max (b1 (pgF S f sh)) (b2 (pgF S f sh))) 6 0),leL h1 rfl,leL h2 rfl⟩
end
section
variable (P:Params)
theorem up {P:Params} {n:Nat} {a:Addr} {as:List AV} {σ:List AObj} {r:Res AV} {σ':List AObj} {d:Nat} (h:Spec (F P (hk (tabs P) n) a) as σ r σ' d):Spec ((hk (tabs P) (n+1)).fn a) as σ r σ' d:=h
theorem del_all (p:Pg) (n:Nat):DelOk (hk (tabs P) (n+1)) p:=fun m' dp i hi fm=>up (s_del P _ p m' dp i hi fm)
theorem put_all (p:Pg) (n:Nat):PutOk (hk (tabs P) (n+2)) p:=fun m' dp i hi fm t ht=>up (s_put P _ p (del_all P p n) m' dp i hi fm t ht)
theorem add_all (p:Pg) (n:Nat):AddOk (hk (tabs P) (n+3)) p:=⟨fun m' dp i hi fm=>up (s_add2 P _ p (put_all P p n) m' dp i hi fm),fun m' dp fm=>up (s_add1 P _ p (put_all P p n) m' dp fm),fun m' dp fm=>up (s_add3 P _ p (put_all P p n) m' dp fm)⟩
theorem delw_all (p:Pg) (n:Nat):DelwOk (hk (tabs P) (n+1)) p:=fun m' dp fm=>up (s_delw P _ p m' dp fm)
theorem putw_all (p:Pg) (n:Nat):PutwOk (hk (tabs P) (n+2)) p:=fun m' dp fm=>up (s_putw P _ p (delw_all P p n) m' dp fm)
theorem src_all (p:Pg) (n:Nat):SrcOk (hk (tabs P) (n+3)) p:=fun m' dp t k hk fm hl=>s_src P _ p (del_all P p (n+1)) (put_all P p n) m' dp t k hk fm hl
theorem rows_all (p:Pg):∀ D,D≤10→∀ n,RowsOk (hk (tabs P) (n+2 * D+2)) p D
  | D,hD,n=>fun m' dp l its R hl h1 h2 h3=>up (s_rows P (n+2 * D) p D (fun d e=>by subst e;exact rows_all p d (Nat.le_of_succ_le hD) n) m' dp l its R hl h1 h2 h3 hD)
theorem maker_all (p:Pg) (w:WfPg p) (n:Nat):MakerOk (hk (tabs P) (n+7)) p:=fun m' dp l b hl hm=>up (s_maker P _ p w (rows_all P p 2 (by decide) n) m' dp l b hl hm)
theorem deed_all (p:Pg) (w:WfPg p) (n:Nat):DeedOk (hk (tabs P) (n+4)) p:=fun m' dp j lev hj hl fm hm=>s_deed P _ p w (del_all P p (n+2)) (put_all P p (n+1)) (add_all P p n) m' dp j lev hj hl fm hm
theorem calls_all (p:Pg) (n:Nat):CallsOk (hk (tabs P) (n+1)) p:=⟨fun m' i hi h=>up (s_callT P _ p m' i hi h),fun m' i hi h=>up (s_callF P _ p m' i hi h)⟩
theorem dig_all (S:List Int) (hS:S.length≤100000) (n:Nat):DigOk (hk (tabs P) (n+1)) S:=fun i h0 h1=>up (s_dig P _ S hS i h0 h1)
theorem deeds_all (S:List Int) (hS:S.length≤100000) (n:Nat):DeedsOk (hk (tabs P) (n+2)) S:=fun f h0 h1=>up (s_deeds P (hk (tabs P) (n+1)) S (dig_all P S hS n) f h0 h1)
theorem items0_all (S:List Int) (hS:S.length≤100000) (n:Nat):ItemsOk (hk (tabs P) (n+2)) S 0 6:=fun f sh h0 h1=>up (s_items0 P n S (dig_all P S hS n) f sh h0 h1)
theorem items6_all (S:List Int) (hS:S.length≤100000) (n:Nat):ItemsOk (hk (tabs P) (n+2)) S 6 3:=fun f sh h0 h1=>up (s_items6 P n S (dig_all P S hS n) f sh h0 h1)
theorem items9_all (S:List Int) (hS:S.length≤100000) (n:Nat):ItemsOk (hk (tabs P) (n+2)) S 9 2:=fun f sh h0 h1=>up (s_items9 P n S (dig_all P S hS n) f sh h0 h1)
theorem up0 {f:Int} (h:0≤f) (k:Nat):0≤f+(k:Int):=Int.add_nonneg h (Int.natCast_nonneg k)
theorem upK {f:Int} (h:f < 800) {k c:Int} (e:800+k≤c):f+k < c:=Int.lt_of_lt_of_le (Int.add_lt_add_right h k) e
theorem s_round (S:List Int) (hS:S.length≤100000) (f sh:Int) (h0:0≤f) (h1:f < 800):Spec ((hk (tabs P) 60).fn 833) [.sl (siL S),.si f,.si sh] [] (.ok (.bool true)) (gones 19) 200:=fun sc dep hd=>by
  have w:=pg_wf S f sh
  have hf:f < 900:=Int.lt_trans h1 (by decide)
  have hall:∃ b x m' m5 x5,AllP (pR P (hk (tabs P) 59) (dep+1) (pgF S f sh) S f sh b x m' m5 x5):=by
    generalize hp:pgF S f sh=p at w
    have d1:dep+1≤250:=leP hd rfl
    have d6:dep+1≤600:=leP hd rfl
    have K:Hk (hk (tabs P) 56) p:=⟨deed_all P p w.toWfPg 52,src_all P p 53,maker_all P p w.toWfPg 49⟩
    have hok:=playL_ok (p:=p) (ok0 w.toWfPg) mS.ep (p.prog 0) 9 [] mS3 (w.wf 0 (by decide)) (mS3_ok (Nat.le_trans (Nat.add_le_add_left w.b0 9) (by decide)))
    have hrel:=playL_rel (p:=p) (rel0 w.toWfPg) mS.ep (p.prog 0) [] mS3 (mS_rel.ask 0 false)
    have hpl:=fun mf tx=>play0 P p w w.dp 37 mf tx (p.prog 0) mS.ep mS3 (w.dp 0 (by decide)) (w.wf 0 (by decide)) (mS3_ok (leL w.b0 rfl))
    have htry:=fun {b x m'} h=>s_try P 56 p K (maker_all P p w.toWfPg 51) w (dep+1) (leP hd rfl) (b:=b) (x:=x) (m':=m') h
    generalize hq:playL p (call0 p) mS.ep (p.prog 0) [] mS3=out at hpl hok hrel htry
    obtain ⟨⟨b,x⟩,m'⟩:=out
    obtain ⟨x5,hchk⟩:=chk_all P p m' (txF b x) (dep+1) 58 (leP hd rfl) (calls_all P p 57) hrel
    have hchg:=chg_all P p m' (txF b x) x5 (dep+1) 58 (world_ok P p 57).ask (maker_all P p w.toWfPg 51) (put_all P p 56) (leP hd rfl) (hok.1)
    have hrel5:Rel (m'.chgs p.b):=((((((hrel.ask _ _).put (i:=1) (by decide)).ask _ _).put (i:=2) (by decide)).ask _ _).put (i:=3) (by decide)).ask _ _ |>.put (i:=0) (by decide)
    refine ⟨b,x,m',m'.chgs p.b,x5,?_⟩
    delta pR
    refine allC (beq_self_eq_true _:((m'.chgs p.b).ep == (m'.chgs p.b).ep)=true) (allC hrel5.md (allC d6 ?_))
    refine pStm_ok P d1 hchg (.refl _) (.refl _) (pStm_ok P d1 hchk (WkLs.pick _ nsN) (.snoc (.refl _) (.gone _)) ?_)
    refine allC .nil (allC d6 (allC (bne_self_eq_false _) (allC (bne_self_eq_false _) (allC hrel.md (allC d6 (allC hrel.lg (allC d6 (allC (.cons (.bool b) (.cons (.str rfl rfl) .nil)) (allC d6 ?_)))))))))
    refine pCut_ok P d1 (by decide:250≤260) (hpl m' (txF b x)) (wkW1 p _) (.refl _) ?_
    refine pCut_ok P d1 (by decide:250≤450) ((world_ok P p 58).ask m' (txF b x) mS 0 false (by decide) ⟨by decide,by decide,by decide,by decide,by decide,by decide,fun e m=>nomatch m⟩) (wkW0 p) (wA_wk p m' _) ?_
    refine pStm_ok P d1 (htry rfl) (WkLs.pick _ nsT) (mcA_wk p) ?_
    refine pCut_ok P d1 (by decide:250≤490) (putw_all P p 57 m01 0 ⟨by decide,by decide⟩) (wkPw _) (.refl _) ?_
    refine pCut_ok P d1 (by decide:250≤480) ((add_all P p 56).2.2 m00 0 ⟨by decide,by decide⟩) (.refl _) (hA_wk p) ?_
    subst hp
    refine allC rfl ?_
    refine pCut_ok P d1 (by decide:250≤480) (dig_all P S hS 58 (f+17) (up0 h0 17) (upK h1 (by decide))) (.refl _) (.refl _) ?_
    refine pCut_ok P d1 (by decide:250≤470) (deeds_all P S hS 57 (f+11) (up0 h0 11) (upK h1 (by decide))) (.refl _) (.refl _) ?_
    refine pCut_ok P d1 (by decide:250≤470) (items9_all P S hS 57 f sh h0 hf) (.refl _) (.refl _) ?_
    refine pCut_ok P d1 (by decide:250≤470) (items6_all P S hS 57 f sh h0 hf) (.refl _) (.refl _) ?_
    exact pCut_ok P d1 (by decide:250≤470) (items0_all P S hS 57 f sh h0 hf) (.refl _) (.refl _) trivial
  obtain ⟨b,x,m',m5,x5,h⟩:=hall
  exact round_eq P _ sc dep S f sh b x m' m5 x5 h
end
end T
namespace T
section
variable (P:Params)
noncomputable def pL (H:Hooks) (dep:Nat) (S:List Int) (f sh:Int) (ps:List Prop):List Prop:=(dep≤500)::WkL [.sl (siL S),.int f,.int sh] [.sl (siL S),.si f,.si sh]::WkS [] []::Runs Weak (H.fn 833 [.sl (siL S),.si f,.si sh]) ⟨(fdOf (KP P) 840).scope,none,dep,0⟩ [] [] (.ok (.bool true)) [] (gones 19)::ps
noncomputable def oL (S:List Int) (f sh:Int):Orc:=.cut 0 [.sl (siL S),.si f,.si sh] [] (.ok (.bool true)) (gones 19)
theorem s_law (S:List Int) (hS:S.length≤100000):Runs Weak (F P (hk (tabs P) 60) 840 [.sl (siL S)]) ⟨(fdOf (KP P) 840).scope,none,0,0⟩ [] [] (.ok (.bool true)) [] []:=by
  have one:∀ f sh:Int,0≤f→f < 800→∀ ps,AllP ps→AllP (pL P (hk (tabs P) 60) 1 S f sh ps):=fun f sh h0 h1 ps h=>⟨by decide,.cons (.refl _) (.cons .si (.cons .si .nil)),.refl _,s_round P S hS f sh h0 h1 _ _ (by decide),h⟩
  exact Runs.msk Weak.refl [] [] [oL S 0 1,oL S 18 6,oL S 36 11] (pL P (hk (tabs P) 60) 1 S 36 11 (pL P (hk (tabs P) 60) 1 S 18 6 (pL P (hk (tabs P) 60) 1 S 0 1 []))) (by kernel_rfl) rfl (one 36 11 (by decide) (by decide) _ (one 18 6 (by decide) (by decide) _ (one 0 1 (by decide) (by decide) _ trivial)))
end
end T
open PySem PySem.W PyProof.Rows
namespace T
noncomputable def qL:Program:={pw with main:={pw.main with body:=pw.main.body.drop 69}}
noncomputable def looseL:List Str:=pw.boundNames.filter fun n=>!(n == ("law" : Str))
noncomputable def XtL:Shared→Bool:=fun s=>xlAt qL [] s && recOk [] s
theorem asK_ok (P:Params):asK=(KP P).map (·.1):=by kernel_rfl
noncomputable def fnsQ:Fns:=⟨PySem.W.Fast.tw14364793385576792824,PySem.W.Fast.tw6613529449190102663,PySem.W.Fast.tw10156331382660048174,PySem.W.Fast.tw11892475500146522536,PySem.W.Fast.tw10274390034422433532,PySem.W.Fast.tw14289696077712309145,PySem.W.Fast.tw5923862056798008813,PySem.W.Fast.tw8920871248978507458⟩
theorem fns_eq:fnsM=fnsQ:=by
  unfold fnsM fnsQ
  rewrite [PySem.W.Fast.te14364793385576792824,PySem.W.Fast.te6613529449190102663,PySem.W.Fast.te10156331382660048174,PySem.W.Fast.te11892475500146522536,PySem.W.Fast.te10274390034422433532,PySem.W.Fast.te14289696077712309145,PySem.W.Fast.te5923862056798008813,PySem.W.Fast.te8920871248978507458]
  rfl
theorem lookQ (w:World):allT fnsQ PySem.W.Fast.tw4187177175401517315 pw qL looseL XtL asK w 6000 5700 11 (some (.ref 6))=some (some (.ref 6),true,true,openGood qL looseL,(KP w.params).map fun p=>some p.2):=by kernel_rfl
theorem seen_eq:@openSeen=PySem.W.Fast.tw4187177175401517315:=PySem.W.Fast.te4187177175401517315
theorem look (w:World):allT fnsM openSeen pw qL looseL XtL asK w 6000 5700 11 (some (.ref 6))=some (some (.ref 6),true,true,openGood qL looseL,(KP w.params).map fun p=>some p.2):=fns_eq▸seen_eq▸lookQ w
theorem left:LeftO pw qL looseL XtL (kHook KP asK asK_ok).obs (kHook KP asK asK_ok).val 6000:=left_one rfl look
end T
open PySem PySem.W PyProof.Rows
namespace T
theorem saidQ:PySem.W.Fast.tw9446332074065402090 PySem.Challenge.rw_np0143_01=true:=by kernel_rfl
theorem said:PySem.Challenge.rw_np0143_01.wellSaid=true:=(congrFun PySem.W.Fast.te9446332074065402090 PySem.Challenge.rw_np0143_01).trans saidQ
end T
open PySem PySem.W PyProof.Rows
namespace T
noncomputable abbrev rowL:OpenRow:=PySem.Challenge.rw_np0143_01.row
noncomputable def dOf:Stmt→DefRec
  | .FunctionDef n a b _ _ _ sc _ _ pos=>⟨n,a,b,sc,pos⟩
  | _=>⟨⟨⟨[]⟩⟩,default,[],default,default⟩
noncomputable def dL:DefRec:=dOf (match qL.main.body with
  | s::_=>s
  | _=>.Pass default)
theorem hdef:defOf qL rowL.name=some (dL,[]):=by kernel_rfl
theorem hpL:rowL.prog.theDef rowL.name=some (dL.params,dL.body,dL.scope):=by kernel_rfl
theorem hkL:kwWritten? dL.params.kwonlyargs dL.params.kw_defaults=some []:=by kernel_rfl
theorem okL:(chainsOk qL && opensWell rowL.prog && (frees rowL.toRowW && rowL.within.isEmpty))=true:=by kernel_rfl
theorem dname:dL.name=⟨⟨[108,97,119]⟩⟩:=by kernel_rfl
theorem hd (walk:WalkO qL looseL (XL qL []) (kHook KP asK asK_ok).says rowL.toRowW dL [] (fun f vs=>PySem.call f vs)):PySem.Challenge.rw_np0143_01.Holds :=
  holds_law said fun k1=>holds_open (q:=qL) (loose:=looseL) (Xt:=fun s=>xlAt qL [] s && recOk (RowW.records rowL.toRowW) s) (XP:=XL qL []) (Yf:=(kHook KP asK asK_ok).obs) (Ya:=(kHook KP asK asK_ok).val) (YP:=(kHook KP asK asK_ok).says) (N:=6000) left
    (kHook KP asK asK_ok).of (kHook KP asK asK_ok).keeps (fun s e=>xl_of s (Bool.and_eq_true_iff.mp e).1) XL.keeps hdef hpL hkL (fun s e=>recFacts_of (Bool.and_eq_true_iff.mp e).2) rfl k1 okL ⟨rfl,rfl,rfl,rfl,rfl,by decide +kernel⟩ (by w_witness2) walk
end T
namespace T
theorem ints_rel {P:Params} {h:Heap} {c:Cc} {xs:List Int}:∀ {vs:List Value},WellAll P h vs (ofPys (xs.map PyData.int))→VRels c (siL xs) vs:=by
  induction xs with
  | nil=>intro _ w;cases w;exact .nil
  | cons x r ih =>
    intro _ w
    have w:WellAll P h _ (WData.int x::ofPys (r.map PyData.int)):=w
    cases w with | cons w1 w2 =>
    cases w1
    exact .cons (.si _ _) (ih w2)
theorem siL_cl (xs:List Int):∀ v∈siL xs,Cl v:=by
  induction xs with
  | nil=>exact fun _ m=>nomatch m
  | cons x r ih=>exact fun v m=>(List.mem_cons.mp m).elim (fun e=>e▸⟨1,rfl⟩) (ih v)
theorem script_rel {P:Params} {h:Heap} {c:Cc} (hG:∀ a o,h.get? a=some o→c.G a=some o) {xs:List Int} {l:Addr} (w:Well P h (.ref l) (ofPy (PyData.list (xs.map PyData.int)))):VRel c (.sl (siL xs)) (.ref l):=by
  have w:Well P h (.ref l) (WData.list (ofPys (xs.map PyData.int))):=w
  cases w with | list e w=>exact .sl (hG _ _ e) (ints_rel w) (siL_cl xs)
theorem WkR.okOf {α:Type} {W:α→α→Prop} {σ σ':List AObj} {r:Res α} {b:α} (h:WkR W σ σ' r (.ok b)):∃ a,r=.ok a∧W a b:=by
  cases h with | ok h=>exact ⟨_,rfl,h⟩
theorem hp0 {g:Gd} {s:Shared} (hB:g.B=s.heap) (hos:s.os=g.os) (hg:s.gens=#[]):Hp g none 0 ⟨fun a=>s.heap.get? a,fun _=>none,[],[],g.w⟩ [] [] callerA s:=by
  refine ⟨⟨fun a o h=>?_,rfl,fun i a h=>(by cases h),fun f m=>(by cases m),.nil,fun a m=>(by cases m),fun t m=>(by cases m),fun a o _=>rfl⟩,fun a o h=>hB▸h,rfl,rfl,rfl,fun o m=>(by cases m),by decide,by decide,rfl,hg,hos,fun a m=>(by cases m)⟩
  rcases h with h | h
  · exact h
  · cases h
theorem go_call {g:Gd} {m:EM AV} {as:List AV} {f:Value} (snd:SndH g m as f) {sc:Scope} (hr:Runs Weak m ⟨sc,none,0,0⟩ [] [] (.ok (.bool true)) [] []) {s:Shared} (hB:g.B=s.heap) (hos:s.os=g.os) (hg:s.gens=#[]) {vs:List Value} (hv:VRels ⟨fun a=>s.heap.get? a,fun _=>none,[],[],g.w⟩ as vs) :
    codeAny (model g.prog g.w) callerA (.call f ⟨vs,[]⟩) (fun r s'=>r=.ok (.ret (.bool true))∧OldK s.heap s'.heap∧s'.os=s.os∧s'.gens=#[]) s:=by
  obtain ⟨orc,ps,r0,ls0,σ0,e,hps,hr,-,-⟩:=hr
  obtain ⟨a,rfl,hwk⟩:=hr.okOf
  refine codeAny_mono (snd ⟨sc,none,0,0⟩ ⟨[],[],orc,[]⟩ vs _ [] callerA s (fun v s'=>v=.bool true∧OldK s.heap s'.heap∧s'.os=s.os∧s'.gens=#[]) (fun _ _=>False) (fun r as=>(r,as)=(.ok a,⟨ls0,σ0,[],ps⟩)) hv (hp0 hB hos hg) (Nat.zero_le _) (fun _ _ z=>(Prod.mk.inj z).2▸hps) (fun r as' c' s' z _ x H'=>?_) (e▸rfl)) fun r s' q=>?_
  · cases z
    exact fun v hv=>⟨bool_rel (hwk _ _ hv),.of_keep fun b o e=>H'.st.keep b o (.inl (H'.base b o (hB▸e))),H'.os.trans hos.symm,H'.gens⟩
  · cases r with
    | error _=>exact q.elim
    | ok f=>cases f with
      | ret v =>
        obtain ⟨z,q⟩:=q
        exact ⟨congrArg (fun v=>Except.ok (Flow.ret v)) z,q⟩
      | _=>exact q.elim
theorem law_g {g:Gd} {P:Params} (e:g.K=KP P) (hb:HbOk g) {s:Shared} (hB:g.B=s.heap) (hos:s.os=g.os) (hg:s.gens=#[]) {xs:List Int} (hx:xs.length≤63) {l:Addr} (hw:Well P s.heap (.ref l) (ofPy (PyData.list (xs.map PyData.int)))) :
    codeAny (model g.prog g.w) callerA (.call (.ref 840) ⟨[.ref l],[]⟩) (fun r s'=>r=.ok (.ret (.bool true))∧OldK s.heap s'.heap∧s'.os=s.os∧s'.gens=#[]) s:=by
  have T:TabsOk g (tabs P):=tabs_ok P e hb
  have snd:=callT_okH T (ev_ok T (hk_ok T 60) 200) 840 [.sl (siL xs)]
  have hr:=s_law P xs (by omega)
  exact go_call (m:=F P (hk (tabs P) 60) 840 [.sl (siL xs)]) snd hr hB hos hg (.cons (script_rel (fun _ _ h=>h) hw) .nil)
theorem law_call {prog p:Program} {loose:List Str} {w:World} {mg mb:Str→Option Value} {s:Shared} (X:(KP w.params).In s.heap) (TB:TopRead p loose mg mb s.heap) {fa:Addr} (hf:mg (sOf [108,97,119])=some (.ref fa)) (hg:s.gens=#[]) {xs:List Int} (hx:xs.length≤63) {l:Addr}
    (hw:Well w.params s.heap (.ref l) (ofPy (PyData.list (xs.map PyData.int)))):codeAny (model prog w) callerA (.call (.ref fa) ⟨[.ref l],[]⟩) (fun r s'=>r=.ok (.ret (.bool true))∧OldK s.heap s'.heap∧s'.os=s.os∧s'.gens=#[]) s:=by
  obtain ⟨mc,hc,-⟩:=TB.nolimit
  have e1:nsIn (KP w.params) mainGlobals (sOf [108,97,119])=some (some (.ref 840)):=by kernel_rfl
  have e2:nsIn (KP w.params) cStatics "sys.int_max_str_digits" = some none:=by kernel_rfl
  rw [mg_of X TB.g e1] at hf
  injection hf with hf
  injection hf with hf
  subst hf
  exact law_g (g:=⟨prog,w,fun w k=>tupleKeyHash (mixKind prog w) (bkL k),s.heap,KP w.params,p,loose,mg,mb,s.os,X,TB,⟨mc,hc,ns_none_of X hc e2⟩⟩) rfl (fun k=>rfl) rfl rfl hg hx hw
end T
theorem PySem.Challenge.cw_np0143_01_holds : PySem.Challenge.rw_np0143_01.Holds := by
  refine T.hd ?_
  intro w s₀ s₁ mg mb G Y fa o pm cd doc dV kV ho hd hcd hD hmg hg args vals as hpre hlay hrd hwl hlo
  have KX:=kIn_of Y
  rw [T.dname] at hmg
  wrow_args hpre hlay hrd hwl hlo
  rename_i xs _ _ _ _ _ _ _ l vs _ hL ra hw r0 hI hr hcond hc
  refine enter_call ?_
  refine codeAny_mono (T.law_call (prog:=PySem.Challenge.rw_np0143_01.row.prog) KX (topRead_of G.T) hmg hg (by omega) hw) fun r s' q=>?_
  obtain ⟨rfl,h1,h2,h3⟩:=q
  exact ⟨.inl ⟨.bool true,.bool true,[],rfl,fun _=>rfl,.bool _,by kernel_rfl,fun _=>⟨.nil,fun a m=>by cases m⟩⟩,h1,h2,.of_eq h3⟩
