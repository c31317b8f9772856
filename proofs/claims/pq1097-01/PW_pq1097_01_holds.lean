import PyProof.Rows.All
import Wide.All
import OpenK.AllK
import Wide.FinOn
import KE.KSortTup
import KE.KItemsList
import PySem.Challenge.RW_pq1097_01
set_option Elab.async false
set_option linter.all false
set_option tactic.hygienic false
set_option compiler.extract_closed false
set_option genSizeOf false
set_option genInjectivity false
set_option bootstrap.genMatcherCode false
noncomputable section
open PySem PySem.W PyProof.Rows
local macro_rules | `(tactic| walk_at "t") => `(tactic| first
  | refine And.intro (fun h => absurd h (by decide)) (fun _ => ?_)
  | refine And.intro (fun _ => ?_) (fun h => absurd h (by decide)))
local macro_rules | `(tactic| walk_at "f") => `(tactic| first
  | exact fun _ => by kernel_rfl
  | exact fun _ _ => by kernel_rfl
  | exact fun _ _ _ => by kernel_rfl
  | exact fun _ _ _ _ => by kernel_rfl
  | exact fun _ _ _ _ _ => by kernel_rfl
  | exact by kernel_rfl)
section
set_option maxRecDepth 100000
namespace Mine
noncomputable abbrev pw:=PySem.Challenge.pw_pq1097_01
noncomputable def stAt (i:Nat):Stmt:=(pw.main.body[i]?).getD (.Pass ⟨0,0,0,0⟩)
noncomputable abbrev rr:=PySem.Challenge.rw_pq1097_01.row
noncomputable def keepL:List Nat:=[1,3,5,6,7,8,10,11,12,14,16,17,18,19,20,21,22,23,24,25,26,27,29,30,31,32,33,34,35,36,37,38,39,40,41,42,43,44,45,47,48,50,51,52,53,54,55,56,57,59,61,63,64,65,66,67,68,69,70,71,72,73,74,75,76,77,78,79,80,81,82,83,84,85]
noncomputable abbrev vw:Program:=view pw keepL
noncomputable def lawD:DefRec:=match stAt 85 with
 | .FunctionDef n ps b _ _ _ sc _ _ pos=>⟨n,ps,b,sc,pos⟩
 | _=>⟨Str.ofString "",default,[],default,⟨0,0,0,0⟩⟩
theorem h_def:defOf vw rr.name=some (lawD,[]):=by kernel_rfl
theorem h_the:rr.prog.theDef rr.name=some (lawD.params,lawD.body,lawD.scope):=by kernel_rfl
theorem h_kw:kwWritten? lawD.params.kwonlyargs lawD.params.kw_defaults=some []:=by kernel_rfl
theorem h_imp:importsNone vw=true:=by decide +kernel
theorem h_ok:(chainsOk vw&&opensWell rr.prog&&(frees rr.toRowW&&rr.within.isEmpty))=true:=by decide +kernel
theorem andT {a b:Bool}(h:a=true) (k:b=true):(a&&b)=true:=by rw [h,k]; rfl
theorem h_res:namesResolve rr.prog=true:=by decide +kernel
theorem h_road:noRoadLSs {strict:=!(importedModules rr.prog.main.body).all cThrough.contains,foot:=none,bare:=(["vars", "dir", "locals"]:List Str).filter (readsOut rr.prog rr.prog.main.body)} rr.prog.main.body=true:=by decide +kernel
theorem h_meet:namesMeet rr.prog rr.prog.main.body (fun _ n=>attrL n)=true:=by decide +kernel
theorem h_open:looksOpen rr.prog=true:=by
 delta looksOpen
 repeat' with_reducible refine andT ?_ ?_
 all_goals with_reducible first
  | exact h_res
  | exact h_road
  | exact h_meet
  | decide +kernel
theorem h_row:rr.wellSaid=true:=by
 delta OpenRow.wellSaid OpenRow.partSaid
 repeat' with_reducible refine andT ?_ ?_
 all_goals first
  | with_reducible exact h_open
  | decide +kernel
theorem h_said:PySem.Challenge.rw_pq1097_01.wellSaid=true:=by
 delta OpenLaw.wellSaid
 repeat' with_reducible refine andT ?_ ?_
 all_goals first
  | with_reducible exact h_row
  | decide +kernel
theorem h_wit:rr.toRowW.promised:=⟨[.list [.int 3,.int 1]],by decide +kernel,by decide +kernel⟩
theorem h_bare:rr.prog.bare:=⟨rfl,rfl,rfl,rfl,rfl,by decide +kernel⟩
end Mine
end
section
open PySem PySem.Spec PySem.Calls PyProof.Rows PySem.W
namespace Mine
section
theorem byP {G:Prop}(h:∀P:Prop,(G→P)→P):G:=h G id
inductive PV where
 | none
 | bool (b:Bool)
 | int (i:Int)
 | str (s:Str)
 | bytes (b:Array UInt8)
 | tup (xs:List PV)
 | ref (a:Addr)
 | val (v:Value)
 | rng (n:Int)
 | items (d:Addr)
 | slc (lo hi:Option Int)
inductive Part:Value→Option Int→Prop
 | none:Part .none none
 | int (i:Int) (t:Tok):Part (.int i t) (some i)
noncomputable abbrev tupObj (vs:List Value):Obj:={cls:=.type "tuple",data:=.seq vs.toArray}
mutual
inductive Tells (h:Heap):Value→PV→Prop
 | none:Tells h .none .none
 | bool (b:Bool):Tells h (.bool b) (.bool b)
 | int (i:Int) (t:Tok):Tells h (.int i t) (.int i)
 | str (x:Str) (t:Tok):Tells h (.str x t) (.str x)
 | bytes (b:Array UInt8) (t:Tok):Tells h (.bytes b t) (.bytes b)
 | ref (a:Addr):Tells h (.ref a) (.ref a)
 | bi (i:String):Tells h (.builtin i) (.val (.builtin i))
 | ty (n:String):Tells h (.type n) (.val (.type n))
 | tup {a:Addr}{vs:List Value}{xs:List PV}:h.get? a=some (tupObj vs)→TellsL h vs xs→Tells h (.ref a) (.tup xs)
 | rng {a:Addr}{n:Int}{t u v:Tok}:IsRange h a 0 n 1 t u v→Tells h (.ref a) (.rng n)
 | items {a d:Addr}:h.get? a=some {cls:=.type "dict_items",data:=.fields #[.ref d]}→Tells h (.ref a) (.items d)
 | slc {a:Addr}{vl vu:Value}{lo hi:Option Int}:h.get? a=some {cls:=.type "slice",data:=.fields #[vl,vu,.none]}→Part vl lo→Part vu hi→Tells h (.ref a) (.slc lo hi)
inductive TellsL (h:Heap):List Value→List PV→Prop
 | nil:TellsL h [] []
 | cons {v:Value}{vs:List Value}{x:PV}{xs:List PV}:Tells h v x→TellsL h vs xs→TellsL h (v::vs) (x::xs)
end
noncomputable def fz (o:Obj):Bool:=match o.cls,o.data with
 | .type n,.seq _ _=>n == "tuple"
 | .type n,.fields _=>n == "range" || n == "dict_items" || n == "slice"
 | _,_=>false
theorem fz_dict {o:Obj}{es ep} (h:o.data=.dict es ep):fz o=false:=by unfold fz; rw [h]; cases o.cls<;>rfl
theorem fz_cell {o:Obj}{v} (h:o.data=.cell v):fz o=false:=by unfold fz; rw [h]; cases o.cls<;>rfl
noncomputable def Keep (h h':Heap):Prop:=∀b o,h.get? b=some o→fz o=true→h'.get? b=some o
theorem Keep.refl (h:Heap):Keep h h:=fun _ _ e _=>e
theorem Keep.trans {h h' h'':Heap}(x:Keep h h') (y:Keep h' h''):Keep h h'':=fun b o e f=>y b o (x b o e f) f
theorem Keep.of_all {h h':Heap}(x:∀b o,h.get? b=some o→h'.get? b=some o):Keep h h':=fun b o e _=>x b o e
theorem Keep.sameBut {h h':Heap}{a:Addr}{o:Obj}(hs:Heap.SameBut a h h') (ho:h.get? a=some o) (hf:fz o=false):Keep h h':=fun b o' e f=>by
 by_cases hb:b=a
 ·subst hb; rw [ho] at e; cases e; rw [hf] at f; cases f
 ·exact (hs.2 b hb).trans e
theorem Tells.keep {h h':Heap}(k:Keep h h') {v:Value}{x:PV}(t:Tells h v x):Tells h' v x :=
 Tells.rec (motive_1:=fun v x _=>Tells h' v x) (motive_2:=fun vs xs _=>TellsL h' vs xs) .none .bool .int .str .bytes .ref .bi .ty (fun e _ l=>.tup (k _ _ e rfl) l) (fun e=>.rng (k _ _ e rfl)) (fun e=>.items (k _ _ e rfl)) (fun e p q=>.slc (k _ _ e rfl) p q) .nil (fun _ _ a l=>.cons a l) t
theorem TellsL.ind {h:Heap}{P:List Value→List PV→Prop}(nil:P [] []) (cons:∀{v vs x xs},Tells h v x→TellsL h vs xs→P vs xs→P (v::vs) (x::xs)) {vs:List Value}{xs:List PV}(t:TellsL h vs xs):P vs xs :=
 TellsL.rec (motive_1:=fun _ _ _=>True) (motive_2:=fun vs xs _=>P vs xs) trivial (fun _=>trivial) (fun _ _=>trivial) (fun _ _=>trivial) (fun _ _=>trivial) (fun _=>trivial) (fun _=>trivial) (fun _=>trivial) (fun _ _ _=>trivial) (fun _=>trivial) (fun _=>trivial) (fun _ _ _=>trivial) nil (fun a l _ i=>cons a l i) t
noncomputable def Tells.Inv (h:Heap) (v:Value):PV→Prop
 | .none=>v=.none
 | .bool b=>v=.bool b
 | .int i=>∃t,v=.int i t
 | .str x=>∃t,v=.str x t
 | .bytes b=>∃t,v=.bytes b t
 | .ref a=>v=.ref a
 | .val w=>v=w
 | .tup xs=>∃a vs,v=.ref a∧h.get? a=some (tupObj vs)∧TellsL h vs xs
 | .rng n=>∃a t u w,v=.ref a∧IsRange h a 0 n 1 t u w
 | .items d=>∃a,v=.ref a∧h.get? a=some {cls:=.type "dict_items",data:=.fields #[.ref d]}
 | .slc lo hi=>∃a vl vu,v=.ref a∧h.get? a=some {cls:=.type "slice",data:=.fields #[vl,vu,.none]}∧Part vl lo∧Part vu hi
theorem Tells.inv {h:Heap}{v:Value}{x:PV}(t:Tells h v x):Tells.Inv h v x:=by
 cases t with
 | tup e l=>exact ⟨_,_,rfl,e,l⟩
 | rng e=>exact ⟨_,_,_,_,rfl,e⟩
 | items e=>exact ⟨_,rfl,e⟩
 | slc e p q=>exact ⟨_,_,_,rfl,e,p,q⟩
 | int i t=>exact ⟨t,rfl⟩
 | str i t=>exact ⟨t,rfl⟩
 | bytes i t=>exact ⟨t,rfl⟩
 | _=>exact rfl
noncomputable def TellsL.Inv (h:Heap) (vs:List Value):List PV→Prop
 | []=>vs=[]
 | x::xs=>∃v ws,vs=v::ws∧Tells h v x∧TellsL h ws xs
theorem TellsL.inv {h:Heap}{vs:List Value}{xs:List PV}(t:TellsL h vs xs):TellsL.Inv h vs xs :=
 t.ind (P:=fun vs xs=>TellsL.Inv h vs xs) rfl fun a l _=>⟨_,_,rfl,a,l⟩
theorem TellsL.keep {h h':Heap}(k:Keep h h') {vs:List Value}{xs:List PV}(t:TellsL h vs xs):TellsL h' vs xs:=t.ind .nil fun a _ i=>.cons (a.keep k) i
theorem TellsL.length {h:Heap}{vs:List Value}{xs:List PV}(t:TellsL h vs xs):vs.length=xs.length:=t.ind (P:=fun vs xs=>vs.length=xs.length) rfl fun _ _ i=>congrArg (·+1) i
theorem TellsL.get {h:Heap}{vs:List Value}{xs:List PV}(t:TellsL h vs xs):∀{i:Nat}{x:PV},xs[i]?=some x→∃v,vs[i]?=some v∧Tells h v x :=
 t.ind (P:=fun vs xs=>∀{i:Nat}{x:PV},xs[i]?=some x→∃v,vs[i]?=some v∧Tells h v x) (fun e=>nomatch e) fun a _ r i=>Nat.casesOn i (fun e=>⟨_,rfl,Option.some.inj e▸a⟩) fun _ e=>r e
theorem TellsL.append {h:Heap}{vs:List Value}{xs:List PV}{ws:List Value}{ys:List PV}(t:TellsL h vs xs) (y:TellsL h ws ys):TellsL h (vs++ws) (xs++ys) :=
 t.ind (P:=fun vs xs=>TellsL h (vs++ws) (xs++ys)) y fun a _ i=>.cons a i
theorem TellsL.take {h:Heap}{vs:List Value}{xs:List PV}(t:TellsL h vs xs):∀n,TellsL h (vs.take n) (xs.take n) :=
 t.ind (P:=fun vs xs=>∀n,TellsL h (vs.take n) (xs.take n)) (fun n=>Nat.casesOn n .nil fun _=>.nil) fun a _ i n=>Nat.casesOn n .nil fun n=>.cons a (i n)
inductive KV {K:Type}(h:Heap):List (K×Value)→List (K×PV)→Prop
 | nil:KV h [] []
 | cons {k:K}{v:Value}{x:PV}{r:List (K×Value)}{r':List (K×PV)}:Tells h v x→KV h r r'→KV h ((k,v)::r) ((k,x)::r')
section
variable {K:Type}
theorem KV.keep {h h':Heap}(k:Keep h h') {a:List (K×Value)}{b:List (K×PV)}(l:KV h a b):KV h' a b:=KV.rec (motive:=fun a b _=>KV h' a b) .nil (fun t _ i=>.cons (t.keep k) i) l
theorem KV.keys {h:Heap}{a:List (K×Value)}{b:List (K×PV)}(l:KV h a b):a.map (·.1)=b.map (·.1):=KV.rec (motive:=fun a b _=>a.map (·.1)=b.map (·.1)) rfl (fun _ _ i=>congrArg _ i) l
theorem KV.length {h:Heap}{a:List (K×Value)}{b:List (K×PV)}(l:KV h a b):a.length=b.length:=KV.rec (motive:=fun a b _=>a.length=b.length) rfl (fun _ _ i=>congrArg (·+1) i) l
theorem KV.get {h:Heap}{a:List (K×Value)}{b:List (K×PV)}(l:KV h a b):∀{i:Nat}{k:K}{x:PV},b[i]?=some (k,x)→∃v,a[i]?=some (k,v)∧Tells h v x :=
 KV.rec (motive:=fun a b _=>∀{i:Nat}{k:K}{x:PV},b[i]?=some (k,x)→∃v,a[i]?=some (k,v)∧Tells h v x) (fun e=>nomatch e)
  (fun {_ v _ _ _} t _ ih=>@fun i _ _=>Nat.casesOn i (fun e=>⟨v,congrArg (fun k=>some (k,v)) (Prod.mk.inj (Option.some.inj e)).1,(Prod.mk.inj (Option.some.inj e)).2▸t⟩) fun _ e=>ih e) l
end
noncomputable def putD {K α:Type} [BEq K] (k:K) (v:α):List (K×α)→List (K×α)
 | []=>[(k,v)]
 | (y,w)::r=>if k == y then (y,v)::r else (y,w)::putD k v r
section
variable {K α:Type} [BEq K] [LawfulBEq K]
theorem lookup_putD (x:K) (v:α) (y:K):∀fr:List (K×α),(putD x v fr).lookup y=if y == x then some v else fr.lookup y
 | []=>by
  show List.lookup y [(x,v)]=_
  rw [List.lookup_cons]
  cases y == x<;>rfl
 | (z,w)::r=>by
  unfold putD
  cases hz:x == z with
  | true =>
   rw [if_pos rfl,List.lookup_cons,List.lookup_cons,←beq_iff_eq.mp hz]
   cases y == x<;>rfl
  | false =>
   rw [if_neg Bool.false_ne_true,List.lookup_cons,List.lookup_cons,lookup_putD x v y r]
   cases hy:y == z with
   | true =>
    cases hx:y == x with
    | true=>rw [←beq_iff_eq.mp hx,hy] at hz; cases hz
    | false=>rfl
   | false=>rfl
theorem putD_keys_of_mem (k:K) (v:α):∀l:List (K×α),k∈l.map (·.1)→(putD k v l).map (·.1)=l.map (·.1)
 | [],h=>by cases h
 | (y,w)::r,h=>by
  unfold putD
  cases e:k == y with
  | true=>rfl
  | false =>
   rw [if_neg Bool.false_ne_true,List.map_cons,List.map_cons]
   rcases List.mem_cons.mp h with q | q
   ·exact absurd (beq_iff_eq.mpr q) (by rw [e]; exact Bool.false_ne_true)
   ·exact congrArg _ (putD_keys_of_mem k v r q)
theorem putD_of_not_mem (k:K) (v:α):∀l:List (K×α),k∉l.map (·.1)→putD k v l=l++[(k,v)]
 | [],h=>rfl
 | (y,w)::r,h=>by
  rw [List.map_cons,List.mem_cons,not_or] at h
  unfold putD
  rw [beq_eq_false_iff_ne.mpr h.1,if_neg Bool.false_ne_true,putD_of_not_mem k v r h.2]
  rfl
theorem putD_length_le (k:K) (v:α):∀l:List (K×α),(putD k v l).length≤l.length+1
 | []=>Nat.le_refl _
 | (y,w)::r=>by
  unfold putD
  have:=putD_length_le k v r
  split
  ·exact Nat.le_succ _
  ·exact Nat.succ_le_succ this
end
structure Cfg where
 prog:Program
 w:World
 base:Heap
 os:OsState
 K:Frag
 mg:Str→Option Value
 mb:Str→Option Value
 okK:K.In base
 okG:base.Ns mainGlobals mg
 okB:base.Ns builtinsNs mb
 lim:base.NoLimit
 mods:∃o,base.get? sysModules=some o
noncomputable abbrev TKey:=Int×List Int
inductive GObj where
 | list (xs:List PV)
 | sdict (kvs:List (Str×PV))
 | idict (kvs:List (Int×PV))
 | fdict (kvs:List (Int×PV)) (ep:Nat)
 | tdict (kvs:List (TKey×PV))
 | inst (cl dx:Addr)
 | barr (b:Array UInt8)
noncomputable def IsTKey (C:Cfg) (h:Heap) (k:TKey) (a:Addr):Prop :=
 ∃t b,h.get? a=some (tupObj [.int k.1 t,.ref b])∧∃vs,h.get? b=some (tupObj vs)∧ItemsAre (intKind C.prog C.w) k.2 vs
noncomputable def tkHash (C:Cfg) (k:TKey):Int:=reduceHash (Builtin.Tuple.tupleHashOf [hashInt k.1,tupleKeyHash (intKind C.prog C.w) k.2])
noncomputable def tdEntry (C:Cfg) (x:TKey×Addr×Value):DictEntry:=⟨tkHash C x.1,.ref x.2.1,x.2.2⟩
noncomputable def Is (C:Cfg) (h:Heap) (a:Addr):GObj→Prop
 | .list xs=>∃vs n,h.get? a=some (listOf vs.toArray n)∧TellsL h vs xs
 | .sdict kvs=>∃vs,h.DictOf (strKind C.prog C.w) a vs∧KV h vs kvs
 | .idict kvs=>∃vs,h.DictOf (intKind C.prog C.w) a vs∧KV h vs kvs
 | .fdict kvs ep=>∃vs,h.DictAt (intKind C.prog C.w) a vs ep∧KV h vs kvs
 | .tdict kvs=>∃(xs:List (TKey×Addr×Value)) (n:Nat),h.get? a=some (dictOf (xs.map (tdEntry C)) n)∧(kvs.map (·.1)).Nodup ∧
   (∀x∈xs,IsTKey C h x.1 x.2.1)∧KV h (xs.map fun x=>(x.1,x.2.2)) kvs
 | .inst cl dx=>h.get? a=some (instObj cl dx)
 | .barr b=>h.get? a=some {cls:=.type "bytearray",data:=.bytearray b}
theorem Is.at {C:Cfg}{h:Heap}{a:Addr}{g:GObj}(i:Is C h a g):∃o,h.get? a=some o∧fz o=false:=by
 induction g using Mine.GObj.casesOn with
 | list=>obtain ⟨_,_,e,_⟩:=i; exact ⟨_,e,rfl⟩
 | sdict=>obtain ⟨_,⟨o,_,_,e,_,d,_⟩,_⟩:=i; exact ⟨o,e,fz_dict d⟩
 | idict=>obtain ⟨_,⟨o,_,_,e,_,d,_⟩,_⟩:=i; exact ⟨o,e,fz_dict d⟩
 | fdict=>obtain ⟨_,⟨o,_,e,_,d,_⟩,_⟩:=i; exact ⟨o,e,fz_dict d⟩
 | tdict=>obtain ⟨_,_,e,_⟩:=i; exact ⟨_,e,rfl⟩
 | inst=>exact ⟨_,i,rfl⟩
 | barr=>exact ⟨_,i,rfl⟩
theorem IsTKey.keep {C:Cfg}{h h':Heap}{k:TKey}{a:Addr}(kp:Keep h h') (x:IsTKey C h k a):IsTKey C h' k a :=
 x.imp fun _ x=>x.imp fun _ x=>⟨kp _ _ x.1 rfl,x.2.imp fun _ y=>⟨kp _ _ y.1 rfl,y.2⟩⟩
theorem Is.keep {C:Cfg}{h h':Heap}{a:Addr}(k:Keep h h') (ha:∀o,h.get? a=some o→h'.get? a=some o) {g:GObj}(i:Is C h a g):Is C h' a g:=by
 have key:∀{K:Type} [DecidableEq K] {knd:KeyKind C.prog C.w K}{kvs:List (K×PV)},(∃vs,h.DictOf knd a vs∧KV h vs kvs)→∃vs,h'.DictOf knd a vs∧KV h' vs kvs:=fun i =>
  i.imp fun _ x=>⟨x.1.imp fun _ y=>y.imp fun _ y=>y.imp fun _ y=>⟨ha _ y.1,y.2⟩,x.2.keep k⟩
 induction g using Mine.GObj.casesOn with
 | list=>exact i.imp fun _ x=>x.imp fun _ x=>⟨ha _ x.1,x.2.keep k⟩
 | sdict=>exact key i
 | idict=>exact key i
 | fdict=>exact i.imp fun _ x=>⟨x.1.imp fun _ y=>y.imp fun _ y=>⟨ha _ y.1,y.2⟩,x.2.keep k⟩
 | tdict=>exact i.imp fun _ x=>x.imp fun _ x=>⟨ha _ x.1,x.2.1,fun y hy=>(x.2.2.1 y hy).keep k,x.2.2.2.keep k⟩
 | inst=>exact ha _ i
 | barr=>exact ha _ i
noncomputable abbrev GHeap:=Addr→Option GObj
noncomputable abbrev Kp:=Addr→Option Obj
structure St (C:Cfg) (kp:Kp) (H:GHeap) (s:Shared):Prop where
 base:∀b o,C.base.get? b=some o→kp b=some o
 kept:∀b o,kp b=some o→s.heap.get? b=some o
 own:∀a g,H a=some g→Is C s.heap a g
 apart:∀a g,H a=some g→kp a=none
 gens:s.gens=#[]
 os:s.os=C.os
section
variable {C:Cfg}{kp:Kp}{H:GHeap}{s:Shared}
theorem St.lt (S:St C kp H s) {a:Addr}{g:GObj}(e:H a=some g):a<s.heap.objs.size:=let ⟨_,ho,_⟩:=(S.own a g e).at; Heap.lt_size ho
theorem St.ltk (S:St C kp H s) {a:Addr}{o:Obj}(e:kp a=some o):a<s.heap.objs.size:=Heap.lt_size (S.kept a o e)
theorem St.fresh (S:St C kp H s) {a:Addr}(h:s.heap.objs.size≤a):H a=none∧kp a=none:=by
 refine ⟨?_,?_⟩
 ·cases e:H a with
  | none=>rfl
  | some g=>exact absurd (S.lt e) (Nat.not_lt.mpr h)
 ·cases e:kp a with
  | none=>rfl
  | some g=>exact absurd (S.ltk e) (Nat.not_lt.mpr h)
theorem St.baseIn (S:St C kp H s):∀b o,C.base.get? b=some o→s.heap.get? b=some o:=fun b o e=>S.kept b o (S.base b o e)
theorem St.K (S:St C kp H s):C.K.In s.heap:=C.okK.keeps S.baseIn
theorem St.g (S:St C kp H s):s.heap.Ns mainGlobals C.mg:=C.okG.keeps S.baseIn
theorem St.b (S:St C kp H s):s.heap.Ns builtinsNs C.mb:=C.okB.keeps S.baseIn
theorem St.nolim (S:St C kp H s):s.heap.NoLimit:=let ⟨mc,a,b⟩:=C.lim; ⟨mc,a.keeps S.baseIn,b⟩
theorem St.notBase (S:St C kp H s) {a:Addr}{g:GObj}(e:H a=some g):C.base.get? a=none:=by
 cases h:C.base.get? a with
 | none=>rfl
 | some o=>have:=S.base a o h; rw [S.apart a g e] at this; cases this
theorem St.notMods (S:St C kp H s) {a:Addr}{g:GObj}(e:H a=some g):(a == sysModules)=false:=beq_eq_false_iff_ne.mpr fun h=>by
 subst h
 obtain ⟨o,ho⟩:=C.mods
 rw [S.notBase e] at ho; cases ho
theorem St.toks (S:St C kp H s) (t:Nat):St C kp H {s with toks:=t}:=⟨S.base,S.kept,S.own,S.apart,S.gens,S.os⟩
theorem St.grow (S:St C kp H s) {h':Heap}{t:Nat}(k:∀b o,s.heap.get? b=some o→h'.get? b=some o):St C kp H {s with heap:=h',toks:=t} :=
 ⟨S.base,fun b o e=>k b o (S.kept b o e),fun a g e=>(S.own a g e).keep (Keep.of_all k) (k a),S.apart,S.gens,S.os⟩
theorem St.change (S:St C kp H s) {h':Heap}{t:Nat}{a:Addr}(hs:Heap.ExtBut a s.heap h') (hk:kp a=none) (hH:H a=none) (hf:∀o,s.heap.get? a=some o→fz o=false) :
  St C kp H {s with heap:=h',toks:=t}:=by
 have K:Keep s.heap h':=fun b o e f=>by
  by_cases hb:b=a
  ·subst hb; rw [hf o e] at f; cases f
  ·exact hs b o hb e
 refine ⟨S.base,fun b o e=>?_,fun b g e=>(S.own b g e).keep K fun o e'=>hs b o ?_ e',S.apart,S.gens,S.os⟩
 ·refine hs b o ?_ (S.kept b o e)
  rintro rfl; rw [hk] at e; cases e
 ·rintro rfl; rw [hH] at e; cases e
end
noncomputable def GHeap.set (H:GHeap) (a:Addr) (g:GObj):GHeap:=fun b=>if b=a then some g else H b
theorem GHeap.set_same (H:GHeap) (a:Addr) (g:GObj):H.set a g a=some g:=if_pos rfl
theorem GHeap.set_other (H:GHeap) {a b:Addr}(g:GObj) (h:b≠a):H.set a g b=H b:=if_neg h
section
variable {C:Cfg}{kp:Kp}{H:GHeap}{s:Shared}
theorem St.put (S:St C kp H s) {h':Heap}{t:Nat}{a:Addr}{g g':GObj}(e:H a=some g) (hs:Heap.SameBut a s.heap h') (hi:Is C h' a g'):St C kp (H.set a g') {s with heap:=h',toks:=t}:=by
 obtain ⟨o,ho,hf⟩:=(S.own a g e).at
 have K:Keep s.heap h':=Keep.sameBut hs ho hf
 refine ⟨S.base,fun b o' e'=>(hs.2 b ?_).trans (S.kept b o' e'),fun b g₁ e₁=>?_,fun b g₁ e₁=>?_,S.gens,S.os⟩
 ·rintro rfl; rw [S.apart _ _ e] at e'; cases e'
 ·by_cases hb:b=a
  ·subst hb; rw [GHeap.set_same] at e₁; cases e₁; exact hi
  ·rw [GHeap.set_other _ _ hb] at e₁
   exact (S.own b g₁ e₁).keep K fun o' e'=>(hs.2 b hb).trans e'
 ·by_cases hb:b=a
  ·subst hb; exact S.apart _ _ e
  ·rw [GHeap.set_other _ _ hb] at e₁; exact S.apart _ _ e₁
theorem St.new (S:St C kp H s) {h':Heap}{t:Nat}{a:Addr}{g':GObj}(ha:s.heap.objs.size≤a) (k:∀b o,s.heap.get? b=some o→h'.get? b=some o) (hi:Is C h' a g'):St C kp (H.set a g') {s with heap:=h',toks:=t}:=by
 refine ⟨S.base,fun b o' e'=>k b o' (S.kept b o' e'),fun b g₁ e₁=>?_,fun b g₁ e₁=>?_,S.gens,S.os⟩
 ·by_cases hb:b=a
  ·subst hb; rw [GHeap.set_same] at e₁; cases e₁; exact hi
  ·rw [GHeap.set_other _ _ hb] at e₁
   exact (S.own b g₁ e₁).keep (Keep.of_all k) (k b)
 ·by_cases hb:b=a
  ·subst hb; exact (S.fresh ha).2
  ·rw [GHeap.set_other _ _ hb] at e₁; exact S.apart _ _ e₁
theorem St.lessK (S:St C kp H s) {kp':Kp}(h:∀b o,kp' b=some o→kp b=some o) (hb:∀b o,C.base.get? b=some o→kp' b=some o):St C kp' H s :=
 ⟨hb,fun b o e=>S.kept b o (h b o e),S.own,fun a g e=>(by
  cases q:kp' a with
  | none=>rfl
  | some o =>
   have z:=h a o q
   rw [S.apart a g e] at z
   cases z),S.gens,S.os⟩
noncomputable def moreK (h:Heap) (kp:Kp) (x:Addr→Bool):Kp:=fun b=>match h.get? b with
 | some o=>if fz o||x b then some o else kp b
 | none=>kp b
theorem St.moreK (S:St C kp H s) (x:Addr→Bool) (hx:∀a,x a=true→H a=none):St C (moreK s.heap kp x) H s:=by
 have key:∀b o,Mine.moreK s.heap kp x b=some o→s.heap.get? b=some o:=fun b o e=>by
  unfold Mine.moreK at e
  cases ho:s.heap.get? b with
  | none=>rw [ho] at e; exact ho.symm.trans (S.kept b o e)
  | some o' =>
   rw [ho] at e
   by_cases h:(fz o'||x b)=true
   ·exact (if_pos h).symm.trans e
   ·exact ho.symm.trans (S.kept b o ((if_neg h).symm.trans e))
 refine ⟨fun b o e=>?_,key,S.own,fun a g e=>?_,S.gens,S.os⟩
 ·have h1:=S.base b o e
  have h2:=S.kept b o h1
  unfold Mine.moreK
  rw [h2]
  dsimp only
  split
  ·rfl
  ·exact h1
 ·obtain ⟨o,ho,hf⟩:=(S.own a g e).at
  unfold Mine.moreK
  rw [ho]
  dsimp only
  rw [hf,Bool.false_or,if_neg]
  ·exact S.apart a g e
  ·intro hxa; rw [hx a hxa] at e; cases e
theorem moreK_keep {h h':Heap}{kp:Kp}{x:Addr→Bool}(k:∀b o,moreK h kp x b=some o→h'.get? b=some o):Keep h h':=fun b o e f=>k b o (by
 unfold moreK; rw [e]; dsimp only; rw [f,Bool.true_or,if_pos rfl])
theorem moreK_at {h:Heap}{kp:Kp}{x:Addr→Bool}{b:Addr}{o:Obj}(e:h.get? b=some o) (hx:x b=true):moreK h kp x b=some o:=by
 unfold moreK; rw [e]; dsimp only; rw [hx,Bool.or_true,if_pos rfl]
theorem moreK_sub {C:Cfg}{H:GHeap}{s:Shared}{kp:Kp}(S:St C kp H s) {x:Addr→Bool}:∀b o,kp b=some o→moreK s.heap kp x b=some o:=fun b o e=>by
 unfold moreK; rw [S.kept b o e]; dsimp only; split<;>first | rfl | exact e
end
structure Rm (n:Nat) (A:Around):Prop where
 h:A.handled=none
 d:A.depth+10*n≤800
 u:A.units+100*n≤9000
theorem Rm.le {m n:Nat}{A:Around}(x:Rm n A) (h:m≤n):Rm m A:=⟨x.h,Nat.le_trans (Nat.add_le_add_left (Nat.mul_le_mul_left 10 h) _) x.d,Nat.le_trans (Nat.add_le_add_left (Nat.mul_le_mul_left 100 h) _) x.u⟩
theorem Rm.units {n:Nat}{A:Around}(x:Rm n A):A.units<cLine:=Nat.lt_of_le_of_lt (Nat.le_trans (Nat.le_add_right _ _) x.u) (by decide)
theorem Rm.units64 {n:Nat}{A:Around}(x:Rm n A):A.units+64<cLine:=Nat.lt_of_le_of_lt (Nat.add_le_add_right (Nat.le_trans (Nat.le_add_right _ _) x.u) 64) (by decide)
theorem le_deep {a m k n l:Nat}(h:a+k*(n+1)≤l) (hm:m≤k):a+m+k*n≤l:=Nat.le_trans (by rw [Nat.mul_succ,Nat.add_assoc,Nat.add_comm (k*n)]; exact Nat.add_le_add_left (Nat.add_le_add_right hm _) _) h
theorem Rm.deeper {n:Nat}{A:Around}(x:Rm (n+1) A) (env:Env):Rm n (A.deeper env):=⟨x.h,le_deep x.d (by decide),by first | exact le_deep x.u (by decide) | exact Nat.le_trans (Nat.add_le_add_left (Nat.mul_le_mul_left 100 (Nat.le_succ n)) _) x.u⟩
theorem Rm.caller:Rm 20 callerA:=⟨rfl,by decide,by decide⟩
end
section
noncomputable abbrev Vars:=List (Str×PV)
noncomputable def isComp (sc:Scope):Bool:=(sc.names.lookup (".0" : Str)).isSome
structure FrOk (sc:Scope) (env:Env) (kp:Kp) (H:GHeap) (fr:Vars) (h:Heap):Prop where
 scope:env.scope=sc
 glob:env.globals=mainGlobals
 bi:env.builtins=builtinsNs
 fn:sc.kind=.function
 nd:sc.names.lookup ("__debug__" : Str)=none
 nc:sc.names.lookup ("__classdict__" : Str)=none
 ns:∃m,h.Ns env.locals m∧∀x v,fr.lookup x=some v→sc.names.lookup x=some .local→∃w,m x=some w∧Tells h w v
 kpL:kp env.locals=none
 HL:H env.locals=none
 cell:∀x v,fr.lookup x=some v→(sc.names.lookup x=some .cell∨sc.names.lookup x=some .free)→∃c w,env.cells.lookup x=some c∧h.IsCell c (some w)∧Tells h w v
 own:∀x,isComp sc=false→sc.names.lookup x=some .cell→∃c w,env.cells.lookup x=some c∧h.IsCell c w∧kp c=none∧∀y,env.cells.lookup y=some c→y=x
 Hc:∀x c,env.cells.lookup x=some c→H c=none∧c≠env.locals∧∃v,h.IsCell c v
noncomputable def onFrame (env:Env) (b:Addr):Prop:=b=env.locals∨∃x,env.cells.lookup x=some b
section
variable {sc:Scope}{env:Env}{kp:Kp}{H H':GHeap}{fr:Vars}{h h':Heap}
theorem FrOk.change (F:FrOk sc env kp H fr h) (k:∀b o,onFrame env b→h.get? b=some o→h'.get? b=some o) (K:Keep h h') (hH:∀b,onFrame env b→H' b=none):FrOk sc env kp H' fr h':=by
 refine byP fun PG kG=>?_
 obtain ⟨m,⟨o,es,ep,ho,r⟩,hm⟩:=F.ns
 refine kG ?_
 refine ⟨F.scope,F.glob,F.bi,F.fn,F.nd,F.nc,⟨m,⟨o,es,ep,k _ _ (.inl rfl) ho,r⟩,fun x v e l=>?_⟩,F.kpL,hH _ (.inl rfl),fun x v e l=>?_,fun x ic l=>?_,fun x c e=>⟨hH _ (.inr ⟨x,e⟩),(F.Hc x c e).2.1,let ⟨v,o,ho,hd⟩:=(F.Hc x c e).2.2; ⟨v,o,k _ _ (.inr ⟨x,e⟩) ho,hd⟩⟩⟩
 ·refine byP fun PG kG=>?_
  obtain ⟨w,a,b⟩:=hm x v e l
  refine kG ?_
  exact ⟨w,a,b.keep K⟩
 ·refine byP fun PG kG=>?_
  obtain ⟨c,w,a,⟨o,ho,hd⟩,t⟩:=F.cell x v e l
  refine kG ?_
  exact ⟨c,w,a,⟨o,k _ _ (.inr ⟨x,a⟩) ho,hd⟩,t.keep K⟩
 ·refine byP fun PG kG=>?_
  obtain ⟨c,w,a,⟨o,ho,hd⟩,t⟩:=F.own x ic l
  refine kG ?_
  exact ⟨c,w,a,⟨o,k _ _ (.inr ⟨x,a⟩) ho,hd⟩,t⟩
theorem FrOk.free (F:FrOk sc env kp H fr h) {b:Addr}(q:onFrame env b):H b=none:=by
 rcases q with rfl | ⟨x,e⟩
 ·exact F.HL
 ·exact (F.Hc x b e).1
theorem FrOk.grow (F:FrOk sc env kp H fr h) (k:∀b o,h.get? b=some o→h'.get? b=some o):FrOk sc env kp H fr h':=F.change (fun b o _ e=>k b o e) (Keep.of_all k) fun _ q=>F.free q
theorem FrOk.there (F:FrOk sc env kp H fr h) {b:Addr}(q:onFrame env b):∃o,h.get? b=some o:=by
 rcases q with rfl | ⟨x,e⟩
 ·refine byP fun PG kG=>?_
  obtain ⟨m,⟨o,_,_,ho,_⟩,_⟩:=F.ns
  refine kG ?_
  exact ⟨o,ho⟩
 ·refine byP fun PG kG=>?_
  obtain ⟨_,o,ho,_⟩:=(F.Hc x b e).2.2
  refine kG ?_
  exact ⟨o,ho⟩
theorem FrOk.withK (F:FrOk sc env kp H fr h) {kp':Kp}(h1:kp' env.locals=none) (h2:∀x c,isComp sc=false→sc.names.lookup x=some .cell→env.cells.lookup x=some c→kp' c=none):FrOk sc env kp' H fr h :=
 ⟨F.scope,F.glob,F.bi,F.fn,F.nd,F.nc,F.ns,h1,F.HL,F.cell,fun x ic l=>let ⟨c,w,a,b,_,d⟩:=F.own x ic l; ⟨c,w,a,b,h2 x c ic l a,d⟩,F.Hc⟩
end
inductive Back (C:Cfg) (sc:Scope) (kp:Kp) (env:Env) (fr:Vars) (Q:PV→GHeap→Prop) (v:Value) (s':Shared):Prop
 | mk (x:PV) (H':GHeap) (S:St C kp H' s') (F:FrOk sc env kp H' fr s'.heap) (t:Tells s'.heap v x) (q:Q x H')
inductive BackL (C:Cfg) (sc:Scope) (kp:Kp) (env:Env) (fr:Vars) (Q:List PV→GHeap→Prop) (vs:List Value) (s':Shared):Prop
 | mk (xs:List PV) (H':GHeap) (S:St C kp H' s') (F:FrOk sc env kp H' fr s'.heap) (t:TellsL s'.heap vs xs) (q:Q xs H')
inductive BackB (C:Cfg) (sc:Scope) (kp:Kp) (env:Env) (fr:Vars) (Q:Bool→GHeap→Prop) (b:Bool) (s':Shared):Prop
 | mk (H':GHeap) (S:St C kp H' s') (F:FrOk sc env kp H' fr s'.heap) (q:Q b H')
inductive BackV (C:Cfg) (kp:Kp) (Q:PV→GHeap→Prop) (v:Value) (s':Shared):Prop
 | mk (x:PV) (H':GHeap) (S:St C kp H' s') (t:Tells s'.heap v x) (q:Q x H')
theorem BackV.of {C:Cfg}{kp:Kp}{Q:PV→GHeap→Prop}{v:Value}{s':Shared}{x:PV}{H':GHeap}(S:St C kp H' s') (t:Tells s'.heap v x) (q:Q x H'):BackV C kp Q v s':=⟨x,H',S,t,q⟩
theorem Back.of {C:Cfg}{sc:Scope}{kp:Kp}{env:Env}{fr:Vars}{Q:PV→GHeap→Prop}{v:Value}{s':Shared}{x:PV}{H':GHeap}(S:St C kp H' s') (F:FrOk sc env kp H' fr s'.heap) (t:Tells s'.heap v x) (q:Q x H'):Back C sc kp env fr Q v s':=⟨x,H',S,F,t,q⟩
noncomputable abbrev noE:Value→Shared→Prop:=fun _ _=>False
structure EvOk (C:Cfg) (n:Nat) (sc:Scope) (e:Expr) (fr:Vars) (H:GHeap) (Q:PV→GHeap→Prop):Prop where
 run:∀A kp env s,Rm n A→St C kp H s→FrOk sc env kp H fr s.heap→wpAny (model C.prog C.w) A (eval e env) (Back C sc kp env fr Q) noE s
structure EvsOk (C:Cfg) (n:Nat) (sc:Scope) (es:List Expr) (fr:Vars) (H:GHeap) (Q:List PV→GHeap→Prop):Prop where
 run:∀pos A kp env s,Rm n A→St C kp H s→FrOk sc env kp H fr s.heap→wpAny (model C.prog C.w) A (spliced (backTo pos (starEach es env))) (BackL C sc kp env fr Q) noE s
structure TsOk (C:Cfg) (n:Nat) (sc:Scope) (e:Expr) (fr:Vars) (H:GHeap) (Q:Bool→GHeap→Prop):Prop where
 run:∀A kp env s,Rm n A→St C kp H s→FrOk sc env kp H fr s.heap→wpAny (model C.prog C.w) A (isTrue e env (eval e env)) (BackB C sc kp env fr Q) noE s
structure Op2Ok (C:Cfg) (n:Nat) (f:Value→Value→Sem Value) (a b:PV) (H:GHeap) (Q:PV→GHeap→Prop):Prop where
 run:∀A kp s u v,Rm n A→St C kp H s→Tells s.heap u a→Tells s.heap v b→wpAny (model C.prog C.w) A (f u v) (BackV C kp Q) noE s
structure Op1Ok (C:Cfg) (n:Nat) (f:Value→Sem Value) (a:PV) (H:GHeap) (Q:PV→GHeap→Prop):Prop where
 run:∀A kp s u,Rm n A→St C kp H s→Tells s.heap u a→wpAny (model C.prog C.w) A (f u) (BackV C kp Q) noE s
structure CallOk (C:Cfg) (n:Nat) (f:PV) (args:List PV) (H:GHeap) (Q:PV→GHeap→Prop):Prop where
 run:∀A kp s v vs,Rm n A→St C kp H s→Tells s.heap v f→TellsL s.heap vs args→wpAny (model C.prog C.w) A (PySem.call v vs) (BackV C kp Q) noE s
structure CodeOk (C:Cfg) (n:Nat) (f:PV) (args:List PV) (H:GHeap) (Q:PV→GHeap→Prop):Prop where
 run:∀A kp s v vs,Rm n A→St C kp H s→Tells s.heap v f→TellsL s.heap vs args →
  codeAny (model C.prog C.w) A (.call v ⟨vs,[]⟩) (fun r s'=>∃u,r=.ok (.ret u)∧BackV C kp Q u s') s
inductive Fl where
 | next | brk | cont | ret (v:PV)
inductive FlIs (h:Heap):Flow→Fl→Prop
 | next:FlIs h .next .next
 | brk:FlIs h .brk .brk
 | cont:FlIs h .cont .cont
 | ret {v:Value}{x:PV}:Tells h v x→FlIs h (.ret v) (.ret x)
inductive BackF (C:Cfg) (sc:Scope) (kp:Kp) (env:Env) (Q:Fl→Vars→GHeap→Prop) (f:Flow) (s':Shared):Prop
 | mk (fl:Fl) (fr':Vars) (H':GHeap) (S:St C kp H' s') (F:FrOk sc env kp H' fr' s'.heap) (t:FlIs s'.heap f fl) (q:Q fl fr' H')
structure SOk (C:Cfg) (n:Nat) (sc:Scope) (st:Stmt) (fr:Vars) (H:GHeap) (Q:Fl→Vars→GHeap→Prop):Prop where
 run:∀A kp env s,Rm n A→St C kp H s→FrOk sc env kp H fr s.heap→wpAny (model C.prog C.w) A (exec st env) (BackF C sc kp env Q) noE s
structure ExOk (C:Cfg) (n:Nat) (sc:Scope) (ss:List Stmt) (fr:Vars) (H:GHeap) (Q:Fl→Vars→GHeap→Prop):Prop where
 run:∀A kp env s,Rm n A→St C kp H s→FrOk sc env kp H fr s.heap→wpAny (model C.prog C.w) A (execs ss env) (BackF C sc kp env Q) noE s
structure AsOk (C:Cfg) (n:Nat) (sc:Scope) (t:Expr) (v:PV) (fr:Vars) (H:GHeap) (Q:Vars→GHeap→Prop):Prop where
 run:∀A kp env s u,Rm n A→St C kp H s→FrOk sc env kp H fr s.heap→Tells s.heap u v →
  wpAny (model C.prog C.w) A (assign t env u) (fun _ s'=>∃fr' H',St C kp H' s'∧FrOk sc env kp H' fr' s'.heap∧Q fr' H') noE s
section
variable {C:Cfg}{n:Nat}{sc:Scope}{e:Expr}{fr:Vars}{H:GHeap}{Q:PV→GHeap→Prop}{A:Around}{kp:Kp}{env:Env}{s:Shared}
theorem moreK_noFrame (S:St C kp H s) (F:FrOk sc env kp H fr s.heap):FrOk sc env (moreK s.heap kp fun _=>false) H fr s.heap:=by
 refine F.withK ?_ fun x c ic l a=>?_
 ·refine byP fun PG kG=>?_
  obtain ⟨m,⟨o,_,_,ho,hd,_⟩,_⟩:=F.ns
  refine kG ?_
  unfold moreK; rw [ho]; dsimp only; rw [fz_dict hd,Bool.false_or,if_neg Bool.false_ne_true]; exact F.kpL
 ·refine byP fun PG kG=>?_
  obtain ⟨c',w,a',⟨o,ho,hd⟩,hk,_⟩:=F.own x ic l
  refine kG ?_
  rw [a] at a'; cases a'
  unfold moreK; rw [ho]; dsimp only; rw [fz_cell hd,Bool.false_or,if_neg Bool.false_ne_true]; exact hk
theorem keepingF {α:Type}{t:Sem α}{P:Kp→α→Shared→Prop}(S:St C kp H s) (F:FrOk sc env kp H fr s.heap)
  (h:∀kp',St C kp' H s→FrOk sc env kp' H fr s.heap→wpAny (model C.prog C.w) A t (P kp') noE s)
  {R:α→Shared→Prop}(hR:∀kp' a s',(∀b o,kp b=some o→kp' b=some o)→(∀b o,C.base.get? b=some o→kp b=some o)→(∀h',(∀b o,kp' b=some o→h'.get? b=some o)→Keep s.heap h')→P kp' a s'→R a s') :
  wpAny (model C.prog C.w) A t R noE s :=
 wpAny_mono (h _ (S.moreK _ fun _ q=>by cases q) (moreK_noFrame S F)) (fun a s' p=>hR _ a s' (moreK_sub S) S.base (fun _ k=>moreK_keep k) p) fun _ _ x=>x
theorem FrOk.lessK {kp':Kp}{H':GHeap}{h':Heap}(F:FrOk sc env kp' H' fr h') (h:∀b o,kp b=some o→kp' b=some o):FrOk sc env kp H' fr h':=by
 have none_of:∀b,kp' b=none→kp b=none:=fun b e=>by
  cases q:kp b with
  | none=>rfl
  | some o=>rw [h b o q] at e; cases e
 exact F.withK (none_of _ F.kpL) fun x c ic l a=>by
  obtain ⟨c',w,a',_,hk,_⟩:=F.own x ic l
  rw [a] at a'; cases a'
  exact none_of _ hk
theorem EvOk.next (h:EvOk C n sc e fr H Q) (hA:Rm n A) (S:St C kp H s) (F:FrOk sc env kp H fr s.heap) {R:Value→Shared→Prop}
  (k:∀v s' x H',St C kp H' s'→FrOk sc env kp H' fr s'.heap→Tells s'.heap v x→Q x H'→R v s'):wpAny (model C.prog C.w) A (eval e env) R noE s :=
 wpAny_mono (h.run A kp env s hA S F) (fun v s' b=>b.casesOn (k v s')) fun _ _ x=>x
theorem EvOk.nextK (h:EvOk C n sc e fr H Q) (hA:Rm n A) (S:St C kp H s) (F:FrOk sc env kp H fr s.heap) {R:Value→Shared→Prop}
  (k:∀v s' x H',Keep s.heap s'.heap→St C kp H' s'→FrOk sc env kp H' fr s'.heap→Tells s'.heap v x→Q x H'→R v s'):wpAny (model C.prog C.w) A (eval e env) R noE s :=
 keepingF S F (P:=fun kp'=>Back C sc kp' env fr Q) (fun kp' S' F'=>h.run A kp' env s hA S' F') fun kp' v s' hk hb K b=>b.casesOn fun x H' S' F' t q=>k v s' x H' (K _ S'.kept) (S'.lessK hk hb) (F'.lessK hk) t q
theorem EvsOk.next {es:List Expr}{pos:Pos}{Q:List PV→GHeap→Prop}(h:EvsOk C n sc es fr H Q) (hA:Rm n A) (S:St C kp H s) (F:FrOk sc env kp H fr s.heap) {R:List Value→Shared→Prop}
  (k:∀v s' x H',St C kp H' s'→FrOk sc env kp H' fr s'.heap→TellsL s'.heap v x→Q x H'→R v s'):wpAny (model C.prog C.w) A (spliced (backTo pos (starEach es env))) R noE s :=
 wpAny_mono (h.run pos A kp env s hA S F) (fun v s' b=>b.casesOn (k v s')) fun _ _ x=>x
theorem EvsOk.nextK {es:List Expr}{pos:Pos}{Q:List PV→GHeap→Prop}(h:EvsOk C n sc es fr H Q) (hA:Rm n A) (S:St C kp H s) (F:FrOk sc env kp H fr s.heap) {R:List Value→Shared→Prop}
  (k:∀v s' x H',Keep s.heap s'.heap→St C kp H' s'→FrOk sc env kp H' fr s'.heap→TellsL s'.heap v x→Q x H'→R v s'):wpAny (model C.prog C.w) A (spliced (backTo pos (starEach es env))) R noE s :=
 keepingF S F (P:=fun kp'=>BackL C sc kp' env fr Q) (fun kp' S' F'=>h.run pos A kp' env s hA S' F') fun kp' v s' hk hb K b=>b.casesOn fun x H' S' F' t q=>k v s' x H' (K _ S'.kept) (S'.lessK hk hb) (F'.lessK hk) t q
theorem TsOk.next {Q:Bool→GHeap→Prop}(h:TsOk C n sc e fr H Q) (hA:Rm n A) (S:St C kp H s) (F:FrOk sc env kp H fr s.heap) {R:Bool→Shared→Prop}
  (k:∀b s' H',St C kp H' s'→FrOk sc env kp H' fr s'.heap→Q b H'→R b s'):wpAny (model C.prog C.w) A (isTrue e env (eval e env)) R noE s :=
 wpAny_mono (h.run A kp env s hA S F) (fun v s' b=>b.casesOn (k v s')) fun _ _ x=>x
theorem ExOk.next {ss:List Stmt}{Q:Fl→Vars→GHeap→Prop}(h:ExOk C n sc ss fr H Q) (hA:Rm n A) (S:St C kp H s) (F:FrOk sc env kp H fr s.heap) {R:Flow→Shared→Prop}
  (k:∀f s' fl fr' H',St C kp H' s'→FrOk sc env kp H' fr' s'.heap→FlIs s'.heap f fl→Q fl fr' H'→R f s'):wpAny (model C.prog C.w) A (execs ss env) R noE s :=
 wpAny_mono (h.run A kp env s hA S F) (fun v s' b=>b.casesOn (k v s')) fun _ _ x=>x
theorem SOk.next {st:Stmt}{Q:Fl→Vars→GHeap→Prop}(h:SOk C n sc st fr H Q) (hA:Rm n A) (S:St C kp H s) (F:FrOk sc env kp H fr s.heap) {R:Flow→Shared→Prop}
  (k:∀f s' fl fr' H',St C kp H' s'→FrOk sc env kp H' fr' s'.heap→FlIs s'.heap f fl→Q fl fr' H'→R f s'):wpAny (model C.prog C.w) A (exec st env) R noE s :=
 wpAny_mono (h.run A kp env s hA S F) (fun v s' b=>b.casesOn (k v s')) fun _ _ x=>x
theorem AsOk.next {t:Expr}{u:Value}{v:PV}{Q:Vars→GHeap→Prop}(h:AsOk C n sc t v fr H Q) (hA:Rm n A) (S:St C kp H s) (F:FrOk sc env kp H fr s.heap) (tv:Tells s.heap u v) {R:Unit→Shared→Prop}
  (k:∀x s' fr' H',St C kp H' s'→FrOk sc env kp H' fr' s'.heap→Q fr' H'→R x s'):wpAny (model C.prog C.w) A (assign t env u) R noE s :=
 wpAny_mono (h.run A kp env s u hA S F tv) (fun x s' b=>b.elim fun fr' b=>b.elim fun H' b=>k x s' fr' H' b.1 b.2.1 b.2.2) fun _ _ x=>x
theorem Op2Ok.ints {f:Value→Value→Sem Value}{a b:Int}(h:∀A kp s u v,Rm n A→St C kp H s→wpAny (model C.prog C.w) A (f (.int a u) (.int b v)) (BackV C kp Q) noE s):Op2Ok C n f (.int a) (.int b) H Q:=⟨fun A kp s u v hA S t1 t2=>by
 obtain ⟨u,rfl⟩:=t1.inv
 obtain ⟨v,rfl⟩:=t2.inv
 exact h A kp s u v hA S⟩
theorem Op2Ok.rf {f:Value→Value→Sem Value}{a:Addr}{y:PV}(h:∀A kp s v,Rm n A→St C kp H s→Tells s.heap v y→wpAny (model C.prog C.w) A (f (.ref a) v) (BackV C kp Q) noE s):Op2Ok C n f (.ref a) y H Q:=⟨fun A kp s u v hA S t1 t2=>by
 obtain rfl:=t1.inv
 exact h A kp s v hA S t2⟩
theorem Op2Ok.rfR {f:Value→Value→Sem Value}{a:Addr}{x:PV}(h:∀A kp s v,Rm n A→St C kp H s→Tells s.heap v x→wpAny (model C.prog C.w) A (f v (.ref a)) (BackV C kp Q) noE s):Op2Ok C n f x (.ref a) H Q:=⟨fun A kp s u v hA S t1 t2=>by
 obtain rfl:=t2.inv
 exact h A kp s u hA S t1⟩
theorem CallOk.v1 {w:Value}{x:PV}(h:∀A kp s v,Rm n A→St C kp H s→Tells s.heap v x→wpAny (model C.prog C.w) A (PySem.call w [v]) (BackV C kp Q) noE s):CallOk C n (.val w) [x] H Q:=⟨fun A kp s v vs hA S tv ta=>by
 obtain rfl:=tv.inv
 obtain ⟨v,_,rfl,t,ta⟩:=ta.inv
 obtain rfl:=ta.inv
 exact h A kp s v hA S t⟩
theorem CallOk.r1 {w:Value}{a:Addr}(h:∀A kp s,Rm n A→St C kp H s→wpAny (model C.prog C.w) A (PySem.call w [.ref a]) (BackV C kp Q) noE s):CallOk C n (.val w) [.ref a] H Q:=.v1 fun A kp s v hA S t=>by
 obtain rfl:=t.inv
 exact h A kp s hA S
theorem CallOk.v2 {w:Value}{x y:PV}(h:∀A kp s v u,Rm n A→St C kp H s→Tells s.heap v x→Tells s.heap u y→wpAny (model C.prog C.w) A (PySem.call w [v,u]) (BackV C kp Q) noE s):CallOk C n (.val w) [x,y] H Q:=⟨fun A kp s v vs hA S tv ta=>by
 obtain rfl:=tv.inv
 obtain ⟨v,_,rfl,t,ta⟩:=ta.inv
 obtain ⟨u,_,rfl,t2,ta⟩:=ta.inv
 obtain rfl:=ta.inv
 exact h A kp s v u hA S t t2⟩
theorem CallOk.r2 {w:Value}{a:Addr}{y:PV}(h:∀A kp s u,Rm n A→St C kp H s→Tells s.heap u y→wpAny (model C.prog C.w) A (PySem.call w [.ref a,u]) (BackV C kp Q) noE s):CallOk C n (.val w) [.ref a,y] H Q:=.v2 fun A kp s v u hA S t t2=>by
 obtain rfl:=t.inv
 exact h A kp s u hA S t2
theorem EvOk.mono {Q':PV→GHeap→Prop}(h:EvOk C n sc e fr H Q) (q:∀x H',Q x H'→Q' x H'):EvOk C n sc e fr H Q':=⟨fun A kp env s hA S F=>h.next hA S F fun _ _ x H' a b c d=>⟨x,H',a,b,c,q _ _ d⟩⟩
theorem CallOk.mono {f:PV}{args:List PV}{Q':PV→GHeap→Prop}(h:CallOk C n f args H Q) (q:∀x H',Q x H'→Q' x H'):CallOk C n f args H Q':=⟨fun A kp s v vs hA S a b =>
 wpAny_mono (h.run A kp s v vs hA S a b) (fun _ _ b=>b.casesOn fun x H' a c d=>⟨x,H',a,c,q _ _ d⟩) fun _ _ x=>x⟩
theorem CodeOk.call {f:PV}{args:List PV}(h:CodeOk C n f args H Q):CallOk C n f args H Q:=⟨fun A kp s v vs hA S a b =>
 wpAny_call (codeAny_mono (h.run A kp s v vs hA S a b) fun _ _ ⟨u,e,z⟩=>e▸z)⟩
theorem CodeOk.mono {f:PV}{args:List PV}{Q':PV→GHeap→Prop}(h:CodeOk C n f args H Q) (q:∀x H',Q x H'→Q' x H'):CodeOk C n f args H Q':=⟨fun A kp s v vs hA S a b =>
 codeAny_mono (h.run A kp s v vs hA S a b) fun _ _ z=>z.imp fun u z=>⟨z.1,z.2.casesOn fun x H' a c d=>⟨x,H',a,c,q _ _ d⟩⟩⟩
theorem CallOk.le {m:Nat}{f:PV}{args:List PV}(h:CallOk C m f args H Q) (hm:m≤n):CallOk C n f args H Q:=⟨fun A kp s v vs hA=>h.run A kp s v vs (hA.le hm)⟩
theorem ExOk.mono {ss:List Stmt}{Q Q':Fl→Vars→GHeap→Prop}(h:ExOk C n sc ss fr H Q) (q:∀x fr' H',Q x fr' H'→Q' x fr' H'):ExOk C n sc ss fr H Q':=⟨fun A kp env s hA S F=>h.next hA S F fun _ _ x fr' H' a b c d=>⟨x,fr',H',a,b,c,q _ _ _ d⟩⟩
theorem op_frameK {t:Sem Value}(F:FrOk sc env kp H fr s.heap) (S:St C kp H s)
  (h:∀kp',St C kp' H s→(∀b o,kp b=some o→kp' b=some o)→(∀b o,onFrame env b→s.heap.get? b=some o→kp' b=some o)→wpAny (model C.prog C.w) A t (BackV C kp' Q) noE s):wpAny (model C.prog C.w) A t (Back C sc kp env fr Q) noE s:=by
 classical
 let x:Addr→Bool:=fun a=>decide (onFrame env a)
 have hx:∀a,x a=true→H a=none:=fun a q=>F.free (of_decide_eq_true q)
 refine wpAny_mono (h _ (S.moreK x hx) (moreK_sub S) fun b o onf e=>moreK_at e (decide_eq_true onf)) (fun v s'=>?_) fun _ _ z=>z
 rintro ⟨y,H',S',t',q⟩
 refine ⟨y,H',S'.lessK (moreK_sub S) S.base,?_,t',q⟩
 refine F.change (fun b o onf e=>S'.kept b o (moreK_at e (decide_eq_true onf))) (moreK_keep S'.kept) fun b onf=>?_
 cases e:H' b with
 | none=>rfl
 | some g =>
  have hk:=S'.apart b g e
  obtain ⟨o,ho⟩:=F.there onf
  rw [moreK_at ho (decide_eq_true onf)] at hk
  cases hk
theorem op_frame {t:Sem Value}(F:FrOk sc env kp H fr s.heap) (S:St C kp H s)
  (h:∀kp',St C kp' H s→(∀b o,kp b=some o→kp' b=some o)→wpAny (model C.prog C.w) A t (BackV C kp' Q) noE s):wpAny (model C.prog C.w) A t (Back C sc kp env fr Q) noE s :=
 op_frameK F S fun kp' S' k _=>h kp' S' k
end
end
section
section
variable {C:Cfg}{n:Nat}{sc:Scope}{fr:Vars}{H:GHeap}{Q:PV→GHeap→Prop}{A:Around}{kp:Kp}{env:Env}{s:Shared}
theorem push_old {h:Heap}(o':Obj):∀b o,h.get? b=some o→(h.push o').get? b=some o:=fun _ _ e=>Heap.get?_push_of_some _ e
theorem line_of {k:Nat}(h:k≤1000):k≤sizeLine:=Nat.le_trans h (by rw [sizeLine_eq]; decide)
theorem TellsL.fits {h:Heap}{vs:List Value}{xs:List PV}(t:TellsL h vs xs) (hl:xs.length≤1000):vs.length≤sizeLine:=line_of (t.length▸hl)
theorem ev_int {i:Int}{k:Nat}{pos:Pos}(q:Q (.int i) H):EvOk C n sc (.Constant (.int i) k pos) fr H Q:=⟨fun _ _ _ s _ S F =>
 wpAny_Constant_int ⟨_,H,S.toks _,F,.int i _,q⟩⟩
theorem ev_none {k:Nat}{pos:Pos}(q:Q .none H):EvOk C n sc (.Constant .none k pos) fr H Q:=⟨fun _ _ _ s _ S F =>
 wpAny_pure ⟨_,H,S,F,.none,q⟩⟩
theorem ev_bool {b:Bool}{k:Nat}{pos:Pos}(q:Q (.bool b) H):EvOk C n sc (.Constant (.bool b) k pos) fr H Q:=⟨fun _ _ _ s _ S F =>
 wpAny_pure ⟨_,H,S,F,.bool b,q⟩⟩
theorem ev_str {x:Str}{k:Nat}{pos:Pos}(q:Q (.str x) H):EvOk C n sc (.Constant (.str x) k pos) fr H Q:=⟨fun _ _ _ s _ S F =>
 wpAny_mkText ⟨_,H,S.toks _,F,.str x _,q⟩⟩
theorem FrOk.kind (F:FrOk sc env kp H fr s.heap) (x:Str):env.kindOf x=sc.names.lookup x:=by unfold Env.kindOf; rw [F.scope]
theorem FrOk.fnE (F:FrOk sc env kp H fr s.heap):env.scope.kind=.function:=by rw [F.scope]; exact F.fn
theorem FrOk.noDbg (F:FrOk sc env kp H fr s.heap) {x:Str}{k:NameKind}(h:sc.names.lookup x=some k):(x == ("__debug__" : Str))=false:=by
 cases e:x == ("__debug__" : Str) with
 | false=>rfl
 | true=>rw [beq_iff_eq.mp e,F.nd] at h; cases h
theorem FrOk.noCd (F:FrOk sc env kp H fr s.heap) {x:Str}{k:NameKind}(h:sc.names.lookup x=some k):(x == ("__classdict__" : Str))=false:=by
 cases e:x == ("__classdict__" : Str) with
 | false=>rfl
 | true=>rw [beq_iff_eq.mp e,F.nc] at h; cases h
noncomputable def ownName (sc:Scope) (x:Str):Bool:=match sc.names.lookup x with
 | some .local=>true
 | some .cell=>true
 | some .free=>true
 | _=>false
theorem ev_name {x:Str}{pos:Pos}{v:PV}(hx:ownName sc x=true) (hv:fr.lookup x=some v) (q:Q v H):EvOk C n sc (.Name x pos) fr H Q:=⟨fun A kp env s hA S F=>by
 unfold ownName at hx
 cases hk:sc.names.lookup x with
 | none=>rw [hk] at hx; cases hx
 | some k =>
  rw [hk] at hx
  refine wpAny_Name ?_ (F.noDbg hk)
  induction k using PySem.NameKind.casesOn with
  | «local» =>
   refine byP fun PG kG=>?_
   obtain ⟨m,hn,hm⟩:=F.ns
   obtain ⟨w,hw,t⟩:=hm x v hv hk
   refine kG ?_
   exact wpAny_loadName_local F.fnE ((F.kind x).trans hk) hn hw ⟨_,H,S,F,t,q⟩
  | cell =>
   refine byP fun PG kG=>?_
   obtain ⟨c,w,hc,hi,t⟩:=F.cell x v hv (.inl hk)
   refine kG ?_
   exact wpAny_loadName_cell F.fnE ((F.kind x).trans hk) hc hi ⟨_,H,S,F,t,q⟩
  | free =>
   refine byP fun PG kG=>?_
   obtain ⟨c,w,hc,hi,t⟩:=F.cell x v hv (.inr hk)
   refine kG ?_
   exact wpAny_loadName_free F.fnE ((F.kind x).trans hk) hc hi ⟨_,H,S,F,t,q⟩ (F.noCd hk)
  | _=>cases hx⟩
noncomputable def GlobIs (C:Cfg) (x:Str) (v:PV):Prop:=∃w,(C.mg x=some w∨(C.mg x=none∧C.mb x=some w))∧∀h,Tells h w v
theorem ev_glob {x:Str}{pos:Pos}{v:PV}(hx:sc.names.lookup x=some .globalImplicit) (g:GlobIs C x v) (q:Q v H):EvOk C n sc (.Name x pos) fr H Q:=⟨fun A kp env s hA S F=>by
 obtain ⟨w,hw,t⟩:=g
 refine Name_function_global F.fnE ((F.kind x).trans hx) ?_ (F.noDbg hx)
 rcases hw with hw | ⟨h0,hw⟩
 ·exact loadGlobal_global (by rw [F.glob]; exact S.g) hw ⟨_,H,S,F,t _,q⟩
 ·exact loadGlobal_builtin (by rw [F.glob]; exact S.g) h0 (by rw [F.bi]; exact S.b) hw ⟨_,H,S,F,t _,q⟩⟩
theorem EvOk.two {l r:Expr}{f:Value→Value→Sem Value}(h:EvOk C n sc l fr H fun a H1=>EvOk C n sc r fr H1 fun b H2=>Op2Ok C n f a b H2 Q) (hA:Rm n A) (S:St C kp H s) (F:FrOk sc env kp H fr s.heap) :
  wpAny (model C.prog C.w) A (eval l env) (fun u s1=>wpAny (model C.prog C.w) A (eval r env) (fun v s2=>wpAny (model C.prog C.w) A (f u v) (Back C sc kp env fr Q) noE s2) noE s1) noE s :=
 h.next hA S F fun u s1 a H1 S1 F1 t1 q1=>q1.nextK hA S1 F1 fun v s2 b H2 K S2 F2 t2 q2=>op_frame F2 S2 fun kp' S' _=>q2.run A kp' s2 u v hA S' (t1.keep K) t2
theorem ev_binop {l r:Expr}{op:Operator}{pos:Pos}(h:EvOk C n sc l fr H fun a H1=>EvOk C n sc r fr H1 fun b H2=>Op2Ok C n (binaryOp op) a b H2 Q) :
  EvOk C n sc (.BinOp l op r pos) fr H Q:=⟨fun A kp env s hA S F =>
 wpAny_BinOp (h.two hA S F)⟩
theorem ev_compare {l r:Expr}{op:CmpOp}{pos:Pos}(h:EvOk C n sc l fr H fun a H1=>EvOk C n sc r fr H1 fun b H2=>Op2Ok C n (compareOp op) a b H2 Q)
  (hm:behindInMarks op r=false):EvOk C n sc (.Compare l [op] [r] pos) fr H Q:=⟨fun A kp env s hA S F =>
 wpAny_Compare1 (h.two hA S F) hm⟩
theorem ev_neg {i:Int}{x:Expr}{pos:Pos}(h:EvOk C n sc x fr H fun v H'=>∃i,v=.int i∧Q (.int (-i)) H'):EvOk C n sc (.UnaryOp .USub x pos) fr H Q:=⟨fun A kp env s hA S F =>
 wpAny_UnaryOp (h.next hA S F fun u s1 a H1 S1 F1 t1 q=>by
  obtain ⟨i,rfl,q⟩:=q; obtain ⟨t,rfl⟩:=t1.inv; with_reducible exact P.neg_int (.of (S1.toks _) F1 (.int _ _) q))⟩
theorem ev_tuple {es:List Expr}{k:Nat}{pos:Pos}(h:EvsOk C n sc es fr H fun xs H'=>xs.length≤1000∧Q (.tup xs) H'):EvOk C n sc (.Tuple es k pos) fr H Q:=⟨fun A kp env s hA S F =>
 wpAny_Tuple (h.next hA S F fun vs s1 xs H1 S1 F1 t1 q =>
  ⟨t1.fits q.1,.tup xs,H1,S1.grow (push_old _),F1.grow (push_old _),.tup (Heap.get?_push_size _ rfl) (t1.keep (Keep.of_all (push_old _))),q.2⟩)⟩
theorem ev_list {es:List Expr}{pos:Pos}(h:EvsOk C n sc es fr H fun xs H'=>xs.length≤1000∧∀a,H' a=none→Q (.ref a) (H'.set a (.list xs))):EvOk C n sc (.List es pos) fr H Q:=⟨fun A kp env s hA S F =>
 wpAny_List (h.next hA S F fun vs s1 xs H1 S1 F1 t1 q=>by
  refine ⟨t1.fits q.1,.ref s1.heap.objs.size,_,S1.new (Nat.le_refl _) (push_old _) (g':=.list xs) ⟨vs,0,Heap.get?_push_size _ rfl,t1.keep (Keep.of_all (push_old _))⟩,?_,.ref _,q.2 _ (S1.fresh (Nat.le_refl _)).1⟩
  refine F1.change (fun b o _ e=>push_old _ b o e) (Keep.of_all (push_old _)) fun b onf=>?_
  rw [GHeap.set_other]
  ·exact F1.free onf
  ·rintro rfl
   exact (F1.there onf).elim fun o ho=>Nat.lt_irrefl _ (Heap.lt_size ho))⟩
theorem ev_ifexp {t b o:Expr}{pos:Pos}(h:TsOk C n sc t fr H fun c H1=>(c=true→EvOk C n sc b fr H1 Q)∧(c=false→EvOk C n sc o fr H1 Q)):EvOk C n sc (.IfExp t b o pos) fr H Q:=⟨fun A kp env s hA S F =>
 wpAny_IfExp (h.next hA S F fun c s1 H1 S1 F1 q=>by
  cases c
  ·exact (q.2 rfl).run A kp env s1 hA S1 F1
  ·exact (q.1 rfl).run A kp env s1 hA S1 F1)⟩
noncomputable def notStar:Expr→Bool
 | .Starred ..=>false
 | _=>true
theorem starEach_cons {e:Expr}(he:notStar e=true) (rest:List Expr) (env:Env):starEach (e::rest) env=(false,eval e env)::starEach rest env:=by
 cases e<;>first | rfl | cases he
theorem evs_nil {Q:List PV→GHeap→Prop}(q:Q [] H):EvsOk C n sc [] fr H Q:=⟨fun pos A kp env s hA S F=>spliced_nil ⟨[],H,S,F,.nil,q⟩⟩
theorem evs_cons {e:Expr}{rest:List Expr}{Q:List PV→GHeap→Prop}(h:EvOk C n sc e fr H fun x H1=>EvsOk C n sc rest fr H1 fun xs H2=>Q (x::xs) H2) (he:notStar e=true) :
  EvsOk C n sc (e::rest) fr H Q:=⟨fun pos A kp env s hA S F=>by
 rw [starEach_cons he]
 exact spliced_cons (h.next hA S F fun u s1 a H1 S1 F1 t1 q1=>q1.nextK hA S1 F1 fun vs s2 xs H2 K S2 F2 t2 q2=>⟨a::xs,H2,S2,F2,.cons (t1.keep K) t2,q2⟩)⟩
theorem ts_compare {l r:Expr}{op:CmpOp}{pos:Pos}{Q:Bool→GHeap→Prop}(h:EvOk C n sc l fr H fun a H1=>EvOk C n sc r fr H1 fun b H2=>Op2Ok C n (compareOp op) a b H2 fun c H3=>∃q,c=.bool q∧Q q H3)
  (hm:behindInMarks op r=false):TsOk C n sc (.Compare l [op] [r] pos) fr H Q:=⟨fun A kp env s hA S F =>
 wpAny_isTrue_Compare1 (wpAny_mono (h.two hA S F) (fun u s1 z=>wpAny_mono z (fun v s2 z=>wpAny_mono z (fun c s3 z=>z.casesOn fun x H3 S3 F3 t3 q=>by
  obtain ⟨q,rfl,hq⟩:=q
  obtain rfl:=t3.inv
  exact wpAny_truthy_bool ⟨H3,S3,F3,hq⟩) fun _ _ x=>x) fun _ _ x=>x) fun _ _ x=>x) hm⟩
theorem ts_not {x:Expr}{pos:Pos}{Q:Bool→GHeap→Prop}(h:TsOk C n sc x fr H fun b H1=>Q (!b) H1):TsOk C n sc (.UnaryOp .Not x pos) fr H Q:=⟨fun A kp env s hA S F =>
 wpAny_isTrue_Not (h.next hA S F fun b s1 H1 S1 F1 q=>⟨H1,S1,F1,q⟩)⟩
theorem ts_and_nil {pos:Pos}{Q:Bool→GHeap→Prop}(q:Q true H):TsOk C n sc (.BoolOp .And [] pos) fr H Q:=⟨fun A kp env s hA S F=>isTrue_and_nil ⟨H,S,F,q⟩⟩
theorem ts_or_nil {pos:Pos}{Q:Bool→GHeap→Prop}(q:Q false H):TsOk C n sc (.BoolOp .Or [] pos) fr H Q:=⟨fun A kp env s hA S F=>isTrue_or_nil ⟨H,S,F,q⟩⟩
theorem isTrue_BoolOp_any (op:BoolOp) (values:List Expr) (pos:Pos) (env:Env) (w w':Sem Value):isTrue (.BoolOp op values pos) env w=isTrue (.BoolOp op values pos) env w':=rfl
theorem ts_and {x:Expr}{rest:List Expr}{pos:Pos}{Q:Bool→GHeap→Prop}(h:TsOk C n sc x fr H fun b H1=>(b=true→TsOk C n sc (.BoolOp .And rest pos) fr H1 Q)∧(b=false→Q false H1)) :
  TsOk C n sc (.BoolOp .And (x::rest) pos) fr H Q:=⟨fun A kp env s hA S F=>isTrue_and (h.next hA S F fun b s1 H1 S1 F1 q=>by
  cases b
  ·exact ⟨H1,S1,F1,q.2 rfl⟩
  ·exact (q.1 rfl).run A kp env s1 hA S1 F1)⟩
theorem ts_or {x:Expr}{rest:List Expr}{pos:Pos}{Q:Bool→GHeap→Prop}(h:TsOk C n sc x fr H fun b H1=>(b=true→Q true H1)∧(b=false→TsOk C n sc (.BoolOp .Or rest pos) fr H1 Q)) :
  TsOk C n sc (.BoolOp .Or (x::rest) pos) fr H Q:=⟨fun A kp env s hA S F=>isTrue_or (h.next hA S F fun b s1 H1 S1 F1 q=>by
  cases b
  ·exact (q.2 rfl).run A kp env s1 hA S1 F1
  ·exact ⟨H1,S1,F1,q.1 rfl⟩)⟩
inductive Truth:PV→Bool→Prop
 | bool (b:Bool):Truth (.bool b) b
 | int (i:Int):Truth (.int i) (i != 0)
 | none:Truth .none false
theorem Truth.run {M:Model}{h:Heap}{v:Value}{x:PV}{b:Bool}{R:Bool→Shared→Prop}{E:Value→Shared→Prop}(t:Truth x b) (T:Tells h v x) (q:R b s) (hM:∃p w,M=model p w):wpAny M A (truthy v) R E s:=by
 obtain ⟨p,w,rfl⟩:=hM
 cases t with
 | bool=>obtain rfl:=T.inv; exact wpAny_truthy_bool q
 | int=>obtain ⟨_,rfl⟩:=T.inv; exact P.truthy_int q
 | none=>obtain rfl:=T.inv; exact truthy_none q
noncomputable def plainTest:Expr→Bool
 | .UnaryOp .Not _ _=>false
 | .BoolOp ..=>false
 | .IfExp ..=>false
 | .Compare ..=>false
 | _=>true
theorem plainTest_is {e:Expr}(he:plainTest e=true) (env:Env) (whole:Sem Value):isTrue e env whole=(do let v ←whole; standAt e.pos; holding [v] (truthy v)):=by
 induction e using PySem.Expr.casesOn with
 | UnaryOp op _ _=>cases op<;>first | rfl | cases he
 | _=>first | rfl | cases he
theorem ts_value {e:Expr}{Q:Bool→GHeap→Prop}(h:EvOk C n sc e fr H fun x H1=>∃b,Truth x b∧Q b H1) (he:plainTest e=true):TsOk C n sc e fr H Q:=⟨fun A kp env s hA S F =>
 isTrue_plain (h.next hA S F fun u s1 a H1 S1 F1 t1 q=>q.elim fun b q=>q.1.run t1 ⟨H1,S1,F1,q.2⟩ ⟨_,_,rfl⟩) (plainTest_is he _ _)⟩
theorem ev_bool1 {e:Expr}{op:BoolOp}{pos:Pos}(h:EvOk C n sc e fr H Q):EvOk C n sc (.BoolOp op [e] pos) fr H Q:=⟨fun A kp env s hA S F=>BoolOp_one (h.run A kp env s hA S F)⟩
theorem ev_and {e₁ e₂:Expr}{rest:List Expr}{pos:Pos}(h:EvOk C n sc e₁ fr H fun x H1=>∃b,Truth x b∧(b=true→EvOk C n sc (.BoolOp .And (e₂::rest) pos) fr H1 Q)∧(b=false→Q x H1)) :
  EvOk C n sc (.BoolOp .And (e₁::e₂::rest) pos) fr H Q:=⟨fun A kp env s hA S F=>BoolOp_and (h.next hA S F fun u s1 a H1 S1 F1 t1 q=>q.elim fun b q=>q.1.run t1 (by
  cases b
  ·exact ⟨_,H1,S1,F1,t1,q.2.2 rfl⟩
  ·exact (q.2.1 rfl).run A kp env s1 hA S1 F1) ⟨_,_,rfl⟩)⟩
theorem ev_or {e₁ e₂:Expr}{rest:List Expr}{pos:Pos}(h:EvOk C n sc e₁ fr H fun x H1=>∃b,Truth x b∧(b=true→Q x H1)∧(b=false→EvOk C n sc (.BoolOp .Or (e₂::rest) pos) fr H1 Q)) :
  EvOk C n sc (.BoolOp .Or (e₁::e₂::rest) pos) fr H Q:=⟨fun A kp env s hA S F=>BoolOp_or (h.next hA S F fun u s1 a H1 S1 F1 t1 q=>q.elim fun b q=>q.1.run t1 (by
  cases b
  ·exact (q.2.2 rfl).run A kp env s1 hA S1 F1
  ·exact ⟨_,H1,S1,F1,t1,q.2.1 rfl⟩) ⟨_,_,rfl⟩)⟩
section
variable {a b:Int}
theorem op_add (q:Q (.int (a+b)) H):Op2Ok C n (binaryOp .Add) (.int a) (.int b) H Q:=.ints fun A kp s u v _ S=>by with_reducible exact P.add_int (.of (S.toks _) (.int _ _) q)
theorem op_sub (q:Q (.int (a-b)) H):Op2Ok C n (binaryOp .Sub) (.int a) (.int b) H Q:=.ints fun A kp s u v _ S=>by with_reducible exact P.sub_int (.of (S.toks _) (.int _ _) q)
theorem op_mul (ha:a.natAbs<2^64) (q:Q (.int (a*b)) H):Op2Ok C n (binaryOp .Mult) (.int a) (.int b) H Q:=.ints fun A kp s u v _ S=>by
 with_reducible exact P.mul_int (.of (S.toks _) (.int _ _) q) (.of_left (intBits_le ha))
theorem op_fdiv (hb:0<b) (hs:b.natAbs<1073741824) (q:Q (.int (a/b)) H):Op2Ok C n (binaryOp .FloorDiv) (.int a) (.int b) H Q:=.ints fun A kp s u v _ S=>by
 rw [←Int.fdiv_eq_ediv_of_nonneg _ (Int.le_of_lt hb)] at q
 with_reducible exact floordiv_int (Int.ne_of_gt hb) (.of (S.toks _) (.int _ _) q) (.inl (PyProof.noPylong_small hs))
theorem op_mod (hb:0<b) (q:Q (.int (a%b)) H):Op2Ok C n (binaryOp .Mod) (.int a) (.int b) H Q:=.ints fun A kp s u v _ S=>by
 rw [←Int.fmod_eq_emod_of_nonneg _ (Int.le_of_lt hb)] at q
 with_reducible exact PyProof.Rows.mod_int (Int.ne_of_gt hb) (.of (S.toks _) (.int _ _) q)
theorem op_pow (hb:0≤b) (hb2:b≤1000000) (ha:a.natAbs<2^64) (q:Q (.int (a^b.toNat)) H):Op2Ok C n (binaryOp .Pow) (.int a) (.int b) H Q:=.ints fun A kp s u v _ S=>by with_reducible exact pow_int_small hb hb2 ha (.of (S.toks _) (.int _ _) q)
theorem op_shl (hb:0≤b) (hb2:b≤1000000) (ha:a.natAbs<2^64) (q:Q (.int (a*2^b.toNat)) H):Op2Ok C n (binaryOp .LShift) (.int a) (.int b) H Q:=.ints fun A kp s u v _ S=>by with_reducible exact lshift_int_small hb hb2 ha (.of (S.toks _) (.int _ _) q)
theorem op_shr (hb:0≤b) (q:Q (.int (a.fdiv (2^b.toNat))) H):Op2Ok C n (binaryOp .RShift) (.int a) (.int b) H Q:=.ints fun A kp s u v _ S=>by with_reducible exact rshift_int hb (.of (S.toks _) (.int _ _) q)
theorem op_band (q:Q (.int (Builtin.bitAnd a b)) H):Op2Ok C n (binaryOp .BitAnd) (.int a) (.int b) H Q:=.ints fun A kp s u v _ S=>by with_reducible exact and_int (.of (S.toks _) (.int _ _) q)
theorem op_bor (q:Q (.int (Builtin.bitOr a b)) H):Op2Ok C n (binaryOp .BitOr) (.int a) (.int b) H Q:=.ints fun A kp s u v _ S=>by with_reducible exact or_int (.of (S.toks _) (.int _ _) q)
theorem op_lt (q:Q (.bool (decide (a<b))) H):Op2Ok C n (compareOp .Lt) (.int a) (.int b) H Q:=.ints fun A kp s u v _ S=>by with_reducible exact P.lt_int (.of (S) (.bool _) q)
theorem op_le (q:Q (.bool (decide (a≤b))) H):Op2Ok C n (compareOp .LtE) (.int a) (.int b) H Q:=.ints fun A kp s u v _ S=>by with_reducible exact P.le_int (.of (S) (.bool _) q)
theorem op_gt (q:Q (.bool (decide (b<a))) H):Op2Ok C n (compareOp .Gt) (.int a) (.int b) H Q:=.ints fun A kp s u v _ S=>by with_reducible exact P.gt_int (.of (S) (.bool _) q)
theorem op_ge (q:Q (.bool (decide (b≤a))) H):Op2Ok C n (compareOp .GtE) (.int a) (.int b) H Q:=.ints fun A kp s u v _ S=>by with_reducible exact P.ge_int (.of (S) (.bool _) q)
theorem op_eq (q:Q (.bool (decide (a=b))) H):Op2Ok C n (compareOp .Eq) (.int a) (.int b) H Q:=.ints fun A kp s u v _ S=>by
 with_reducible refine P.eq_int (.of S (.bool _) ?_)
 rwa [show (a == b)=decide (a=b) from rfl]
theorem op_ne (q:Q (.bool (decide (a≠b))) H):Op2Ok C n (compareOp .NotEq) (.int a) (.int b) H Q:=.ints fun A kp s u v _ S=>by
 with_reducible refine P.ne_int (.of S (.bool _) ?_)
 rwa [show (a != b)=decide (a≠b) from (by show (!(decide (a=b)))=decide (¬a=b); simp)]
end
noncomputable def PV.isNone:PV→Bool
 | .none=>true
 | _=>false
theorem Tells.isNone {h:Heap}{v:Value}{x:PV}(t:Tells h v x):(v == .none)=x.isNone:=by cases t<;>rfl
theorem op_is_none {x:PV}(q:Q (.bool x.isNone) H):Op2Ok C n (compareOp .Is) x .none H Q:=⟨fun A kp s u v _ S t1 t2=>by
 obtain rfl:=t2.inv; exact is_none ⟨_,H,S,.bool _,t1.isNone▸q⟩⟩
theorem op_isnot_none {x:PV}(q:Q (.bool (!x.isNone)) H):Op2Ok C n (compareOp .IsNot) x .none H Q:=⟨fun A kp s u v _ S t1 t2=>by
 obtain rfl:=t2.inv; exact isNot_none ⟨_,H,S,.bool _,t1.isNone▸q⟩⟩
end
end
section
section
variable {C:Cfg}{n:Nat}{sc:Scope}{fr:Vars}{H:GHeap}{A:Around}{kp:Kp}{env:Env}{s:Shared}
theorem BackF.of {Q:Fl→Vars→GHeap→Prop}{f:Flow}{s':Shared}{fl:Fl}{fr':Vars}{H':GHeap}(S:St C kp H' s') (F:FrOk sc env kp H' fr' s'.heap) (t:FlIs s'.heap f fl) (q:Q fl fr' H'):BackF C sc kp env Q f s':=⟨fl,fr',H',S,F,t,q⟩
theorem store_name {x:Str}{u:Value}{v:PV}{Q:Unit→Shared→Prop}(S:St C kp H s) (F:FrOk sc env kp H fr s.heap) (t:Tells s.heap u v) (hx:sc.names.lookup x=some .local∨(isComp sc=false∧sc.names.lookup x=some .cell))
  (q:∀s',St C kp H s'→FrOk sc env kp H (putD x v fr) s'.heap→Q () s'):wpAny (model C.prog C.w) A (storeName env x u) Q noE s:=by
 rcases hx with hx | ⟨hic,hx⟩
 ·obtain ⟨m,hn,hm⟩:=F.ns
  refine wpAny_storeName_local ((F.kind x).trans hx) hn (fun h' hn' hs'=>?_) (by rw [F.fnE]; rfl)
  obtain ⟨o,es,ep,ho,hd,_⟩:=hn
  have K:Keep s.heap h':=Keep.sameBut hs' ho (fz_dict hd)
  refine q _ (S.change hs'.extBut F.kpL F.HL fun o' e'=>?_) ?_
  ·rw [ho] at e'; cases e'; exact fz_dict hd
  ·refine ⟨F.scope,F.glob,F.bi,F.fn,F.nd,F.nc,⟨_,hn',fun y w e l=>?_⟩,F.kpL,F.HL,fun y w e l=>?_,fun y ic l=>?_,fun y c e=>⟨(F.Hc y c e).1,(F.Hc y c e).2.1,?_⟩⟩
   ·rw [lookup_putD] at e
    by_cases hy:y=x
    ·subst hy
     rw [beq_self_eq_true,if_pos rfl] at e
     rw [if_pos rfl]
     cases e
     exact ⟨u,rfl,t.keep K⟩
    ·rw [beq_eq_false_iff_ne.mpr hy,if_neg Bool.false_ne_true] at e
     rw [if_neg hy]
     obtain ⟨w',a,b⟩:=hm y w e l
     exact ⟨w',a,b.keep K⟩
   ·have hy:y≠x:=by rintro rfl; rw [hx] at l; rcases l with l | l<;>cases l
    rw [lookup_putD,beq_eq_false_iff_ne.mpr hy,if_neg Bool.false_ne_true] at e
    obtain ⟨c,w',a,i,t'⟩:=F.cell y w e l
    exact ⟨c,w',a,i.sameBut hs' (F.Hc y c a).2.1,t'.keep K⟩
   ·obtain ⟨c,w',a,i,r⟩:=F.own y ic l
    exact ⟨c,w',a,i.sameBut hs' (F.Hc y c a).2.1,r⟩
   ·obtain ⟨w',i⟩:=(F.Hc y c e).2.2
    exact ⟨w',i.sameBut hs' (F.Hc y c e).2.1⟩
 ·obtain ⟨c,w,hc,hi,hk,hu⟩:=F.own x hic hx
  refine wpAny_storeName_cell F.fnE ((F.kind x).trans hx) hc hi fun h' hi' hs'=>?_
  obtain ⟨o,ho,hd⟩:=hi
  have K:Keep s.heap h':=Keep.sameBut hs' ho (fz_cell hd)
  obtain ⟨hHc,hcl,_⟩:=F.Hc x c hc
  have keepC:∀y d w,env.cells.lookup y=some d→y≠x→s.heap.IsCell d w→h'.IsCell d w:=fun y d w e hy i=>i.sameBut hs' (by rintro rfl; exact hy (hu y e))
  refine q _ (S.change (t:=s.toks) hs'.extBut hk hHc fun o' e'=>?_) ?_
  ·rw [ho] at e'; cases e'; exact fz_cell hd
  ·refine ⟨F.scope,F.glob,F.bi,F.fn,F.nd,F.nc,?_,F.kpL,F.HL,fun y w e l=>?_,fun y ic l=>?_,fun y d e=>⟨(F.Hc y d e).1,(F.Hc y d e).2.1,?_⟩⟩
   ·obtain ⟨m,hn,hm⟩:=F.ns
    refine ⟨m,hn.sameBut hs' (Ne.symm hcl),fun y w e l=>?_⟩
    have hy:y≠x:=by rintro rfl; rw [hx] at l; cases l
    rw [lookup_putD,beq_eq_false_iff_ne.mpr hy,if_neg Bool.false_ne_true] at e
    obtain ⟨w',a,b⟩:=hm y w e l
    exact ⟨w',a,b.keep K⟩
   ·rw [lookup_putD] at e
    by_cases hy:y=x
    ·subst hy
     rw [beq_self_eq_true,if_pos rfl] at e
     cases e
     exact ⟨c,u,hc,hi',t.keep K⟩
    ·rw [beq_eq_false_iff_ne.mpr hy,if_neg Bool.false_ne_true] at e
     obtain ⟨d,w',a,i,t'⟩:=F.cell y w e l
     exact ⟨d,w',a,keepC y d _ a hy i,t'.keep K⟩
   ·by_cases hy:y=x
    ·subst hy; exact ⟨c,_,hc,hi',hk,hu⟩
    ·obtain ⟨d,w',a,i,r⟩:=F.own y ic l
     exact ⟨d,w',a,keepC y d _ a hy i,r⟩
   ·by_cases hy:y=x
    ·subst hy; rw [hc] at e; cases e; exact ⟨_,hi'⟩
    ·obtain ⟨w',i⟩:=(F.Hc y d e).2.2
     exact ⟨w',keepC y d _ e hy i⟩
noncomputable def putName (sc:Scope) (x:Str):Bool:=match sc.names.lookup x with
 | some .local=>true
 | some .cell=>!isComp sc
 | _=>false
theorem putName_is {x:Str}(h:putName sc x=true):sc.names.lookup x=some .local∨(isComp sc=false∧sc.names.lookup x=some .cell):=by
 unfold putName at h
 split at h
 ·rename_i e; exact .inl e
 ·rename_i e; exact .inr ⟨by simpa using h,e⟩
 ·cases h
theorem ex_nil {Q:Fl→Vars→GHeap→Prop}(q:Q .next fr H):ExOk C n sc [] fr H Q:=⟨fun A kp env s hA S F=>wpAny_execs_nil (.of S F .next q)⟩
noncomputable def thenF (next:Prop) (other:Prop):Fl→Prop
 | .next=>next
 | _=>other
theorem ex_cons {st:Stmt}{rest:List Stmt}{Q:Fl→Vars→GHeap→Prop}(h:SOk C n sc st fr H fun fl fr' H'=>thenF (ExOk C n sc rest fr' H' Q) (Q fl fr' H') fl):ExOk C n sc (st::rest) fr H Q:=⟨fun A kp env s hA S F =>
 wpAny_execs_cons (h.next hA S F fun f s' fl fr' H' S' F' t q=>by
  cases t with
  | next=>exact ExOk.run q A kp env s' hA S' F'
  | brk=>exact .of S' F' .brk q
  | cont=>exact .of S' F' .cont q
  | ret t=>exact .of S' F' (.ret t) q)⟩
theorem st_return {e:Expr}{pos:Pos}{Q:Fl→Vars→GHeap→Prop}(h:EvOk C n sc e fr H fun v H'=>Q (.ret v) fr H'):SOk C n sc (.Return (some e) pos) fr H Q:=⟨fun A kp env s hA S F =>
 wpAny_Return_some (h.next hA S F fun v s' x H' S' F' t q=>.of S' F' (.ret t) q)⟩
theorem st_return0 {pos:Pos}{Q:Fl→Vars→GHeap→Prop}(q:Q (.ret .none) fr H):SOk C n sc (.Return none pos) fr H Q:=⟨fun A kp env s hA S F =>
 wpAny_Return_none (.of S F (.ret .none) q)⟩
theorem st_if {t:Expr}{b o:List Stmt}{pos:Pos}{Q:Fl→Vars→GHeap→Prop}(h:TsOk C n sc t fr H fun c H1=>(c=true→ExOk C n sc b fr H1 Q)∧(c=false→ExOk C n sc o fr H1 Q)):SOk C n sc (.If t b o pos) fr H Q:=⟨fun A kp env s hA S F =>
 wpAny_If (h.next hA S F fun c s1 H1 S1 F1 q=>by
  cases c
  ·exact (q.2 rfl).run A kp env s1 hA S1 F1
  ·exact (q.1 rfl).run A kp env s1 hA S1 F1)⟩
theorem st_break {pos:Pos}{Q:Fl→Vars→GHeap→Prop}(q:Q .brk fr H):SOk C n sc (.Break pos) fr H Q:=⟨fun A kp env s hA S F=>wpAny_Break (.of S F .brk q)⟩
noncomputable def noComp:Expr→Bool
 | .ListComp ..=>false
 | .SetComp ..=>false
 | .DictComp ..=>false
 | _=>true
theorem noComp_is {e:Expr}(h:noComp e=true) (t:Option Expr) (l:Nat) (env:Env):swapsWith e t l env=pure false:=by
 cases e<;>first | rfl | cases h
theorem st_assign {t e:Expr}{pos:Pos}{Q:Fl→Vars→GHeap→Prop}(h:EvOk C n sc e fr H fun v H'=>AsOk C n sc t v fr H' fun fr' H2=>Q .next fr' H2)
  (hc:noComp e=true) (hw:∀env,swappedStores [t] e env=pure none) (he:∀env,(assignEach [t] env).map (·.2)=[assign t env]):SOk C n sc (.Assign [t] e pos) fr H Q:=⟨fun A kp env s hA S F =>
 wpAny_Assign_stores (h.next hA S F fun v s1 x H1 S1 F1 t1 q=>by
  rw [he env]
  exact q.next hA S1 F1 t1 fun _ s2 fr' H2 S2 F2 q2=>.of S2 F2 .next q2) (noComp_is hc _ _ env) (hw env)⟩
theorem PV.isNone_is {x:PV}(h:x.isNone=true):x=.none:=by cases x<;>first | rfl | cases h
theorem st_expr {e:Expr}{pos:Pos}{Q:Fl→Vars→GHeap→Prop}(h:EvOk C n sc e fr H fun v H'=>v.isNone=true∧Q .next fr H') (hc:noComp e=true):SOk C n sc (.Expr e pos) fr H Q:=⟨fun A kp env s hA S F=>by
 have hi:interactive env=false:=by unfold interactive; rw [F.fnE]; rfl
 refine wpAny_Expr (h.next hA S F fun v s1 x H1 S1 F1 t1 q=>?_) hi (noComp_is hc _ _ env)
 obtain rfl:=PV.isNone_is q.1
 obtain rfl:=t1.inv
 exact BackF.of (Q:=Q) S1 F1 .next q.2⟩
noncomputable def Callee (C:Cfg):PV→Prop
 | .ref a=>keepIn C.K (.ref a)=true
 | .val _=>True
 | _=>False
theorem Callee.keeper {g:PV}{h:Heap}{u:Value}(c:Callee C g) (t:Tells h u g) (h':Heap) (X:C.K.In h'):∃k,(k=Keeper.frame∨k=Keeper.machine∨k=Keeper.boundFrame)∧Looks (model C.prog C.w) h' (keeperOf u) k:=by
 cases t with
 | ref a=>exact keeps_K c h' X
 | bi i=>exact ⟨.machine,.inr (.inl rfl),Looks.of_pure rfl⟩
 | ty i=>exact ⟨.machine,.inr (.inl rfl),Looks.of_pure rfl⟩
 | _=>cases c
theorem noStars {args:List Expr}(h:args.all notStar=true) (env:Env) (pos:Pos):(backTo pos (starEach args env)).any (·.1)=false:=by
 induction args with
 | nil=>rfl
 | cons e r ih =>
  rw [List.all_cons,Bool.and_eq_true] at h
  rw [starEach_cons h.1]
  show (false||(backTo pos (starEach r env)).any (·.1))=false
  rw [ih h.2]; rfl
theorem evalArgs_any {f:Value}{args:List Expr}(h:args.all notStar=true) {pos:Pos}{Q:Args→Shared→Prop}{M:Model}{E:Value→Shared→Prop}
  (q:wpAny M A (spliced (backTo pos (starEach args env))) (fun vs s'=>Q ⟨vs,[]⟩ s') E s):wpAny M A (evalArgs f true (backTo pos (starEach args env)) []) Q E s:=by
 induction args using List.casesOn with
 | nil =>
  exact evalArgs_kw_nil rfl fun Γ p hΓ=>q Γ p hΓ
 | cons e r =>
  rw [List.all_cons,Bool.and_eq_true] at h
  rw [starEach_cons h.1] at q ⊢
  exact evalArgs_plain q
noncomputable def notAttr:Expr→Bool
 | .Attribute ..=>false
 | _=>true
theorem eval_Call_plain {f:Expr}(h:notAttr f=true) (args:List Expr) (pos:Pos) (env:Env):eval (.Call f args [] pos) env=(do callWith pos (←eval f env) [] (backTo pos (starEach args env)) (backToKw pos (keywordEach [] env))):=by
 cases f<;>first | rfl | cases h
theorem ev_call {f:Expr}{args:List Expr}{pos:Pos}{Q:PV→GHeap→Prop}(h:EvOk C n sc f fr H fun g H1=>Callee C g∧EvsOk C n sc args fr H1 fun xs H2=>CallOk C n g xs H2 Q)
  (hf:notAttr f=true) (ha:args.all notStar=true):EvOk C n sc (.Call f args [] pos) fr H Q:=⟨fun A kp env s hA S F=>by
 rw [eval_Call_plain hf]
 exact wpAny_bind (h.next hA S F fun u s1 g H1 S1 F1 t1 q =>
  callWith_of (P:=fun h=>C.K.In h) (by rw [noStars ha]; rfl) (fun h' X=>q.1.keeper t1 h' X) (evalArgs_any ha (q.2.nextK hA S1 F1 fun vs s2 xs H2 K S2 F2 t2 q2=>⟨S2.K,
   op_frame F2 S2 fun kp' S' _=>q2.run A kp' s2 u vs hA S' (t1.keep K) t2⟩)))⟩
end
end
theorem lookup_zip {h:Heap}{names:List Str}{vs:List Value}{xs:List PV}(t:TellsL h vs xs) {x:Str}{v:PV}:(names.zip xs).lookup x=some v→∃w,(names.zip vs).lookup x=some w∧Tells h w v :=
 t.ind (P:=fun vs xs=>∀names:List Str,(names.zip xs).lookup x=some v→∃w,(names.zip vs).lookup x=some w∧Tells h w v) (fun names e=>by rw [List.zip_nil_right] at e; cases e) (fun {w _ y _} t _ ih names=>by
  induction names using List.casesOn with
  | nil=>intro e; cases e
  | cons z names =>
   rw [List.zip_cons_cons,List.zip_cons_cons,List.lookup_cons,List.lookup_cons]
   cases x == z with
   | true=>exact fun e=>⟨w,rfl,Option.some.inj e▸t⟩
   | false=>exact ih names) names
theorem zip_names {α:Type}:∀{names:List Str}{vs:List α},names.Nodup→((names.zip vs).map (·.1)).Nodup
 | [],_,_=>by simp
 | _::_,[],_=>by simp
 | y::names,v::vs,hn=>by
  rw [List.nodup_cons] at hn
  rw [List.zip_cons_cons,List.map_cons,List.nodup_cons]
  refine ⟨fun hm=>hn.1 ?_,zip_names hn.2⟩
  obtain ⟨⟨z,w⟩,hp,e⟩:=List.mem_map.mp hm
  cases e
  exact (List.of_mem_zip hp).1
noncomputable def flv:Fl→PV
 | .ret v=>v
 | _=>.none
theorem FlIs.val {h:Heap}{f:Flow}{fl:Fl}(t:FlIs h f fl):Tells h (match (generalizing:=false) f with | .ret v=>v | _=>.none) (flv fl):=by
 cases t with
 | ret t=>exact t
 | _=>exact .none
section
section
variable {C:Cfg}{n:Nat}{sc:Scope}{fr:Vars}{H:GHeap}{Q:PV→GHeap→Prop}{A:Around}{kp:Kp}{env:Env}{s:Shared}
theorem KV.lookup {K:Type} [BEq K] [LawfulBEq K] {h:Heap}{a:List (K×Value)}{b:List (K×PV)}(l:KV h a b):∀{k:K}{x:PV},b.lookup k=some x→∃v,a.lookup k=some v∧Tells h v x:=fun {k x}=>by
 induction l with
 | nil=>exact fun e=>nomatch e
 | @cons y v _ _ _ t r ih =>
  simp -iota only [List.lookup_cons,List.lookup_cons]
  cases k == y with
  | true=>exact fun e=>⟨v,rfl,Option.some.inj e▸t⟩
  | false=>exact ih
theorem KV.lookup_none {K:Type} [BEq K] [LawfulBEq K] {h:Heap}{a:List (K×Value)}{b:List (K×PV)}(l:KV h a b):∀{k:K},b.lookup k=none→a.lookup k=none:=fun {k}=>by
 induction l with
 | nil=>exact fun e=>rfl
 | @cons y v _ _ _ t r ih =>
  simp -iota only [List.lookup_cons,List.lookup_cons]
  cases k == y with
  | true=>exact fun e=>nomatch e
  | false=>exact ih
theorem KV.putD {K:Type} [BEq K] [LawfulBEq K] {h:Heap}{k:K}{v:Value}{x:PV}(t:Tells h v x) {a:List (K×Value)}{b:List (K×PV)}(l:KV h a b):KV h (putD k v a) (putD k x b):=by
 induction l with
 | nil=>exact .cons t .nil
 | @cons y v' _ _ _ t' r ih =>
  unfold Mine.putD
  cases k == y with
  | true=>exact .cons t r
  | false=>exact .cons t' ih
theorem valueAt_eq {K:Type} [DecidableEq K] (k:K):∀l:List (K×Value),valueAt l k=l.lookup k
 | []=>rfl
 | (y,v)::r=>by
  have ih:=valueAt_eq k r
  unfold valueAt at ih ⊢
  simp -iota only [List.find?_cons,List.lookup_cons]
  by_cases h:y=k
  ·subst h; simp
  ·rw [decide_eq_false h,beq_eq_false_iff_ne.mpr (Ne.symm h)]; exact ih
theorem stored_eq {K:Type} [DecidableEq K] (k:K) (v:Value):∀l:List (K×Value),(l.map (·.1)).Nodup→stored l k v=putD k v l
 | [],_=>rfl
 | (y,w)::r,hn=>by
  rw [List.map_cons,List.nodup_cons] at hn
  have ih:=stored_eq k v r hn.2
  unfold stored at ih ⊢
  unfold putD
  by_cases h:y=k
  ·subst h
   simp only [List.any_cons,decide_true,Bool.true_or,if_true,List.map_cons,beq_self_eq_true]
   rw [map_store_of_not_mem r y v hn.1]
  ·have h':(k == y)=false:=beq_eq_false_iff_ne.mpr (Ne.symm h)
   simp only [List.any_cons,decide_eq_false h,Bool.false_or,List.map_cons,if_neg h,h',Bool.false_eq_true,if_false]
   rw [←ih]
   split<;>rfl
theorem without_eq {K:Type} [DecidableEq K] (l:List (K×Value)) (k:K):without l k=l.filter fun kv=>!(kv.1 == k):=by
 unfold without
 congr 1
 funext kv
 by_cases h:kv.1=k
 ·simp [h]
 ·simp [h]
theorem KV.filter {K:Type}{h:Heap}(p:K→Bool) {a:List (K×Value)}{b:List (K×PV)}(l:KV h a b):KV h (a.filter fun kv=>p kv.1) (b.filter fun kv=>p kv.1):=by
 induction l with
 | nil=>exact .nil
 | @cons y v _ _ _ t r ih =>
  simp -iota only [List.filter_cons,List.filter_cons]
  cases p y with
  | true=>exact .cons t ih
  | false=>exact ih
theorem strKey {h:Heap}{u:Value}{k:Str}(t:Tells h u (.str k)):(strKind C.prog C.w).is k u=true:=by obtain ⟨_,rfl⟩:=t.inv; exact strKind_is _ _ _ _
theorem intKey {h:Heap}{u:Value}{k:Int}(t:Tells h u (.int k)):(intKind C.prog C.w).is k u=true:=by obtain ⟨_,rfl⟩:=t.inv; exact intKind_is _ _ _ _
theorem subscripted_any (slice:Expr) (o i:Value):∃ops,subscripted slice false o i=operate ops (getItem o i):=by
 induction slice using PySem.Expr.casesOn with
 | Slice l u st p=>cases st<;>exact ⟨_,rfl⟩
 | _=>exact ⟨_,rfl⟩
theorem sub_tail {value slice:Expr}{o i:Value}{T id:String}{R:Value→Shared→Prop}{E:Value→Shared→Prop}(hT:s.TypeIs o T) (hl:typeLookup (.type T) "__getitem__" = pure (some (.builtin id)))
  (h:wpAny (model C.prog C.w) A (getItem o i) R E s):wpAny (model C.prog C.w) A (subscriptTail value slice o i) R E s:=by
 obtain ⟨ops,hs⟩:=subscripted_any slice o i
 refine wpAny_bind ?_
 rw [getitemInPython_of_ne hT.not_modules]
 refine wpAny_bind (wpAny_specialOf hT hl ?_)
 have fin:wpAny (model C.prog C.w) A (subscripted slice false o i) (fun r s₃=>wpAny (model C.prog C.w) A (letTemporaryGo value o r>>=fun _=>pure r) R E s₃) E s:=by
  rw [hs]
  exact wpAny_operating (wpAny_mono h (fun r s₃ h₃=>wpAny_bind (wpAny_letTemporaryGo (wpAny_pure h₃))) fun _ _ x=>x)
 exact wpAny_pure (wpAny_bind fin)
noncomputable def BaseList (C:Cfg) (a:Addr) (xs:List PV):Prop:=∃vs:List Value,C.base.IsList a vs.toArray∧TellsL C.base vs xs
noncomputable def LsAt (C:Cfg) (H:GHeap) (a:Addr) (xs:List PV):Prop:=H a=some (.list xs)∨BaseList C a xs
theorem LsAt.isList {a:Addr}{xs:List PV}(l:LsAt C H a xs) (S:St C kp H s):∃vs:List Value,s.heap.IsList a vs.toArray∧TellsL s.heap vs xs:=by
 rcases l with e | ⟨vs,⟨o,ho,r⟩,t⟩
 ·refine byP fun PG kG=>?_
  obtain ⟨vs,n,e',t⟩:=S.own _ _ e
  refine kG ?_
  exact ⟨vs,⟨_,e',rfl,n,rfl⟩,t⟩
 ·exact ⟨vs,⟨o,S.baseIn _ _ ho,r⟩,t.keep (Keep.of_all S.baseIn)⟩
inductive SubOf (C:Cfg) (H:GHeap):PV→Prop
 | tup (xs:List PV):SubOf C H (.tup xs)
 | list {a:Addr}{xs:List PV}:LsAt C H a xs→SubOf C H (.ref a)
 | sdict {a:Addr}{kvs}:H a=some (.sdict kvs)→SubOf C H (.ref a)
 | idict {a:Addr}{kvs}:H a=some (.idict kvs)→SubOf C H (.ref a)
 | barr {a:Addr}{b}:H a=some (.barr b)→SubOf C H (.ref a)
theorem slot_bytearray_getitem:typeLookup (.type "bytearray") "__getitem__" = pure (some (.builtin "bytearray.__getitem__")):=by kernel_rfl
theorem SubOf.type {o:PV}{u:Value}(k:SubOf C H o) (S:St C kp H s) (t:Tells s.heap u o):∃T id,s.TypeIs u T∧typeLookup (.type T) "__getitem__" = pure (some (.builtin id)):=by
 cases k with
 | tup xs=>obtain ⟨_,_,rfl,e,_⟩:=t.inv; exact ⟨"tuple",_,⟨_,e,rfl⟩,slot_tuple_getitem.lookup⟩
 | list l=>obtain rfl:=t.inv; exact (l.isList S).elim fun _ z=>⟨"list",_,z.1.typeIs,slot_list_getitem.lookup⟩
 | sdict e=>obtain rfl:=t.inv; exact (S.own _ _ e).elim fun _ z=>⟨"dict",_,z.1.typeIs,slot_dict_getitem.lookup⟩
 | idict e=>obtain rfl:=t.inv; exact (S.own _ _ e).elim fun _ z=>⟨"dict",_,z.1.typeIs,slot_dict_getitem.lookup⟩
 | barr e=>obtain rfl:=t.inv; exact ⟨"bytearray",_,⟨_,S.own _ _ e,rfl⟩,slot_bytearray_getitem⟩
theorem ev_sub {value slice:Expr}{pos:Pos}(h:EvOk C n sc value fr H fun o H1=>EvOk C n sc slice fr H1 fun i H2=>SubOf C H2 o∧Op2Ok C n getItem o i H2 Q):EvOk C n sc (.Subscript value slice pos) fr H Q:=⟨fun A kp env s hA S F =>
 Subscript_ (h.next hA S F fun u s1 a H1 S1 F1 t1 q1=>q1.nextK hA S1 F1 fun v s2 b H2 K S2 F2 t2 q2=>(q2.1.type S2 (t1.keep K)).elim fun T z=>z.elim fun id z =>
  sub_tail z.1 z.2 (op_frame F2 S2 fun kp' S' _=>q2.2.run A kp' s2 u v hA S' (t1.keep K) t2))⟩
theorem gi_list {a:Addr}{xs:List PV}{k:Int}{x:PV}(l:LsAt C H a xs) (h0:0≤k) (h1:k<2^63) (hx:xs[k.toNat]?=some x) (q:Q x H):Op2Ok C n getItem (.ref a) (.int k) H Q:=.rf fun A kp s v hA S t2=>by
 refine byP fun PG kG=>?_
 obtain ⟨_,rfl⟩:=t2.inv
 obtain ⟨vs,hl,t⟩:=l.isList S
 obtain ⟨w,hw,tw⟩:=t.get hx
 refine kG ?_
 exact wpAny_getItem_list hl h0 h1 (x:=w) (List.getElem?_toArray.trans hw) (BackV.of S tw q)
theorem gi_list_neg {a:Addr}{xs:List PV}{k:Int}{x:PV}(l:LsAt C H a xs) (h0:k<0) (h1:-(xs.length:Int)≤k) (h2:-(2^63)≤k) (hx:xs[(k+xs.length).toNat]?=some x) (q:Q x H):Op2Ok C n getItem (.ref a) (.int k) H Q:=.rf fun A kp s v hA S t2=>by
 refine byP fun PG kG=>?_
 obtain ⟨_,rfl⟩:=t2.inv
 obtain ⟨vs,hl,t⟩:=l.isList S
 obtain ⟨w,hw,tw⟩:=t.get hx
 refine kG ?_
 have e:vs.toArray.size=xs.length:=by rw [List.size_toArray]; exact t.length
 exact wpAny_getItem_list_neg hl h0 (e▸h1) h2 (x:=w) (e▸List.getElem?_toArray.trans hw) (BackV.of S tw q)
theorem gi_tup {xs:List PV}{k:Int}{j:Nat}{x:PV}(h1:-(2^63)≤k) (h2:k<2^63) (hj:seqIndex? k xs.length=some j) (hx:xs[j]?=some x) (q:Q x H):Op2Ok C n getItem (.tup xs) (.int k) H Q:=⟨fun A kp s u v hA S t1 t2=>by
 refine byP fun PG kG=>?_
 obtain ⟨_,rfl⟩:=t2.inv
 obtain ⟨_,_,rfl,e,l⟩:=t1.inv
 obtain ⟨w,hw,tw⟩:=l.get hx
 refine kG ?_
 exact getItem_tuple ⟨_,e,rfl,0,rfl⟩ h1 h2 (j:=j) (x:=w) (l.length▸hj:seqIndex? k (List.length _)=some j) (List.getElem?_toArray.trans hw) (BackV.of S tw q)⟩
theorem gi_sdict {a:Addr}{kvs:List (Str×PV)}{k:Str}{x:PV}(e:H a=some (.sdict kvs)) (hx:kvs.lookup k=some x) (q:Q x H):Op2Ok C n getItem (.ref a) (.str k) H Q:=.rf fun A kp s v hA S t2=>by
 refine byP fun PG kG=>?_
 obtain ⟨vs,hd,t⟩:=S.own _ _ e
 obtain ⟨w,hw,tw⟩:=t.lookup hx
 refine kG ?_
 exact wpAny_getItem_of (strKey (C:=C) t2) hd.mapOf ((valueAt_eq k vs).trans hw) (BackV.of (S.toks _) tw q)
theorem gi_idict {a:Addr}{kvs:List (Int×PV)}{k:Int}{x:PV}(e:H a=some (.idict kvs)) (hx:kvs.lookup k=some x) (q:Q x H):Op2Ok C n getItem (.ref a) (.int k) H Q:=.rf fun A kp s v hA S t2=>by
 refine byP fun PG kG=>?_
 obtain ⟨vs,hd,t⟩:=S.own _ _ e
 obtain ⟨w,hw,tw⟩:=t.lookup hx
 refine kG ?_
 exact wpAny_getItem_of (intKey (C:=C) t2) hd.mapOf ((valueAt_eq k vs).trans hw) (BackV.of (S.toks _) tw q)
theorem in_sdict {a:Addr}{kvs:List (Str×PV)}{k:Str}(e:H a=some (.sdict kvs)) (q:Q (.bool (kvs.lookup k).isSome) H):Op2Ok C n (compareOp .In) (.str k) (.ref a) H Q:=.rfR fun A kp s u hA S t1=>by
 obtain ⟨vs,hd,t⟩:=S.own _ _ e
 refine wpAny_in_of (strKey (C:=C) t1) (S.notMods e) hd.mapOf (BackV.of (S.toks _) (.bool _) ?_)
 rw [valueAt_eq]
 cases hl:kvs.lookup k with
 | none=>rw [t.lookup_none hl]; rwa [hl] at q
 | some x=>obtain ⟨w,hw,_⟩:=t.lookup hl; rw [hw]; rwa [hl] at q
theorem in_idict {a:Addr}{kvs:List (Int×PV)}{k:Int}(e:H a=some (.idict kvs)) (q:Q (.bool (kvs.lookup k).isSome) H):Op2Ok C n (compareOp .In) (.int k) (.ref a) H Q:=.rfR fun A kp s u hA S t1=>by
 obtain ⟨vs,hd,t⟩:=S.own _ _ e
 refine wpAny_in_of (intKey (C:=C) t1) (S.notMods e) hd.mapOf (BackV.of (S.toks _) (.bool _) ?_)
 rw [valueAt_eq]
 cases hl:kvs.lookup k with
 | none=>rw [t.lookup_none hl]; rwa [hl] at q
 | some x=>obtain ⟨w,hw,_⟩:=t.lookup hl; rw [hw]; rwa [hl] at q
structure SetOk (C:Cfg) (n:Nat) (o i v:PV) (H:GHeap) (Q:GHeap→Prop):Prop where
 run:∀A kp s uo ui uv,Rm n A→St C kp H s→Tells s.heap uo o→Tells s.heap ui i→Tells s.heap uv v→wpAny (model C.prog C.w) A (setItem uo ui uv) (fun _ s'=>∃H',St C kp H' s'∧Q H') noE s
theorem set_frame {t:Sem Unit}{Q:GHeap→Prop}(F:FrOk sc env kp H fr s.heap) (S:St C kp H s)
  (h:∀kp',St C kp' H s→(∀b o,kp b=some o→kp' b=some o)→wpAny (model C.prog C.w) A t (fun _ s'=>∃H',St C kp' H' s'∧Q H') noE s) :
  wpAny (model C.prog C.w) A t (fun _ s'=>∃H',St C kp H' s'∧FrOk sc env kp H' fr s'.heap∧Q H') noE s:=by
 have:=op_frame (Q:=fun _ H'=>Q H') (t:=t>>=fun _=>pure .none) F S fun kp' S' k=>wpAny_bind (wpAny_mono (h kp' S' k) (fun _ s' ⟨H',S'',q⟩=>wpAny_pure (BackV.of S'' .none q)) fun _ _ x=>x)
 intro Γ p hΓ
 have z:=this Γ p hΓ
 rw [Sem.wp_bind'] at z
 exact Sem.wp_mono _ Γ t (fun u p' s' y=>y.casesOn fun _ H' S' F' _ q=>⟨H',S',F',q⟩) (fun _ _ _ x=>x) p s z
theorem as_sub {o i:Expr}{pos:Pos}{v:PV}{Q:Vars→GHeap→Prop}(h:EvOk C n sc o fr H fun ov H1=>EvOk C n sc i fr H1 fun iv H2=>SetOk C n ov iv v H2 (Q fr)):AsOk C n sc (.Subscript o i pos) v fr H Q:=⟨fun A kp env s u hA S F t=>by
 rw [assign_Subscript]
 exact wpAny_bind (wpAny_holding (h.nextK hA S F fun ou s1 ov H1 K1 S1 F1 t1 q1=>wpAny_bind (wpAny_holding (q1.nextK hA S1 F1 fun iu s2 iv H2 K2 S2 F2 t2 q2 =>
  wpAny_bind (wpAny_standAt (wpAny_bind (wpAny_holding (wpAny_mono (set_frame F2 S2 fun kp' S' _=>q2.run A kp' s2 ou iu u hA S' (t1.keep K2) t2 ((t.keep K1).keep K2)) (fun _ s3 z=>wpAny_release ⟨fr,z⟩) fun _ _ x=>x))))))))⟩
theorem SetOk.rf {a:Addr}{i v:PV}{Q:GHeap→Prop}(h:∀A kp s ui uv,Rm n A→St C kp H s→Tells s.heap ui i→Tells s.heap uv v→wpAny (model C.prog C.w) A (setItem (.ref a) ui uv) (fun _ s'=>∃H',St C kp H' s'∧Q H') noE s):SetOk C n (.ref a) i v H Q:=⟨fun A kp s uo ui uv hA S to ti tv=>by
 obtain rfl:=to.inv
 exact h A kp s ui uv hA S ti tv⟩
theorem dict_nodup {prog:Program}{w:World}{K:Type} [DecidableEq K] {knd:KeyKind prog w K}{h:Heap}{a:Addr}{kvs:List (K×Value)}(d:h.DictOf knd a kvs):(kvs.map (·.1)).Nodup :=
 d.elim fun _ d=>d.elim fun _ d=>d.elim fun _ d=>d.2.2.2.2.2
theorem si_any {K:Type} [DecidableEq K] (knd:KeyKind C.prog C.w K) (obj:List (K×PV)→GObj) (hob:∀h a l,Is C h a (obj l)=∃vs,h.DictOf knd a vs∧KV h vs l) {a:Addr}{kvs:List (K×PV)}{k:K}{v:PV}{ui uv:Value}{Q:GHeap→Prop}
  (S:St C kp H s) (hk:knd.is k ui=true) (tv:Tells s.heap uv v) (e:H a=some (obj kvs)) (hz:kvs.length≤1000) (q:Q (H.set a (obj (putD k v kvs)))):wpAny (model C.prog C.w) A (setItem (.ref a) ui uv) (fun _ s'=>∃H',St C kp H' s'∧Q H') noE s:=by
 have i:=S.own _ _ e
 refine byP fun PG kG=>?_
 obtain ⟨o,ho,hf⟩:=i.at
 rw [hob] at i
 obtain ⟨vs,hd,t⟩:=i
 refine kG ?_
 refine wpAny_setItem_pairs hk hd (fun h' hd' hs=>⟨_,S.put (g':=obj (putD k v kvs)) e hs ((hob _ _ _).symm▸⟨_,hd',?_⟩),q⟩) (line_of (t.length▸hz))
 rw [stored_eq k uv vs (dict_nodup hd)]
 have K:Keep s.heap h':=Keep.sameBut hs ho hf
 exact KV.putD (tv.keep K) (t.keep K)
theorem si_sdict {a:Addr}{kvs kvs':List (Str×PV)}{k:Str}{v:PV}{Q:GHeap→Prop}(e:H a=some (.sdict kvs)) (hp:putD k v kvs=kvs') (hz:kvs.length≤1000) (q:Q (H.set a (.sdict kvs'))):SetOk C n (.ref a) (.str k) v H Q:=.rf fun A kp s ui uv hA S ti tv =>
 si_any (strKind C.prog C.w) .sdict (fun _ _ _=>rfl) S (strKey (C:=C) ti) tv e hz (hp▸q)
theorem si_idict {a:Addr}{kvs:List (Int×PV)}{k:Int}{v:PV}{Q:GHeap→Prop}(e:H a=some (.idict kvs)) (hz:kvs.length≤1000) (q:Q (H.set a (.idict (putD k v kvs)))):SetOk C n (.ref a) (.int k) v H Q:=.rf fun A kp s ui uv hA S ti tv =>
 si_any (intKind C.prog C.w) .idict (fun _ _ _=>rfl) S (intKey (C:=C) ti) tv e hz q
end
end
section
theorem isStrOf_isStr (k:Str) (v:Value):Value.isStrOf k v=v.isStr k:=by
 cases v<;>rfl
section
variable {C:Cfg}{n:Nat}{sc:Scope}{fr:Vars}{H:GHeap}{Q:PV→GHeap→Prop}{A:Around}{kp:Kp}{env:Env}{s:Shared}
theorem dictOf_obj {prog:Program}{w:World}{K:Type} [DecidableEq K] {knd:KeyKind prog w K}{h:Heap}{a:Addr}{kvs:List (K×Value)}(d:h.DictOf knd a kvs) :
  ∃es n,h.get? a=some (dictOf es n)∧KeysOf knd es.toArray∧Pairs knd es kvs∧(kvs.map (·.1)).Nodup:=by
 refine byP fun PG kG=>?_
 obtain ⟨⟨c,dd,dt,sl⟩,es,ep,ho,hp,hd,hr⟩:=d
 obtain rfl:=hp.1
 obtain rfl:=hp.2.1
 obtain rfl:=hp.2.2
 obtain rfl:=hd
 refine kG ?_
 exact ⟨es.toList,ep,ho,hr⟩
theorem find_isStr {es:List DictEntry}{kvs:List (Str×Value)}(h:Pairs (strKind C.prog C.w) es kvs) (k:Str):(es.find? fun e=>e.key.isStr k).map (·.val)=kvs.lookup k:=by
 rw [←valueAt_eq,←h.find k]
 congr 2
 funext e
 exact (isStrOf_isStr k e.key).symm
theorem getL_of {es:List DictEntry}{kvs:List (Str×Value)}(h:Pairs (strKind C.prog C.w) es kvs) {k:Str}{v:Value}(e:kvs.lookup k=some v):getL k es=some (some v):=by
 have:=find_isStr h k
 rw [e] at this
 obtain ⟨en,he,hv⟩:=Option.map_eq_some_iff.mp this
 unfold getL
 rw [he,←hv]
theorem noRef {es:List DictEntry}{kvs:List (Str×Value)}(h:Pairs (strKind C.prog C.w) es kvs):es.any (·.refKey)=false:=by
 induction h with
 | nil=>rfl
 | cons h1 h2 _ ih =>
  simp -iota only [List.any_cons,ih,Bool.or_false]
  obtain ⟨t,e⟩:=Value.isStrOf_shape h1
  unfold DictEntry.refKey; rw [e]
theorem Pairs.putL {es:List DictEntry}{kvs:List (Str×Value)}(h:Pairs (strKind C.prog C.w) es kvs) (k:Str) (hsh:Int) (t:Tok) (v:Value):Pairs (strKind C.prog C.w) (putL k hsh (.str k t) v es) (putD k v kvs):=by
 induction h with
 | nil=>exact .cons (strKind_is _ _ _ _) rfl .nil
 | @cons e kv es kvs h1 h2 h3 ih =>
  obtain ⟨y,w⟩:=kv
  unfold PySem.W.putL putD
  have q:e.key.isStr k=(k == y):=by
   obtain ⟨t',e'⟩:=Value.isStrOf_shape h1
   rw [e']
   exact Bool.eq_iff_iff.mpr ⟨fun x=>beq_iff_eq.mpr (beq_iff_eq.mp x).symm,fun x=>beq_iff_eq.mpr (beq_iff_eq.mp x).symm⟩
  rw [q]
  cases hb:k == y with
  | true=>exact .cons h1 rfl h3
  | false=>exact .cons h1 h2 ih
theorem KeysOf.putL {es:List DictEntry}(h:∀e∈es,∃k,(strKind C.prog C.w).is k e.key=true∧e.hash=(strKind C.prog C.w).hash k) (k:Str) (t:Tok) (v:Value) :
  ∀e∈PySem.W.putL k ((strKind C.prog C.w).hash k) (.str k t) v es,∃k,(strKind C.prog C.w).is k e.key=true∧e.hash=(strKind C.prog C.w).hash k:=by
 induction es with
 | nil =>
  intro e he
  rcases List.mem_cons.mp he with rfl | he
  ·exact ⟨k,strKind_is _ _ _ _,rfl⟩
  ·cases he
 | cons e r ih =>
  unfold PySem.W.putL
  split
  ·intro e' he
   rcases List.mem_cons.mp he with rfl | he
   ·exact h e (.head _)
   ·exact h e' (.tail _ he)
  ·intro e' he
   rcases List.mem_cons.mp he with rfl | he
   ·exact h _ (.head _)
   ·exact ih (fun x hx=>h x (.tail _ hx)) e' he
theorem putD_nodup {α:Type}(k:Str) (v:α) {l:List (Str×α)}(h:(l.map (·.1)).Nodup):((putD k v l).map (·.1)).Nodup:=by
 by_cases hm:k∈l.map (·.1)
 ·rw [putD_keys_of_mem k v l hm]; exact h
 ·simp -iota only [putD_of_not_mem k v l hm,List.map_append]
  refine List.nodup_append.mpr ⟨h,by simp,fun a ha b hb e=>?_⟩
  subst e
  rcases List.mem_cons.mp hb with rfl | hb
  ·exact hm ha
  ·cases hb
theorem putL_length (k:Str) (hsh:Int) (key v:Value):∀es:List DictEntry,(PySem.W.putL k hsh key v es).length≤es.length+1
 | []=>Nat.le_refl _
 | e::r=>by
  unfold PySem.W.putL
  have:=putL_length k hsh key v r
  split<;>simp only [List.length_cons]<;>lia
structure GetA (C:Cfg) (cl:Addr) (name:Str):Prop where
 get:plainGet C.K cl name=true
 dict:hasDictIn C.K cl=true
 fnd:∃attr,findIn C.K (.ref cl) name=some attr∧noGet C.K attr=true
structure SetA (C:Cfg) (cl:Addr) (name:Str):Prop where
 set:findIn C.K (.ref cl) "__setattr__" = some (some (.builtin "object.__setattr__"))
 plain:plainOver C.K cl=true
 taker:takerIn C.K cl name=some none
 dict:hasDictIn C.K cl=true
theorem instAt (S:St C kp H s) {a cl dx:Addr}{kvs:List (Str×PV)}(e:H a=some (.inst cl dx)) (e':H dx=some (.sdict kvs)) :
  ∃es vs n,InstAt s.heap a (instObj cl dx) cl (some (dictOf es n))∧s.heap.get? dx=some (dictOf es n)∧KeysOf (strKind C.prog C.w) es.toArray∧Pairs (strKind C.prog C.w) es vs∧(vs.map (·.1)).Nodup∧KV s.heap vs kvs:=by
 refine byP fun PG kG=>?_
 obtain ⟨vs,hd,t⟩:=S.own _ _ e'
 obtain ⟨es,m,ho,hk,hp,hn⟩:=dictOf_obj hd
 refine kG ?_
 exact ⟨es,vs,m,⟨S.own _ _ e,rfl,rfl,ho⟩,ho,hk,hp,hn,t⟩
noncomputable def notVal:PV→Bool
 | .val _=>false
 | _=>true
theorem handed_of {h:Heap}{v:Value}{x:PV}(t:Tells h v x) (hx:notVal x=true):handedIn v=true:=by
 cases t<;>first | rfl | cases hx
theorem ga_inst {a cl dx:Addr}{kvs:List (Str×PV)}{name:Str}{x:PV}{ex:Bool}(e:H a=some (.inst cl dx)) (e':H dx=some (.sdict kvs)) (g:GetA C cl name) (hx:kvs.lookup name=some x) (hv:notVal x=true) (q:Q x H) :
  Op1Ok C n (fun o=>getAttr o name ex) (.ref a) H Q:=⟨fun A kp s u hA S t1=>by
 obtain rfl:=t1.inv
 exact (instAt S e e').elim fun es z=>z.elim fun vs z=>z.elim fun m z=>(z.2.2.2.2.2.lookup hx).elim fun w y=>g.fnd.elim fun attr x =>
  get_value S.K z.1 (plainGet_of g.get).1 (findObj_own g.dict x.1 x.2 (getL_of z.2.2.2.1 y.1)) (handed_of y.2 hv) (BackV.of (S.toks _) y.2 q)⟩
inductive PBase:Expr→Prop
 | name (x p):PBase (.Name x p)
 | attr (o x p):PBase (.Attribute o x p)
 | sub (o x p):PBase (.Subscript o x p)
noncomputable def plainBase (e:Expr):Bool:=match e with
 | .Name ..=>true
 | .Attribute ..=>true
 | .Subscript ..=>true
 | _=>false
theorem plainBase_of {e:Expr}(h:plainBase e=true):PBase e:=by
 induction e using PySem.Expr.casesOn with
 | Name=>exact .name _ _
 | Attribute=>exact .attr _ _ _
 | Subscript=>exact .sub _ _ _
 | _=>exact absurd h Bool.false_ne_true
theorem eval_Attr_plain {value:Expr}(h:PBase value) (attr:Str) (pos:Pos) (env:Env):eval (.Attribute value attr pos) env=(do
   let o ←eval value env
   standAt pos.atName
   let r ←holding [o] (getAttr o attr true)
   letTemporaryGo value o r
   pure r):=by
 cases h<;>rfl
theorem ev_attr {value:Expr}{attr:Str}{pos:Pos}(h:EvOk C n sc value fr H fun o H1=>Op1Ok C n (fun o=>getAttr o attr true) o H1 Q) (hb:plainBase value=true):EvOk C n sc (.Attribute value attr pos) fr H Q:=⟨fun A kp env s hA S F =>
 Attribute_any_ (h.next hA S F fun u s1 a H1 S1 F1 t1 q1=>op_frame F1 S1 fun kp' S' _=>q1.run A kp' s1 u hA S' t1) (eval_Attr_plain (plainBase_of hb) attr pos env)⟩
theorem nameSafe {es:List DictEntry}{vs:List (Str×Value)}{name:Str}(hpr:Pairs (strKind C.prog C.w) es vs):aRefKeyMayBeTheName name es.toArray=false:=by
 simp -iota only [aRefKeyMayBeTheName_at,←Array.any_toList (p:=fun x:DictEntry=>x.refKey),noRef hpr,Bool.and_false]
inductive PutA (C:Cfg) (H:GHeap):PV→Str→PV→GHeap→Prop
 | mk {a cl dx:Addr}{kvs kvs':List (Str×PV)}{x:Str}{v:PV}:H a=some (.inst cl dx)→H dx=some (.sdict kvs)→SetA C cl x→putD x v kvs=kvs'→kvs.length≤500→PutA C H (.ref a) x v (H.set dx (.sdict kvs'))
theorem set_inst {ov:PV}{H2:GHeap}{name:Str}{ou u:Value}{x:PV}{Q:GHeap→Prop}(S:St C kp H s) (p:PutA C H ov name x H2) (to:Tells s.heap ou ov) (t:Tells s.heap u x)
  (q:Q H2):wpAny (model C.prog C.w) A (setAttr ou name u) (fun _ s'=>∃H',St C kp H' s'∧Q H') noE s:=by
 cases p with
 | @mk a cl dx kvs kvs' _ _ e e' g hp hz =>
 refine byP fun PG kG=>?_
 obtain rfl:=to.inv
 obtain ⟨es,vs,m,I,ho,hk,hpr,hn,tv⟩:=instAt S e e'
 refine kG ?_
 refine set_plain S.K I g.set ?_
 refine osa_open (s:={s with toks:=s.toks+1}) S.K I g.plain g.taker fun b=>?_
 obtain ⟨cd,hc,hd'⟩:=any_some g.dict
 refine wpAny_bind (wpAny_pure (wpAny_bind (wpAny_bind (wpAny_loadPart (s:={s with toks:=s.toks+1}) (S.own _ _ e) (wpAny_bind ((looks_clsIn S.K hc).at ?_))))))
 rw [hd']
 refine wpAny_pure (a:=some dx) (wpAny_bind (wpAny_pure (wpAny_bind ?_)))
 refine wpAny_bind (wpAny_bind (wpAny_askSetting (wpAny_pure (wpAny_bind (wpAny_mkText (wpAny_bind (wpAny_loadPart (o:=dictOf es m) ho ?_)))))))
 show wpAny _ _ (if aRefKeyMayBeTheName name es.toArray=true then _ else _) _ _ _
 rw [nameSafe hpr,if_neg Bool.false_ne_true]
 refine wpAny_updatePart (o:=dictOf es m) ho ?_
 have hs:Heap.SameBut dx s.heap (s.heap.update dx (Obj.putName name (hashStr C.w name) (.str name (s.toks+1)) u)):=Heap.SameBut.update ..
 have ge:(s.heap.update dx (Obj.putName name (hashStr C.w name) (.str name (s.toks+1)) u)).get? dx=some (dictOf (PySem.W.putL name (hashStr C.w name) (.str name (s.toks+1)) u es) (putN name es m)):=by
  rw [Heap.get?_update_self _ ho (by rw [putName_dict]; rfl),putName_dict]
 have hl:es.length=kvs.length:=hpr.length.trans tv.length
 refine wpAny_bind (wpAny_lookBehind (o:=dictOf (PySem.W.putL name (hashStr C.w name) (.str name (s.toks+1)) u es) (putN name es m)) ge (pastItsLine_dict (Nat.le_trans (putL_length name _ _ u es) (Nat.succ_le_succ (line_of (Nat.le_trans (hl▸hz) (by decide)))))) ?_)
 have K:=Keep.sameBut hs ho rfl
 exact wpAny_pure (a:=Fin.done (.ret .none)) ⟨_,S.put (g':=.sdict kvs') e' hs ⟨putD name u vs,⟨_,_,_,ge,⟨rfl,rfl,rfl⟩,rfl,fun en hen=>KeysOf.putL (fun e' he'=>hk e' (List.mem_toArray.mpr he')) name _ u en (List.mem_toArray.mp hen),Pairs.putL hpr name _ _ u,putD_nodup name u hn⟩,
  hp▸KV.putD (t.keep K) (tv.keep K)⟩,q⟩
theorem as_attr {o:Expr}{attr:Str}{pos:Pos}{v:PV}{Q:Vars→GHeap→Prop}(h:EvOk C n sc o fr H fun ov H1=>∃H2,PutA C H1 ov attr v H2∧Q fr H2):AsOk C n sc (.Attribute o attr pos) v fr H Q:=⟨fun A kp env s u hA S F t=>by
 rw [assign_Attribute]
 exact wpAny_bind (wpAny_holding (h.nextK hA S F fun ou s1 ov H1 K1 S1 F1 t1 q=>q.elim fun H2 q=>wpAny_bind (wpAny_standAt (wpAny_bind (wpAny_holding (wpAny_mono (set_frame F1 S1 (Q:=Q fr) fun kp' S' _=>set_inst S' q.1 t1 (t.keep K1) q.2) (fun _ s3 z=>wpAny_release ⟨fr,z⟩) fun _ _ x=>x))))))⟩
end
end
section
theorem slot_barr_iter:Slot "bytearray" "__iter__" "bytearray.__iter__" :=
 .of (owner := "bytearray") (n := "__iter__") (by rw [typeLookup_type,builtinLookup_eq_fast]; kernel_rfl) (by decide +kernel) (by decide +kernel) (by decide +kernel)
  (by first | exact .inl (by decide +kernel) | exact .inr (by decide +kernel)) (by rw [isSubtype_type]; kernel_rfl)
theorem entry_barr_iter:entryFor table "bytearray.__iter__" = some Builtin.«bytearray.__iter__»:=entryFor_of_tree (by kernel_rfl)
theorem args_barr_iter (a:Value):argsOk "bytearray.__iter__" ⟨[a],[]⟩:=by unfold argsOk; kernel_rfl
theorem slot_barri_next:Slot "bytearray_iterator" "__next__" "bytearray_iterator.__next__" :=
 .of (owner := "bytearray_iterator") (n := "__next__") (by rw [typeLookup_type,builtinLookup_eq_fast]; kernel_rfl) (by decide +kernel) (by decide +kernel) (by decide +kernel)
  (by first | exact .inl (by decide +kernel) | exact .inr (by decide +kernel)) (by rw [isSubtype_type]; kernel_rfl)
theorem entry_barri_next:entryFor table "bytearray_iterator.__next__" = some Builtin.«bytearray_iterator.__next__»:=entryFor_of_tree (by kernel_rfl)
theorem args_barri_next (a:Value):argsOk "bytearray_iterator.__next__" ⟨[a],[]⟩:=by unfold argsOk; kernel_rfl
noncomputable def IsBarr (h:Heap) (a:Addr) (b:Array UInt8):Prop:=h.get? a=some {cls:=.type "bytearray",data:=.bytearray b}
noncomputable def IsBarrIter (h:Heap) (I a:Addr) (i:Nat):Prop:=∃o,h.get? I=some o∧o.cls=.type "bytearray_iterator" ∧ o.data=.fields #[.ref a,.int i 0]
section
variable {prog:Program}{w:World}{A:Around}{E:Value→Shared→Prop}{s:Shared}
theorem pyIter_barr {t:Addr}{b} {Q:Value→Shared→Prop}(ht:IsBarr s.heap t b)
  (hQ:Q (.ref s.heap.objs.size) {s with heap:=s.heap.push {cls:=.type "bytearray_iterator",data:=.fields #[.ref t,.int 0 0]}}) :
  wpAny (model prog w) A (pyIter (.ref t)) Q E s:=by
 have hT:s.TypeIs (.ref t) "bytearray" := ⟨_,ht,rfl⟩
 refine wpAny_pyIter_slot hT slot_barr_iter (wpAny_call_entry slot_barr_iter hT entry_barr_iter ?_ (args_barr_iter _))
 show wpAny _ _ (do ret (←newFields "bytearray_iterator" [.ref t,rawInt 0])) _ _ s
 exact wpAny_bind (wpAny_newObj_type (wpAny_pure ⟨_,rfl, "bytearray_iterator",_,⟨_,Heap.get?_push_size _ rfl,rfl⟩,slot_barri_next.lookup,hQ⟩))
theorem pyNext_barr_item {it t:Addr}{i:Nat}{b:Array UInt8}{x:UInt8}{Q:Option Value→Shared→Prop}(hit:IsBarrIter s.heap it t i)
  (ht:IsBarr s.heap t b) (hx:b[i]?=some x)
  (hQ:∀h',IsBarrIter h' it t (i+1)→Heap.SameBut it s.heap h'→∀tk tk',Q (some (.int x.toNat tk)) {s with heap:=h',toks:=tk'}) :
  wpAny (model prog w) A (pyNext (.ref it)) Q E s:=by
 refine byP fun PG kG=>?_
 obtain ⟨o,ho,hc,hd⟩:=id hit
 refine kG ?_
 have hT:s.TypeIs (.ref it) "bytearray_iterator" := ⟨_,ho,hc⟩
 unfold pyNext
 refine wpAny_bind (wpAny_attempt (wpAny_callSpecial?_slot (name:=Str.ofString "__next__") hT slot_barri_next
  (wpAny_call_entry slot_barri_next hT entry_barri_next ?_ (args_barri_next _))))
 show wpAny _ _ (field (.ref it) 0>>=_) _ _ s
 refine wpAny_bind (wpAny_field ho hd (x:=.ref t) rfl ?_)
 refine wpAny_bind (wpAny_load ht ?_)
 refine wpAny_bind (wpAny_field ho hd (x:=.int i 0) rfl ?_)
 simp only [Int.toNat_natCast,hx]
 refine wpAny_bind (wpAny_setField ho hd (by simp) ?_)
 refine wpAny_bind (wpAny_mkInt ?_)
 refine wpAny_pure ⟨_,rfl,wpAny_pure (hQ _ ?_ (Heap.SameBut.update ..) _ _)⟩
 exact ⟨_,Heap.get?_update_self _ ho (Obj.isFreed_of_fields (Obj.data_mapFields hd _)),(Obj.cls_mapFields ..).trans hc,by
  rw [Obj.data_mapFields hd]; simp [rawInt]⟩
theorem pyNext_barr_end {it t:Addr}{i:Nat}{b:Array UInt8}{Q:Option Value→Shared→Prop}(hh:A.handled=none) (hit:IsBarrIter s.heap it t i)
  (ht:IsBarr s.heap t b) (hx:b[i]?=none)
  (hQ:∀h',Heap.ExtBut it s.heap h'→Q none {s with heap:=h'}):wpAny (model prog w) A (pyNext (.ref it)) Q E s:=by
 refine byP fun PG kG=>?_
 obtain ⟨o,ho,hc,hd⟩:=id hit
 refine kG ?_
 have hT:s.TypeIs (.ref it) "bytearray_iterator" := ⟨_,ho,hc⟩
 unfold pyNext
 refine wpAny_bind (wpAny_attempt (wpAny_callSpecial?_slot (name:=Str.ofString "__next__") hT slot_barri_next
  (wpAny_call_entry slot_barri_next hT entry_barri_next ?_ (args_barri_next _))))
 show wpAny _ _ (field (.ref it) 0>>=_) _ _ s
 refine wpAny_bind (wpAny_field ho hd (x:=.ref t) rfl ?_)
 show wpAny _ _ (load t>>=_) _ _ s
 refine wpAny_bind (wpAny_load ht ?_)
 show wpAny _ _ (field (.ref it) 1>>=_) _ _ s
 refine wpAny_bind (wpAny_field ho hd (x:=.int i 0) rfl ?_)
 simp only [Int.toNat_natCast,hx]
 refine wpAny_bind (wpAny_rule (wpAny_bind (wpAny_setField ho hd (by simp) ?_)))
 refine wpAny_bind ?_
 refine wpAny_bind (wpAny_holding (wpAny_point ?_))
 refine wpAny_pure ?_
 refine wpAny_bind ?_
 simp only [newExc,newTuple]
 refine wpAny_bind (wpAny_newObj_type ?_ (by size_fits))
 refine wpAny_bind (m:=firstArgMember _ _) (wpAny_of_eq (a:=Value.none) (by first | rfl | (simp only [firstArgMember]; rfl)) ?_)
 refine wpAny_newObj_type ?_ (by size_fits)
 simp only [raiseNew]
 refine wpAny_bind (wpAny_handled ?_)
 first | rw [show A.in1.handled=none from hh] | rw [hh]
 refine wpAny_bind (wpAny_pure (wpAny_throw ?_))
 refine wpAny_bind (wpAny_isInstance (T := "StopIteration") (b:=true) ⟨_,Heap.get?_push_size _ rfl,rfl⟩ isSubtype_stop ?_)
 exact wpAny_pure (hQ _ (((Heap.SameBut.update ..).extBut.push _).push _))
end
end
section
inductive Sk where
 | list (a:Addr)
 | tup (xs:List PV)
 | rng (n:Nat)
 | barr (a:Addr)
 | keys (a:Addr) (ep:Nat)
noncomputable def Src (C:Cfg) (H:GHeap):Sk→PV→List PV→Prop
 | .list a,v,xs=>v=.ref a∧LsAt C H a xs
 | .tup ys,v,xs=>v=.tup ys∧xs=ys
 | .rng n,v,xs=>v=.rng n∧xs=((List.range n).map fun i=>PV.int (i:Nat))∧n<2^62
 | .barr a,v,xs=>v=.ref a∧∃b,xs=(b.toList.map fun x=>PV.int x.toNat)∧H a=some (.barr b)
 | .keys a ep,v,xs=>v=.ref a∧∃kvs,xs=(kvs.map fun kv=>PV.int kv.1)∧H a=some (.fdict kvs ep)
section
variable {C:Cfg}{H:GHeap}
theorem Src.list {a xs} (l:LsAt C H a xs):Src C H (.list a) (.ref a) xs:=⟨rfl,l⟩
theorem Src.tup (xs):Src C H (.tup xs) (.tup xs) xs:=⟨rfl,rfl⟩
theorem Src.rng (n:Nat) (hn:n<2^62):Src C H (.rng n) (.rng n) ((List.range n).map fun i=>PV.int (i:Nat)):=⟨rfl,rfl,hn⟩
theorem Src.barr {a b} (e:H a=some (.barr b)):Src C H (.barr a) (.ref a) (b.toList.map fun x=>PV.int x.toNat):=⟨rfl,_,rfl,e⟩
theorem Src.keys {a kvs ep} (e:H a=some (.fdict kvs ep)):Src C H (.keys a ep) (.ref a) (kvs.map fun kv=>PV.int kv.1):=⟨rfl,_,rfl,e⟩
end
noncomputable def ItAt (h:Heap) (I:Addr) (n i:Nat):Sk→Prop
 | .list a=>h.IsListIter I a i∧a≠I
 | .tup xs=>∃t,h.IsTupleIter I t i∧Tells h (.ref t) (.tup xs)
 | .rng m=>IsRangeIter h I i ((m:Int)-i) 1
 | .barr a=>IsBarrIter h I a i
 | .keys a ep=>h.IsKeyIter I a i n ep
theorem ItAt.keep {h h':Heap}{I:Addr}{n i:Nat}{k:Sk}(x:ItAt h I n i k) (K:Keep h h') (e:∀o,h.get? I=some o→h'.get? I=some o):ItAt h' I n i k:=by
 have key:∀{p:Obj→Prop},(∃o,h.get? I=some o∧p o)→∃o,h'.get? I=some o∧p o:=fun x=>x.imp fun o y=>⟨e _ y.1,y.2⟩
 induction k using Mine.Sk.casesOn with
 | list a=>exact ⟨key x.1,x.2⟩
 | tup a=>exact x.imp fun t x=>⟨key x.1,x.2.keep K⟩
 | rng a=>exact e _ x
 | barr a=>exact key x
 | keys a=>exact key x
theorem ItAt.thaw {h:Heap}{I:Addr}{n i:Nat}{k:Sk}(x:ItAt h I n i k):∃o,h.get? I=some o∧fz o=false:=by
 have key:∀{o:Obj}{T:String}{vs:Array Value},o.cls=.type T∧o.data=.fields vs→(T == "range" || T == "dict_items" || T == "slice")=false→fz o=false:=fun c n=>by
  unfold fz; rw [c.1,c.2]; exact n
 induction k using Mine.Sk.casesOn with
 | list a=>exact x.1.imp fun o y=>⟨y.1,key y.2 (by decide)⟩
 | tup a=>exact x.elim fun t x=>x.1.imp fun o y=>⟨y.1,key y.2 (by decide)⟩
 | rng a=>exact ⟨_,x,rfl⟩
 | barr a=>exact x.imp fun o y=>⟨y.1,key y.2 (by decide)⟩
 | keys a=>exact x.imp fun o y=>⟨y.1,key y.2 (by decide)⟩
theorem ItAt.there {h:Heap}{I:Addr}{n i:Nat}{k:Sk}(x:ItAt h I n i k):∃o,h.get? I=some o:=x.thaw.imp fun _ y=>y.1
section
variable {C:Cfg}{kp:Kp}{H:GHeap}{A:Around}{s:Shared}{E:Value→Shared→Prop}
theorem rangeSize_nat (n:Nat):Builtin.Range.rangeSize 0 (n:Int) 1=n:=by
 unfold Builtin.Range.rangeSize
 induction n using Nat.casesOn with
 | zero=>rfl
 | succ m=>simp
theorem range_fits {n:Nat}(hn:n<2^62):Builtin.Range.rangeFitsLong (n:Int)=true:=by
 unfold Builtin.Range.rangeFitsLong
 simp -iota only [Bool.and_eq_true,decide_eq_true_eq,decide_eq_true_eq]
 lia
theorem range_small {n:Nat}(hn:n<2^62):Builtin.Range.small 0 (n:Int) 1=true:=by
 unfold Builtin.Range.small
 rw [rangeSize_nat,range_fits hn,show Builtin.Range.rangeFitsLong 0=true from by decide,show Builtin.Range.rangeFitsLong 1=true from by decide,if_pos (by decide),show (n:Int)+(1-1)=n from Int.add_zero _,range_fits hn]
 exact Bool.or_true _
theorem iter_start {k:Sk}{pv:PV}{xs:List PV}{v:Value}{Q:Value→Shared→Prop}(x:Src C H k pv xs) (S:St C kp H s) (t:Tells s.heap v pv) (hl:xs.length<2^62)
  (q:∀I h',s.heap.objs.size≤I→(∀b o,s.heap.get? b=some o→h'.get? b=some o)→ItAt h' I xs.length 0 k→Q (.ref I) {s with heap:=h'}):wpAny (model C.prog C.w) A (pyIter v) Q E s:=by
 induction k using Mine.Sk.casesOn with
 | list a =>
  obtain ⟨rfl,l⟩:=x
  obtain rfl:=t.inv
  exact (l.isList S).elim fun vs y=>wpAny_pyIter_list y.1 (q _ _ (Nat.le_refl _) (push_old _) ⟨⟨_,Heap.get?_push_size _ rfl,rfl,rfl⟩,y.1.elim fun _ z=>Nat.ne_of_lt (Heap.lt_size z.1)⟩)
 | tup xs =>
  obtain ⟨rfl,rfl⟩:=x
  obtain ⟨a,vs,rfl,e,l⟩:=t.inv
  exact wpAny_pyIter_tuple ⟨_,e,rfl,0,rfl⟩ (q _ _ (Nat.le_refl _) (push_old _) ⟨a,⟨_,Heap.get?_push_size _ rfl,rfl,rfl⟩,t.keep (Keep.of_all (push_old _))⟩)
 | rng n =>
  obtain ⟨rfl,rfl,hn⟩:=x
  obtain ⟨a,_,_,_,rfl,e⟩:=t.inv
  exact wpAny_pyIter_range e (range_small hn) (q _ _ (Nat.le_refl _) (push_old _) ((Heap.get?_push_size _ rfl).trans (by rw [rangeSize_nat]; rfl)))
 | barr a =>
  obtain ⟨rfl,b,rfl,e⟩:=x
  obtain rfl:=t.inv
  exact pyIter_barr (S.own _ _ e) (q _ _ (Nat.le_refl _) (push_old _) ⟨_,Heap.get?_push_size _ rfl,rfl,rfl⟩)
 | keys a ep =>
  obtain ⟨rfl,kvs,rfl,e⟩:=x
  obtain rfl:=t.inv
  exact (S.own _ _ e).elim fun vs y=>wpAny_pyIter_dict (S.notMods e) y.1 (q _ _ (Nat.le_refl _) (push_old _) ⟨_,Heap.get?_push_size _ rfl,rfl,by rw [y.2.length,List.length_map]; rfl⟩)
theorem St.iter {I n i:Nat}{k:Sk}(S:St C kp H s) (it:ItAt s.heap I n i k) (hk:kp I=none) (hH:H I=none) {h':Heap}{t:Nat}(hs:Heap.ExtBut I s.heap h'):St C kp H {s with heap:=h',toks:=t}∧Keep s.heap h':=by
 have hf:∀o,s.heap.get? I=some o→fz o=false:=fun o e=>it.thaw.elim fun o' y=>by rw [Option.some.inj (e.symm.trans y.1)]; exact y.2
 refine ⟨S.change hs hk hH hf,fun b o e f=>hs b o ?_ e⟩
 rintro rfl; rw [hf o e] at f; cases f
theorem iter_item {k:Sk}{pv:PV}{xs:List PV}{i I:Nat}{x:PV}{Q:Option Value→Shared→Prop}(sr:Src C H k pv xs) (S:St C kp H s) (it:ItAt s.heap I xs.length i k) (hk:kp I=none) (hH:H I=none) (hx:xs[i]?=some x)
  (q:∀v s',St C kp H s'→Keep s.heap s'.heap→Tells s'.heap v x→ItAt s'.heap I xs.length (i+1) k→(∀b o,b≠I→s.heap.get? b=some o→s'.heap.get? b=some o)→Q (some v) s') :
  wpAny (model C.prog C.w) A (pyNext (.ref I)) Q E s:=by
 have go:∀{h' t v},Heap.SameBut I s.heap h'→Tells s.heap v x→(Keep s.heap h'→ItAt h' I xs.length (i+1) k)→Q (some v) {s with heap:=h',toks:=t}:=fun {h' t v} hs tv j =>
  have z:=S.iter it hk hH (t:=t) hs.extBut
  q v {s with heap:=h',toks:=t} z.1 z.2 (tv.keep z.2) (j z.2) hs.extBut
 clear q hk hH
 induction k using Mine.Sk.casesOn with
 | list a =>
  exact (sr.2.isList S).elim fun vs y=>(y.2.get hx).elim fun w u=>wpAny_pyNext_list_item it.1 y.1 (List.getElem?_toArray.trans u.1) fun h' it' hs=>go hs u.2 fun _=>⟨it',it.2⟩
 | tup ys =>
  refine byP fun PG kG=>?_
  obtain rfl:=sr.2
  obtain ⟨a,it,tt⟩:=it
  obtain ⟨_,vs,e0,e,l⟩:=tt.inv
  obtain rfl:=Value.ref.inj e0
  refine kG ?_
  exact (l.get hx).elim fun w u=>wpAny_pyNext_tuple_item it ⟨_,e,rfl,0,rfl⟩ (List.getElem?_toArray.trans u.1) fun h' it' hs=>go hs u.2 fun K=>⟨_,it',tt.keep K⟩
 | rng n =>
  refine byP fun PG kG=>?_
  obtain ⟨_,rfl,hn⟩:=sr
  refine kG ?_
  have hlt:i<n:=by have:=(List.getElem?_eq_some_iff.mp hx).1; rwa [List.length_map,List.length_range] at this
  rw [List.getElem?_map,List.getElem?_range hlt] at hx
  obtain rfl:=Option.some.inj hx
  refine wpAny_pyNext_range_item it (by lia) fun h' it' hs=>go hs (.int _ _) fun _=>?_
  have e2:(n:Int)-((i+1:Nat):Int)=n-i-1:=by lia
  show IsRangeIter _ _ ((i+1:Nat):Int) _ 1
  rw [e2]; exact it'
 | barr a =>
  refine byP fun PG kG=>?_
  obtain ⟨_,b,rfl,e⟩:=sr
  refine kG ?_
  rw [List.getElem?_map] at hx
  refine byP fun PG kG=>?_
  obtain ⟨y,hy,rfl⟩:=Option.map_eq_some_iff.mp hx
  refine kG ?_
  exact pyNext_barr_item it (S.own _ _ e) (x:=y) (Array.getElem?_toList.symm.trans hy) fun h' it' hs tk tk'=>go hs (.int _ _) fun _=>it'
 | keys a ep =>
  refine byP fun PG kG=>?_
  obtain ⟨_,kvs,rfl,e⟩:=sr
  obtain ⟨vs,d,t⟩:=S.own _ _ e
  refine kG ?_
  rw [List.getElem?_map] at hx
  refine byP fun PG kG=>?_
  obtain ⟨⟨y,z⟩,hy,rfl⟩:=Option.map_eq_some_iff.mp hx
  refine kG ?_
  rw [List.length_map,←t.length] at it go
  refine (t.get hy).elim fun w u=>wpAny_pyNext_dict_item it d u.1 fun key h' hkey it' hs=>go hs ?_ fun _=>it'
  obtain ⟨tk,rfl⟩:=Value.isInt_shape hkey
  exact .int _ _
theorem iter_end {k:Sk}{pv:PV}{xs:List PV}{I:Nat}{Q:Option Value→Shared→Prop}(hA:A.handled=none) (sr:Src C H k pv xs) (S:St C kp H s) (it:ItAt s.heap I xs.length xs.length k) (hk:kp I=none) (hH:H I=none)
  (q:∀s',St C kp H s'→Keep s.heap s'.heap→(∀b o,b≠I→s.heap.get? b=some o→s'.heap.get? b=some o)→Q none s') :
  wpAny (model C.prog C.w) A (pyNext (.ref I)) Q E s:=by
 have go:∀h',Heap.ExtBut I s.heap h'→Q none {s with heap:=h'}:=fun h' hs =>
  have z:=S.iter it hk hH (t:=s.toks) hs
  q {s with heap:=h'} z.1 z.2 hs
 clear q hk hH
 induction k using Mine.Sk.casesOn with
 | list a=>exact (sr.2.isList S).elim fun vs y=>wpAny_pyNext_list_end hA it.1 y.1 (List.getElem?_toArray.trans (List.getElem?_eq_none (Nat.le_of_eq y.2.length))) go
 | tup ys =>
  refine byP fun PG kG=>?_
  obtain rfl:=sr.2
  obtain ⟨a,it,tt⟩:=it
  obtain ⟨_,vs,e0,e,l⟩:=tt.inv
  obtain rfl:=Value.ref.inj e0
  refine kG ?_
  exact wpAny_pyNext_tuple_end hA it ⟨_,e,rfl,0,rfl⟩ (List.getElem?_toArray.trans (List.getElem?_eq_none (Nat.le_of_eq l.length))) go
 | rng n =>
  refine byP fun PG kG=>?_
  obtain ⟨_,rfl,hn⟩:=sr
  refine kG ?_
  exact wpAny_pyNext_range_end hA it (by simp) go
 | barr a =>
  refine byP fun PG kG=>?_
  obtain ⟨_,b,rfl,e⟩:=sr
  refine kG ?_
  exact pyNext_barr_end hA it (S.own _ _ e) (by rw [List.length_map,Array.length_toList]; exact Array.getElem?_size) go
 | keys a ep =>
  refine byP fun PG kG=>?_
  obtain ⟨_,kvs,rfl,e⟩:=sr
  obtain ⟨vs,d,t⟩:=S.own _ _ e
  refine kG ?_
  rw [List.length_map,←t.length] at it
  exact wpAny_pyNext_dict_end hA it d (List.getElem?_eq_none (Nat.le_refl _)) go
theorem owned_tuple {k:Sk}{i I n:Nat}{target:Expr}{v:Value}{Q:Unit→Shared→Prop}(it:ItAt s.heap I n i k) (q:Q () s):wpAny (model C.prog C.w) A (letOwnedTupleGo target (.ref I) v) Q E s:=by
 have key:∀{o:Obj}{T:String}{vs:Array Value},s.heap.get? I=some o→o.cls=.type T→o.data=.fields vs→(["enumerate", "zip", "dict_itemiterator", "dict_reverseitemiterator", "odict_iterator", "itertools.zip_longest", "itertools.pairwise"].contains T)=false →
   wpAny (model C.prog C.w) A (letOwnedTupleGo target (.ref I) v) Q E s:=fun {o T vs} ho hc hd hT=>by
  cases target<;>first
   | exact wpAny_pure q
   | (cases v<;>first
     | exact wpAny_pure q
     | (refine wpAny_bind (wpAny_load ho ?_); rw [hc,hd]; dsimp only; rw [hT]; exact wpAny_pure q))
 induction k using Mine.Sk.casesOn with
 | list a=>exact letGo_listiter it.1 q
 | tup a=>exact it.elim fun _ z=>letGo_tupleiter z.1 q
 | rng a=>exact key (o:={cls:=.type "range_iterator",data:=.fields _}) it rfl rfl (by decide)
 | barr a=>exact it.elim fun o z=>key z.1 z.2.1 z.2.2 (by decide)
 | keys a=>exact letGo_keyiter it q
end
end
section
section
variable {C:Cfg}{n:Nat}{sc:Scope}{fr:Vars}{H:GHeap}{A:Around}{kp:Kp}{env:Env}{s:Shared}
theorem moreK_not {h:Heap}{kp:Kp}{x:Addr→Bool}{b:Addr}{o:Obj}(ho:h.get? b=some o) (hf:fz o=false) (hx:x b=false):moreK h kp x b=kp b:=by
 unfold Mine.moreK; rw [ho]; dsimp only; rw [hf,hx,Bool.false_or,if_neg Bool.false_ne_true]
theorem FrOk.moreK (F:FrOk sc env kp H fr s.heap) {x:Addr→Bool}(hx:∀b,onFrame env b→x b=false):FrOk sc env (moreK s.heap kp x) H fr s.heap:=by
 refine F.withK ?_ fun y c ic l a=>?_
 ·refine byP fun PG kG=>?_
  obtain ⟨m,⟨o,_,_,ho,hd,_⟩,_⟩:=F.ns
  refine kG ?_
  exact (moreK_not ho (fz_dict hd) (hx _ (.inl rfl))).trans F.kpL
 ·refine byP fun PG kG=>?_
  obtain ⟨c',w,a',⟨o,ho,hd⟩,hk,_⟩:=F.own y ic l
  obtain rfl:=Option.some.inj (a.symm.trans a')
  refine kG ?_
  exact (moreK_not ho (fz_cell hd) (hx _ (.inr ⟨y,a⟩))).trans hk
theorem St.notHeld (S:St C kp H s) {b:Addr}{o:Obj}(h:kp b=some o):H b=none:=by
 cases e:H b with
 | none=>rfl
 | some g=>rw [S.apart b g e] at h; cases h
theorem FrOk.fresh (F:FrOk sc env kp H fr s.heap) {I:Addr}(h:s.heap.objs.size≤I):¬onFrame env I:=fun q=>by
 obtain ⟨o,ho⟩:=F.there q
 exact Nat.lt_irrefl _ (Nat.lt_of_lt_of_le (Heap.lt_size ho) h)
theorem St.adopt (S:St C kp H s) {D:Addr}{g:GObj}(hk:kp D=none) (hi:Is C s.heap D g):St C kp (H.set D g) s:=by
 refine ⟨S.base,S.kept,fun b g₁ e₁=>?_,fun b g₁ e₁=>?_,S.gens,S.os⟩
 ·by_cases hb:b=D
  ·subst hb; rw [GHeap.set_same] at e₁; cases e₁; exact hi
  ·rw [GHeap.set_other _ _ hb] at e₁; exact S.own b g₁ e₁
 ·by_cases hb:b=D
  ·subst hb; exact hk
  ·rw [GHeap.set_other _ _ hb] at e₁; exact S.apart b g₁ e₁
theorem FrOk.adopt (F:FrOk sc env kp H fr s.heap) {D:Addr}{g:GObj}(h:¬onFrame env D):FrOk sc env kp (H.set D g) fr s.heap :=
 F.change (fun _ _ _ e=>e) (Keep.refl _) fun b q=>by rw [GHeap.set_other _ _ (by rintro rfl; exact h q)]; exact F.free q
theorem FrOk.over {h':Heap}(F:FrOk sc env kp H fr s.heap) {I:Addr}(hf:¬onFrame env I) (e:∀b o,b≠I→s.heap.get? b=some o→h'.get? b=some o) (K:Keep s.heap h'):FrOk sc env kp H fr h' :=
 F.change (fun b o onf e'=>e b o (fun q=>hf (q▸onf)) e') K fun b q=>F.free q
theorem St.moreI (S:St C kp H s) {I:Addr}(hH:H I=none):St C (Mine.moreK s.heap kp (· == I)) H s:=S.moreK _ fun a e=>(beq_iff_eq.mp e).symm▸hH
theorem FrOk.moreI (F:FrOk sc env kp H fr s.heap) {I:Addr}(hf:¬onFrame env I):FrOk sc env (Mine.moreK s.heap kp (· == I)) H fr s.heap:=FrOk.moreK F fun b q=>beq_eq_false_iff_ne.mpr fun e=>hf (e▸q)
theorem forLoop_turn {target it body orelse env} {R:Result→Shared→Prop}
  (h:wpAny (model C.prog C.w) A (pyNext it) (fun r s₁=>match r with
   | none=>wpAny (model C.prog C.w) A (execs orelse env) (fun f s₃=>R (.ok f) s₃) noE s₁
   | some v=>wpAny (model C.prog C.w) A (letOwnedTupleGo target it v) (fun _ s₁' =>
     wpAny (model C.prog C.w) A (assign target env v) (fun _ s₂=>wpAny (model C.prog C.w) A (execs body env) (fun f s₃=>match f with
      | .next | .cont=>codeAny (model C.prog C.w) A (.forLoop target it body orelse env) R s₃
      | .brk=>R (.ok .next) s₃
      | .ret v=>R (.ok (.ret v)) s₃) noE s₂) noE s₁') noE s₁) noE s):codeAny (model C.prog C.w) A (.forLoop target it body orelse env) R s:=by
 refine codeAny_of_tree ?_
 show wpAny _ A ((forTurn target it body orelse env).onRaise (fun x=>do noteFrame x env; theTreesLotGoes x)) _ _ s
 refine wpAny_noted ?_
 simp only [forTurn]
 refine wpAny_bind (wpAny_standAt (wpAny_bind (wpAny_onRaise (wpAny_mono h (fun r s₁ h₁=>?_) fun _ _ h'=>h'.elim))))
 induction r using Option.casesOn with
 | none=>exact wpAny_pure ⟨rfl,codeAny_block (wpAny_mono h₁ (fun _ _ z=>z) fun _ _ h'=>h'.elim)⟩
 | some v =>
  refine wpAny_bind (wpAny_mono h₁ (fun _ s₁' h₁'=>?_) fun _ _ h'=>h'.elim)
  refine wpAny_bind (wpAny_mono h₁' (fun _ s₂ h₂=>wpAny_bind (wpAny_mono h₂ (fun f s₃ h₃=>?_) fun _ _ h'=>h'.elim)) fun _ _ h'=>h'.elim)
  induction f using PySem.Flow.casesOn with
  | next=>exact wpAny_pure ⟨rfl,h₃⟩
  | cont=>exact wpAny_pure ⟨rfl,h₃⟩
  | brk=>exact wpAny_pure h₃
  | ret v=>exact wpAny_pure h₃
noncomputable def loopF (next:Prop) (brk:Prop) (ret:PV→Prop):Fl→Prop
 | .next=>next
 | .cont=>next
 | .brk=>brk
 | .ret v=>ret v
structure ForOk (C:Cfg) (n:Nat) (sc:Scope) (target:Expr) (body:List Stmt) (k:Sk) (pv:PV) (xs:List PV) (i:Nat) (fr:Vars) (H:GHeap) (Q:Fl→Vars→GHeap→Prop):Prop where
 run:∀A kp env s I,Rm n A→St C kp H s→FrOk sc env kp H fr s.heap→ItAt s.heap I xs.length i k→kp I=none→H I=none→¬onFrame env I →
  codeAny (model C.prog C.w) A (.forLoop target (.ref I) body [] env) (fun r s'=>∃f,r=.ok f∧BackF C sc kp env Q f s') s
theorem for_nil {target:Expr}{body:List Stmt}{k:Sk}{pv:PV}{xs:List PV}{i:Nat}{Q:Fl→Vars→GHeap→Prop}(sr:Src C H k pv xs) (hi:i=xs.length) (q:Q .next fr H):ForOk C n sc target body k pv xs i fr H Q:=⟨fun A kp env s I hA S F it hk hH hf=>by
 subst hi
 exact forLoop_turn (iter_end hA.h sr S it hk hH fun s' S' K e=>wpAny_execs_nil ⟨_,rfl,.of S' (F.over hf e K) .next q⟩)⟩
theorem for_cons {target:Expr}{body:List Stmt}{k:Sk}{pv:PV}{xs:List PV}{i:Nat}{x:PV}{Q:Fl→Vars→GHeap→Prop}(sr:Src C H k pv xs) (hx:xs[i]?=some x)
  (h:AsOk C n sc target x fr H fun fr1 H1=>ExOk C n sc body fr1 H1 fun fl fr2 H2=>loopF (ForOk C n sc target body k pv xs (i+1) fr2 H2 Q) (Q .next fr2 H2) (fun v=>Q (.ret v) fr2 H2) fl) :
  ForOk C n sc target body k pv xs i fr H Q:=⟨fun A kp env s I hA S F it hk hH hf=>by
 refine forLoop_turn (iter_item sr S it hk hH hx fun v s1 S1 K1 tx it1 e1=>owned_tuple it1 ?_)
 have S1':=S1.moreI hH
 refine h.next hA S1' (FrOk.moreI (F.over hf e1 K1) hf) tx fun _ s2 fr2 H2 S2 F2 q2=>q2.next hA S2 F2 fun f s3 fl fr3 H3 S3 F3 t3 q3=>?_
 have S4:St C kp H3 s3:=S3.lessK (moreK_sub S1) S.base
 have F4:FrOk sc env kp H3 fr3 s3.heap:=F3.lessK (moreK_sub S1)
 obtain ⟨o,ho⟩:=it1.there
 have hkI:=moreK_at (kp:=kp) (x:=(· == I)) ho (beq_self_eq_true I)
 have go:=fun q3:ForOk C n sc target body k pv xs (i+1) fr3 H3 Q=>ForOk.run q3 A kp env s3 I hA S4 F4 (it1.keep (moreK_keep S3.kept) fun o' e=>S3.kept _ _ (moreK_at e (beq_self_eq_true I))) hk (S3.notHeld hkI) hf
 cases t3 with
 | brk=>exact ⟨_,rfl,.of S4 F4 .next q3⟩
 | ret t=>exact ⟨_,rfl,.of S4 F4 (.ret t) q3⟩
 | _=>exact go q3⟩
theorem st_for {target iter:Expr}{body:List Stmt}{pos:Pos}{Q:Fl→Vars→GHeap→Prop}
  (h:EvOk C n sc iter fr H fun v H1=>∃k xs,Src C H1 k v xs∧xs.length<2^62∧ForOk C n sc target body k v xs 0 fr H1 Q) (hs:∀env x,foldedSetIterable iter env x=pure x):SOk C n sc (.For target iter body [] pos) fr H Q:=⟨fun A kp env s hA S F=>by
 exact wpAny_For (h.next hA S F fun v s1 pv H1 S1 F1 t1 q=>q.elim fun k q=>q.elim fun xs q=>iter_start q.1 S1 t1 q.2.1 fun I h' hI hk it =>
  codeAny_mono (q.2.2.run A kp env _ I hA (S1.grow (t:=s1.toks) hk) (F1.grow hk) it (S1.fresh hI).2 (S1.fresh hI).1 (F1.fresh hI)) fun r s' ⟨f,e,z⟩=>by subst e; exact z) (hs env)⟩
theorem whileLoop_turn {test:Expr}{body:List Stmt}{env} {R:Result→Shared→Prop}
  (h:wpAny (model C.prog C.w) A (isTrue test env (eval test env)) (fun b s₂ =>
    if b then wpAny (model C.prog C.w) A (execs body env) (fun f s₃=>match f with
      | .next | .cont=>codeAny (model C.prog C.w) A (.whileLoop test body [] env) R s₃
      | .brk=>R (.ok .next) s₃
      | .ret v=>R (.ok (.ret v)) s₃) noE s₂
    else R (.ok .next) s₂) noE s):codeAny (model C.prog C.w) A (.whileLoop test body [] env) R s:=by
 refine codeAny_of_tree ?_
 show wpAny _ A ((whileTurn test body [] env).onRaise (fun x=>do noteFrame x env; theTreesLotGoes x)) _ _ s
 refine wpAny_noted ?_
 simp only [whileTurn]
 refine wpAny_bind (wpAny_mono h (fun b s₂ h₂=>?_) fun _ _ h'=>h'.elim)
 induction b using Bool.casesOn with
 | false =>
  simp only [Bool.false_eq_true,if_false] at h₂ ⊢
  exact wpAny_bind (wpAny_execs_nil (wpAny_pure h₂))
 | true =>
  simp only [if_true] at h₂ ⊢
  refine wpAny_bind (wpAny_mono h₂ (fun f s₃ h₃=>?_) fun _ _ h'=>h'.elim)
  induction f using PySem.Flow.casesOn with
  | next=>exact wpAny_pure ⟨rfl,h₃⟩
  | cont=>exact wpAny_pure ⟨rfl,h₃⟩
  | brk=>exact wpAny_pure h₃
  | ret v=>exact wpAny_pure h₃
structure WhOk (C:Cfg) (n:Nat) (sc:Scope) (test:Expr) (body:List Stmt) (fr:Vars) (H:GHeap) (Q:Fl→Vars→GHeap→Prop):Prop where
 run:∀A kp env s,Rm n A→St C kp H s→FrOk sc env kp H fr s.heap→codeAny (model C.prog C.w) A (.whileLoop test body [] env) (fun r s'=>∃f,r=.ok f∧BackF C sc kp env Q f s') s
theorem wh_turn {test:Expr}{body:List Stmt}{Q:Fl→Vars→GHeap→Prop}(h:TsOk C n sc test fr H fun b H1=>(b=true→ExOk C n sc body fr H1 fun fl fr2 H2=>loopF (WhOk C n sc test body fr2 H2 Q) (Q .next fr2 H2) (fun v=>Q (.ret v) fr2 H2) fl)∧(b=false→Q .next fr H1)) :
  WhOk C n sc test body fr H Q:=⟨fun A kp env s hA S F=>whileLoop_turn (h.next hA S F fun b s1 H1 S1 F1 q=>by
  induction b using Bool.casesOn with
  | false=>exact ⟨_,rfl,.of S1 F1 .next (q.2 rfl)⟩
  | true =>
   refine (q.1 rfl).next hA S1 F1 fun f s3 fl fr3 H3 S3 F3 t3 q3=>?_
   cases t3 with
   | brk=>exact ⟨_,rfl,.of S3 F3 .next q3⟩
   | ret t=>exact ⟨_,rfl,.of S3 F3 (.ret t) q3⟩
   | _=>exact WhOk.run q3 A kp env s3 hA S3 F3)⟩
theorem st_while {test:Expr}{body:List Stmt}{pos:Pos}{Q:Fl→Vars→GHeap→Prop}(h:WhOk C n sc test body fr H Q):SOk C n sc (.While test body [] pos) fr H Q:=⟨fun A kp env s hA S F=>by
 refine wpAny_While (codeAny_mono (h.run A kp env s hA S F) ?_)
 rintro r s' ⟨f,rfl,z⟩
 exact z⟩
end
end
section
section
variable {C:Cfg}{n:Nat}{sc:Scope}{fr:Vars}{H:GHeap}{A:Around}{kp:Kp}{env:Env}{s:Shared}
theorem draw_src {k:Sk}{pv:PV}{xs:List PV}{I:Nat}(sr:Src C H k pv xs) (hk:kp I=none) (hH:H I=none):∀(m i:Nat) (s:Shared) (Q:List Value→Shared→Prop) (E:Value→Shared→Prop),St C kp H s→ItAt s.heap I xs.length i k→i+m≤xs.length →
  (∀vs s',St C kp H s'→Keep s.heap s'.heap→TellsL s'.heap vs ((xs.drop i).take m)→vs.length=m→ItAt s'.heap I xs.length (i+m) k→(∀b o,b≠I→s.heap.get? b=some o→s'.heap.get? b=some o)→Q vs s') →
  wpAny (model C.prog C.w) A (draw (.ref I) m) Q E s:=fun m=>by
 induction m with
 | zero=>exact fun i s Q E S it hle q=>wpAny_pure (q [] s S (Keep.refl _) .nil rfl it fun _ _ _ e=>e)
 | succ m ih =>
  intro i s Q E S it hle q
  have hlt:i<xs.length:=Nat.lt_of_lt_of_le (Nat.lt_add_of_pos_right (Nat.succ_pos m)) hle
  have e':=Nat.succ_add_eq_add_succ i m
  refine wpAny_bind (iter_item sr S it hk hH (List.getElem?_eq_getElem hlt) fun v s1 S1 K1 t1 it1 e1=>wpAny_bind (wpAny_holding (ih (i+1) s1 _ E S1 it1 (Nat.le_trans (Nat.le_of_eq e') hle) fun vs s2 S2 K2 t2 hl it2 e2=>wpAny_pure ?_)))
  refine q (v::vs) s2 S2 (K1.trans K2) ?_ (congrArg (·+1) hl) (by rw [←e']; exact it2) fun b o hb e=>e2 b o hb (e1 b o hb e)
  simp -iota only [List.drop_eq_getElem_cons hlt,List.take_succ_cons]
  exact .cons (t1.keep K2) t2
inductive Unp (C:Cfg) (H:GHeap):PV→List PV→Prop
 | tup (xs):Unp C H (.tup xs) xs
 | list {a xs}:LsAt C H a xs→Unp C H (.ref a) xs
structure AssOk (C:Cfg) (n:Nat) (sc:Scope) (ts:List Expr) (xs:List PV) (fr:Vars) (H:GHeap) (Q:Vars→GHeap→Prop):Prop where
 run:∀A kp env s us,Rm n A→St C kp H s→FrOk sc env kp H fr s.heap→TellsL s.heap us xs →
  wpAny (model C.prog C.w) A (assignInOrder ((assignEach ts env).map (·.2)) us) (fun _ s'=>∃fr' H',St C kp H' s'∧FrOk sc env kp H' fr' s'.heap∧Q fr' H') noE s
theorem ass_nil {Q:Vars→GHeap→Prop}(q:Q fr H):AssOk C n sc [] [] fr H Q:=⟨fun A kp env s us hA S F t=>by
 obtain rfl:=t.inv; exact wpAny_pure ⟨fr,H,S,F,q⟩⟩
theorem assignEach_cons {t:Expr}(ht:notStar t=true) (ts:List Expr) (env:Env):assignEach (t::ts) env=(false,assign t env)::assignEach ts env:=by
 cases t<;>first | rfl | cases ht
theorem AsOk.nextK {t:Expr}{v:PV}{Q:Vars→GHeap→Prop}(h:AsOk C n sc t v fr H Q) {u:Value}(hA:Rm n A) (S:St C kp H s) (F:FrOk sc env kp H fr s.heap) (tv:Tells s.heap u v) {R:Unit→Shared→Prop}
  (k:∀x s' fr' H',Keep s.heap s'.heap→St C kp H' s'→FrOk sc env kp H' fr' s'.heap→Q fr' H'→R x s'):wpAny (model C.prog C.w) A (assign t env u) R noE s :=
 keepingF S F (P:=fun kp' _ s'=>∃fr' H',St C kp' H' s'∧FrOk sc env kp' H' fr' s'.heap∧Q fr' H') (fun kp' S' F'=>h.run A kp' env s u hA S' F' tv) fun kp' x s' hk hb K b =>
  b.elim fun fr' b=>b.elim fun H' b=>k x s' fr' H' (K _ b.1.kept) (b.1.lessK hk hb) (b.2.1.lessK hk) b.2.2
theorem ass_cons {t:Expr}{ts:List Expr}{x:PV}{xs:List PV}{Q:Vars→GHeap→Prop}(h:AsOk C n sc t x fr H fun fr1 H1=>AssOk C n sc ts xs fr1 H1 Q) (ht:notStar t=true):AssOk C n sc (t::ts) (x::xs) fr H Q:=⟨fun A kp env s us hA S F tl=>by
 rw [assignEach_cons ht]
 refine byP fun PG kG=>?_
 obtain ⟨v,us,rfl,tv,tl⟩:=tl.inv
 refine kG ?_
 exact wpAny_bind (wpAny_holding (h.nextK hA S F tv fun _ s1 fr1 H1 K S1 F1 q1=>q1.run A kp env s1 _ hA S1 F1 (tl.keep K)))⟩
theorem assignEach_len (env:Env) (ts:List Expr):(assignEach ts env).length=ts.length:=by
 induction ts with
 | nil=>rfl
 | cons t ts ih=>cases t<;>exact congrArg (·+1) ih
theorem assignEach_star (env:Env) (ts:List Expr) (h:ts.all notStar=true):(assignEach ts env).findIdx? (·.1)=none:=by
 induction ts with
 | nil=>rfl
 | cons t ts ih =>
  rw [List.all_cons,Bool.and_eq_true] at h
  rw [assignEach_cons h.1,List.findIdx?_cons,ih h.2]
  rfl
theorem as_tuple {ts:List Expr}{k:Nat}{pos:Pos}{v:PV}{xs:List PV}{Q:Vars→GHeap→Prop}(hu:Unp C H v xs) (hl:xs.length=ts.length) (h:AssOk C n sc ts xs fr H Q) (hst:ts.all notStar=true) (hbig:ts.length<1000) :
  AsOk C n sc (.Tuple ts k pos) v fr H Q:=⟨fun A kp env s u hA S F tv=>by
 have key:∃T id kk,s.TypeIs u T∧typeLookup (.type T) "__iter__" = pure (some (.builtin id))∧Src C H kk v xs:=by
  cases hu with
  | tup xs =>
   obtain ⟨a,vs,rfl,e,_⟩:=tv.inv
   exact ⟨"tuple",_,_,⟨_,e,rfl⟩,PySem.F.slot_tuple_iter.lookup,.tup xs⟩
  | list ll =>
   obtain rfl:=tv.inv
   exact (ll.isList S).elim fun _ z=>⟨"list",_,_,z.1.typeIs,slot_list_iter.lookup,.list ll⟩
 refine byP fun PG kG=>?_
 obtain ⟨T,id,kk,hT,lk,sr⟩:=key
 refine kG ?_
 rw [arm_assign_Tuple]
 refine wpAny_bind (wpAny_standAt ?_)
 unfold unpack
 rw [assignEach_star env ts hst,assignEach_len]
 refine wpAny_bind (wpAny_holding ?_)
 refine wpAny_bind (wpAny_bind (wpAny_specialOf hT lk (wpAny_pure (wpAny_bind (wpAny_holding (iter_start sr S tv (by lia) fun I h' hI hk it=>?_))))))
 have fr0:=S.fresh hI
 have hfI:=F.fresh hI
 refine wpAny_bind (wpAny_holding (draw_src sr fr0.2 fr0.1 ts.length 0 _ _ _ (S.grow (t:=s.toks) hk) it (by lia) fun vs s2 S2 K2 t2 hvl it2 e2=>?_))
 rw [List.drop_zero,←hl,List.take_length] at t2
 rw [if_neg (by lia)]
 rw [Nat.zero_add,←hl] at it2
 exact wpAny_bind (wpAny_holding (iter_end hA.h sr S2 it2 fr0.2 fr0.1 fun s3 S3 K3 e3=>wpAny_pure (h.run A kp env s3 vs hA S3 (((F.grow hk).over (s:={s with heap:=h'}) hfI e2 K2).over hfI e3 K3) (t2.keep K3))))⟩
end
end
section
section
variable {C:Cfg}{n:Nat}{sc:Scope}{fr:Vars}{H:GHeap}{A:Around}{kp:Kp}{env:Env}{s:Shared}
theorem compLoop_turn {elt target iter:Expr}{ifs:List Expr}{scope:Scope}{pos:Pos}{it acc:Value}{env:Env}{R:Result→Shared→Prop}
  (h:wpAny (model C.prog C.w) A (pyNext it) (fun r s₁=>match r with
   | none=>R (.ok .next) s₁
   | some v=>wpAny (model C.prog C.w) A (letOwnedTupleGo target it v) (fun _ s₁'=>wpAny (model C.prog C.w) A (assign target env v) (fun _ s₂ =>
     wpAny (model C.prog C.w) A (forIn ifs true fun c r=>if r=true then do let ok ←isTrue c env (eval c env); pure (ForInStep.yield ok) else pure (ForInStep.yield r)) (fun ok s₃ =>
      if ok=true then wpAny (model C.prog C.w) A (eval elt env) (fun x s₄ =>
       wpAny (model C.prog C.w) A (call (.builtin "list.append") [acc,x]) (fun _ s₅=>codeAny (model C.prog C.w) A (.compLoop (.ListComp elt [⟨target,iter,ifs,0⟩] scope pos) 0 it acc env) R s₅) noE s₄) noE s₃
      else codeAny (model C.prog C.w) A (.compLoop (.ListComp elt [⟨target,iter,ifs,0⟩] scope pos) 0 it acc env) R s₃) noE s₂) noE s₁') noE s₁) noE s) :
  codeAny (model C.prog C.w) A (.compLoop (.ListComp elt [⟨target,iter,ifs,0⟩] scope pos) 0 it acc env) R s:=by
 refine codeAny_of_tree ?_
 show wpAny _ A ((compTurn (.ListComp elt [⟨target,iter,ifs,0⟩] scope pos) 0 it acc env).onRaise (fun x=>do noteFrame x env; theTreesLotGoes x)) _ _ s
 refine wpAny_noted ?_
 rw [compTurn_list]
 refine wpAny_bind (wpAny_standAt (wpAny_bind (wpAny_mono h (fun r s₁ h₁=>?_) fun _ _ h'=>h'.elim)))
 induction r using Option.casesOn with
 | none=>exact wpAny_pure h₁
 | some v =>
  refine wpAny_bind (wpAny_mono h₁ (fun _ s₁' h₁'=>?_) fun _ _ h'=>h'.elim)
  refine wpAny_bind (wpAny_mono h₁' (fun _ s₂ h₂=>wpAny_bind (wpAny_mono h₂ (fun ok s₃ h₃=>?_) fun _ _ h'=>h'.elim)) fun _ _ h'=>h'.elim)
  induction ok using Bool.casesOn with
  | false=>exact wpAny_pure ⟨rfl,h₃⟩
  | true =>
   exact wpAny_bind (wpAny_bind (wpAny_mono h₃ (fun x s₄ h₄=>wpAny_bind (wpAny_mono h₄ (fun _ s₅ h₅=>wpAny_pure (wpAny_pure ⟨rfl,h₅⟩)) fun _ _ h'=>h'.elim)) fun _ _ h'=>h'.elim))
noncomputable def IfsOk (C:Cfg) (n:Nat) (sc:Scope) (ifs:List Expr) (fr:Vars) (H:GHeap) (Q:Bool→GHeap→Prop):Prop:=match ifs with
 | []=>Q true H
 | [c]=>TsOk C n sc c fr H Q
 | _=>False
theorem IfsOk.next {ifs:List Expr}{Q:Bool→GHeap→Prop}(h:IfsOk C n sc ifs fr H Q) (hA:Rm n A) (S:St C kp H s) (F:FrOk sc env kp H fr s.heap) {R:Bool→Shared→Prop}
  (k:∀b s' H',St C kp H' s'→FrOk sc env kp H' fr s'.heap→Q b H'→R b s'):wpAny (model C.prog C.w) A (forIn ifs true fun c r=>if r=true then do let ok ←isTrue c env (eval c env); pure (ForInStep.yield ok) else pure (ForInStep.yield r)) R noE s:=by
 induction ifs using List.casesOn with
 | nil=>exact wpAny_tests_nil (k true s H S F h)
 | cons c r=>induction r using List.casesOn with
  | nil=>exact wpAny_tests_one (TsOk.next h hA S F k)
  | cons _ _=>exact (show False from h).elim
noncomputable def LsOf (h:Heap) (D:Addr) (ys:List PV):Prop:=∃vs,h.PlainList D (List.toArray vs)∧TellsL h vs ys
theorem LsOf.keep {h h':Heap}{D:Addr}{ys:List PV}(x:LsOf h D ys) (K:Keep h h') (e:∀o,h.get? D=some o→h'.get? D=some o):LsOf h' D ys:=x.imp fun vs x=>⟨x.1.at e,x.2.keep K⟩
theorem LsOf.there {h:Heap}{D:Addr}{ys:List PV}(x:LsOf h D ys):∃o,h.get? D=some o∧fz o=false:=x.elim fun vs x=>x.1.elim fun m a=>⟨_,a,rfl⟩
theorem LsOf.is {h:Heap}{D:Addr}{ys:List PV}(x:LsOf h D ys):Is C h D (.list ys):=x.imp fun vs x=>x.1.imp fun m a=>⟨a,x.2⟩
structure CpOk (C:Cfg) (n:Nat) (sc:Scope) (elt target iter:Expr) (ifs:List Expr) (scope:Scope) (pos:Pos) (k:Sk) (pv:PV) (xs:List PV) (i:Nat) (ys:List PV) (fr:Vars) (H:GHeap) (Q:List PV→GHeap→Prop):Prop where
 run:∀A kp env s I D,Rm n A→St C kp H s→FrOk sc env kp H fr s.heap→ItAt s.heap I xs.length i k→kp I=none→H I=none→¬onFrame env I→LsOf s.heap D ys→kp D=none→H D=none→¬onFrame env D→D≠I →
  codeAny (model C.prog C.w) A (.compLoop (.ListComp elt [⟨target,iter,ifs,0⟩] scope pos) 0 (.ref I) (.ref D) env)
   (fun r s'=>r=.ok .next∧∃zs fr' H',St C kp H' s'∧FrOk sc env kp H' fr' s'.heap∧LsOf s'.heap D zs∧H' D=none∧Q zs H') s
theorem cp_nil {elt target iter:Expr}{ifs:List Expr}{scope:Scope}{pos:Pos}{k:Sk}{pv:PV}{xs:List PV}{i:Nat}{ys:List PV}{Q:List PV→GHeap→Prop}(sr:Src C H k pv xs) (hi:i=xs.length) (q:Q ys H) :
  CpOk C n sc elt target iter ifs scope pos k pv xs i ys fr H Q:=⟨fun A kp env s I D hA S F it hk hH hf L hkD hHD hfD hDI=>by
 subst hi
 exact compLoop_turn (iter_end hA.h sr S it hk hH fun s' S' K e=>⟨rfl,ys,fr,H,S',F.over hf e K,L.keep K fun o e'=>e _ _ hDI e',hHD,q⟩)⟩
theorem cp_cons {elt target iter:Expr}{ifs:List Expr}{scope:Scope}{pos:Pos}{k:Sk}{pv:PV}{xs:List PV}{i:Nat}{ys:List PV}{x:PV}{Q:List PV→GHeap→Prop}(sr:Src C H k pv xs) (hx:xs[i]?=some x) (hl:ys.length≤1000)
  (h:AsOk C n sc target x fr H fun fr1 H1=>IfsOk C n sc ifs fr1 H1 fun b H2=>(b=true→EvOk C n sc elt fr1 H2 fun y H3=>CpOk C n sc elt target iter ifs scope pos k pv xs (i+1) (ys++[y]) fr1 H3 Q) ∧
   (b=false→CpOk C n sc elt target iter ifs scope pos k pv xs (i+1) ys fr1 H2 Q)) :
  CpOk C n sc elt target iter ifs scope pos k pv xs i ys fr H Q:=⟨fun A kp env s I D hA S F it hk hH hf L hkD hHD hfD hDI=>by
 refine compLoop_turn (iter_item sr S it hk hH hx fun v s1 S1 K1 tx it1 e1=>owned_tuple it1 ?_)
 have L1:LsOf s1.heap D ys:=L.keep K1 fun o e'=>e1 _ _ hDI e'
 have S1':=S1.moreK (fun a=>a == I||a == D) fun a e=>(Bool.or_eq_true_iff.mp e).elim (fun e=>(beq_iff_eq.mp e).symm▸hH) fun e=>(beq_iff_eq.mp e).symm▸hHD
 have F1':=FrOk.moreK (F.over hf e1 K1) (x:=fun a=>a == I||a == D) fun b q=>Bool.or_eq_false_iff.mpr ⟨beq_eq_false_iff_ne.mpr fun e=>hf (e▸q),beq_eq_false_iff_ne.mpr fun e=>hfD (e▸q)⟩
 have xI:(I == I||I == D)=true:=by rw [beq_self_eq_true]; rfl
 have xD:(D == I||D == D)=true:=by rw [beq_self_eq_true]; exact Bool.or_true _
 refine byP fun PG kG=>?_
 obtain ⟨oI,hoI⟩:=it1.there
 have hkI:=moreK_at (kp:=kp) (x:=fun a=>a == I||a == D) hoI xI
 obtain ⟨oD,hoD,_⟩:=L1.there
 refine kG ?_
 have hkD':=moreK_at (kp:=kp) (x:=fun a=>a == I||a == D) hoD xD
 have back:∀{H' fr' s'},St C (moreK s1.heap kp fun a=>a == I||a == D) H' s'→FrOk sc env (moreK s1.heap kp fun a=>a == I||a == D) H' fr' s'.heap→St C kp H' s'∧FrOk sc env kp H' fr' s'.heap∧ItAt s'.heap I xs.length (i+1) k∧H' I=none∧LsOf s'.heap D ys∧H' D=none:=fun S3 F3 =>
  have K3:=moreK_keep S3.kept
  ⟨S3.lessK (moreK_sub S1) S.base,F3.lessK (moreK_sub S1),it1.keep K3 fun o' e=>S3.kept _ _ (moreK_at e xI),S3.notHeld hkI,L1.keep K3 fun o' e=>S3.kept _ _ (moreK_at e xD),S3.notHeld hkD'⟩
 refine h.next hA S1' F1' tx fun _ s2 fr2 H2 S2 F2 q2=>IfsOk.next q2 hA S2 F2 fun ok s3 H3 S3 F3 q3=>?_
 clear h L1 S1' F1'
 induction ok using Bool.casesOn with
 | false =>
  have z:=back S3 F3
  exact CpOk.run (q3.2 rfl) A kp env s3 I D hA z.1 z.2.1 z.2.2.1 hk z.2.2.2.1 hf z.2.2.2.2.1 hkD z.2.2.2.2.2 hfD hDI
 | true =>
  refine (q3.1 rfl).next hA S3 F3 fun u s4 y H4 S4 F4 t4 q4=>?_
  refine byP fun PG kG=>?_
  obtain ⟨S5,F5,it4,hHI,⟨vs,hp,tl⟩,hHD4⟩:=back S4 F4
  refine kG ?_
  refine wpAny_list_append_plain hp (fun h' hp' hs=>?_) (tl.fits hl)
  obtain ⟨m,ho⟩:=hp
  have K5:Keep s4.heap h':=Keep.sameBut hs ho rfl
  exact CpOk.run q4 A kp env _ I D hA (S5.change (t:=s4.toks) hs.extBut hkD hHD4 fun o e=>by rw [ho] at e; cases e; rfl) (F5.over hfD hs.extBut K5) (it4.keep K5 fun o e=>(hs.2 I (Ne.symm hDI)).trans e) hk hHI hf
   ⟨vs++[u],List.push_toArray vs u▸hp',(tl.keep K5).append (.cons (t4.keep K5) .nil)⟩ hkD hHD4 hfD hDI⟩
noncomputable def relC (scope:Scope):Scope:={scope with names:=scope.names.map fun (n,k)=>if k == .free then (n,.cell) else (n,k)}
noncomputable def compScope (sc scope:Scope):Bool:=scope.kind == .function&&scope.names.lookup (".0" : Str) == some .local&&(scope.names.lookup ("__debug__" : Str)).isNone&&(scope.names.lookup ("__classdict__" : Str)).isNone &&
 scope.names.all fun p=>(p.2 == .local&&scope.names.lookup p.1 == some .local)||p.2 == .globalImplicit||(p.2 == .free&&scope.names.lookup p.1 == some .free&&sc.names.lookup p.1 == some .cell)
structure CompScope (sc scope:Scope):Prop where
 fn:scope.kind=.function
 zero:scope.names.lookup (".0" : Str)=some .local
 nd:scope.names.lookup ("__debug__" : Str)=none
 nc:scope.names.lookup ("__classdict__" : Str)=none
 all:∀p∈scope.names,(p.2=.local∧scope.names.lookup p.1=some .local)∨p.2=.globalImplicit∨(p.2=.free∧scope.names.lookup p.1=some .free∧sc.names.lookup p.1=some .cell)
theorem compScope_is {sc scope:Scope}(h:compScope sc scope=true):CompScope sc scope:=by
 unfold compScope at h
 simp only [Bool.and_eq_true,List.all_eq_true,Bool.or_eq_true,beq_iff_eq,Option.isNone_iff_eq_none] at h
 obtain ⟨⟨⟨⟨h1,h2⟩,h3⟩,h4⟩,h5⟩:=h
 refine ⟨h1,h2,h3,h4,fun p hp=>?_⟩
 rcases h5 p hp with (q | q) | q
 ·exact .inl q
 ·exact .inr (.inl q)
 ·exact .inr (.inr ⟨q.1.1,q.1.2,q.2⟩)
theorem relabel_is (P:CompScope sc scope) (he:env.scope=sc) (hf:sc.kind=.function):relabel scope env=relC scope:=by
 unfold relabel relC
 congr 1
 refine List.map_congr_left fun p hp=>?_
 obtain ⟨x,k⟩:=p
 show (if (k == .free&&env.scope.kind == .function&&env.scope.names.lookup x == some .cell)=true then _ else _)=if (k == .free)=true then _ else _
 rw [he,hf]
 rcases P.all _ hp with q | q | q
 ·rw [show k=.local from q.1]; rfl
 ·rw [show k=.globalImplicit from q]; rfl
 ·rw [show k=.free from q.1,q.2.2]; rfl
theorem relC_lookup (scope:Scope) (x:Str):(relC scope).names.lookup x=(scope.names.lookup x).map fun k=>if k == .free then .cell else k:=by
 unfold relC
 generalize scope.names=l
 induction l with
 | nil=>rfl
 | cons p r ih =>
  obtain ⟨y,k⟩:=p
  show List.lookup x ((if (k == .free)=true then (y,NameKind.cell) else (y,k))::_)=_
  by_cases hk:(k == .free)=true
  ·rw [if_pos hk,List.lookup_cons,List.lookup_cons]
   cases x == y with
   | true=>dsimp only [Option.map]; rw [if_pos hk]
   | false=>exact ih
  ·rw [if_neg hk,List.lookup_cons,List.lookup_cons]
   cases x == y with
   | true=>dsimp only [Option.map]; rw [if_neg hk]
   | false=>exact ih
inductive Capt (fr:Vars):List (Str×NameKind)→Vars→Prop
 | nil:Capt fr [] []
 | skip {x k r frC}:(k == .free)=false→Capt fr r frC→Capt fr ((x,k)::r) frC
 | take {x r v frC}:fr.lookup x=some v→Capt fr r frC→Capt fr ((x,.free)::r) ((x,v)::frC)
theorem Capt.of_lookup {fr:Vars}{l:List (Str×NameKind)}{frC:Vars}(c:Capt fr l frC) {x:Str}{v:PV}:frC.lookup x=some v→(x,NameKind.free)∈l∧fr.lookup x=some v:=by
 induction c with
 | nil=>exact fun e=>nomatch e
 | skip _ c ih=>exact fun e=>⟨.tail _ (ih e).1,(ih e).2⟩
 | @take y _ _ _ h c ih =>
  intro e
  rw [List.lookup_cons] at e
  cases hb:x == y with
  | true=>rw [hb] at e; rw [beq_iff_eq.mp hb]; exact ⟨.head _,h.trans e⟩
  | false=>rw [hb] at e; exact ⟨.tail _ (ih e).1,(ih e).2⟩
theorem Capt.has {fr:Vars}{l:List (Str×NameKind)}{frC:Vars}(c:Capt fr l frC) {x:Str}:(x,NameKind.free)∈l→∃v,fr.lookup x=some v:=by
 induction c with
 | nil=>exact fun e=>absurd e List.not_mem_nil
 | skip hk c ih=>exact fun e=>(List.mem_cons.mp e).elim (fun e=>by rw [←(Prod.mk.inj e).2] at hk; cases hk) ih
 | take h c ih=>exact fun e=>(List.mem_cons.mp e).elim (fun e=>⟨_,(Prod.mk.inj e).1▸h⟩) ih
theorem closureFor_is (env:Env) (l:List (Str×NameKind)):∀(acc:List (Str×Addr)),(∀p∈l,p.2=.free→∃c,env.cells.lookup p.1=some c) →
  ∃cl,(forIn l acc fun (x:Str×NameKind) (r:List (Str×Addr))=>(match x with | (name,kind)=>if (kind == .free)=true then do let c ←cellOf env name; pure (ForInStep.yield ((name,c)::r)) else pure (ForInStep.yield r):Sem (ForInStep (List (Str×Addr)))))=pure cl ∧
   (∀x c,cl.lookup x=some c→env.cells.lookup x=some c∨acc.lookup x=some c)∧(∀p∈l,p.2=.free→∃c,cl.lookup p.1=some c)∧(∀x c,acc.lookup x=some c→∃c,cl.lookup x=some c):=by
 induction l with
 | nil=>exact fun acc _=>⟨acc,rfl,fun _ _ e=>.inr e,fun _ h=>absurd h (List.not_mem_nil),fun x c e=>⟨c,e⟩⟩
 | cons p r ih =>
  intro acc h
  obtain ⟨x,k⟩:=p
  cases hk:k == .free with
  | true =>
   refine byP fun PG kG=>?_
   obtain ⟨c,hc⟩:=h (x,k) (.head _) (beq_iff_eq.mp hk)
   obtain ⟨cl,e,h1,h2,h3⟩:=ih ((x,c)::acc) fun p hp=>h p (.tail _ hp)
   refine kG ?_
   refine ⟨cl,?_,fun y d q=>(h1 y d q).elim .inl fun q=>?_,fun p hp hf=>(List.mem_cons.mp hp).elim (fun e=>h3 _ c (by rw [e,List.lookup_cons,beq_self_eq_true])) fun hp=>h2 p hp hf,fun y d q=>?_⟩
   ·rw [List.forIn_cons]
    dsimp only
    rw [hk,if_pos rfl,show cellOf env x=pure c by unfold cellOf; rw [show env.cells.lookup x=some c from hc]]
    exact e
   ·rw [List.lookup_cons] at q
    cases hy:y == x with
    | true=>rw [hy] at q; rw [beq_iff_eq.mp hy]; exact .inl (hc.trans q)
    | false=>rw [hy] at q; exact .inr q
   ·cases hy:y == x with
    | true=>exact h3 y c (by rw [List.lookup_cons,hy])
    | false=>exact h3 y d (by rw [List.lookup_cons,hy]; exact q)
  | false =>
   refine byP fun PG kG=>?_
   obtain ⟨cl,e,h1,h2,h3⟩:=ih acc fun p hp=>h p (.tail _ hp)
   refine kG ?_
   refine ⟨cl,?_,h1,fun p hp hf=>(List.mem_cons.mp hp).elim (fun e=>?_) fun hp=>h2 p hp hf,h3⟩
   ·rw [List.forIn_cons]
    dsimp only
    rw [hk]
    exact e
   ·rw [e] at hf
    rw [show k=.free from hf] at hk; cases hk
theorem clos_of {scope:Scope}{frC:Vars}(P:CompScope sc scope) (cap:Capt fr scope.names frC) (F:FrOk sc env kp H fr s.heap):∃cl,closureFor scope env=pure cl∧(∀x c,cl.lookup x=some c→env.cells.lookup x=some c)∧(∀p∈scope.names,p.2=.free→∃c,cl.lookup p.1=some c):=by
 refine byP fun PG kG=>?_
 obtain ⟨cl,ecl,h1,h2,_⟩:=closureFor_is env scope.names [] fun p hp hf=>(P.all _ hp).elim (fun z=>nomatch z.1.symm.trans hf) fun z=>z.elim (fun z=>nomatch z.symm.trans hf) fun z =>
  (cap.has (x:=p.1) (by rw [←hf]; exact hp)).elim fun v hv=>(F.cell p.1 v hv (.inl z.2.2)).elim fun c z=>z.elim fun w z=>⟨c,z.1⟩
 refine kG ?_
 exact ⟨cl,congrArg (·>>=fun r=>(pure r:Sem (List (Str×Addr)))) ecl,fun x c e=>(h1 x c e).elim id (fun e=>nomatch e),h2⟩
theorem CompScope.local {scope:Scope}(P:CompScope sc scope) {x:Str×NameKind}(hx:x∈scope.names) (hl:x.2=.local):scope.names.lookup x.1=some .local :=
 (P.all x hx).elim (fun z=>z.2) fun z=>z.elim (fun z=>nomatch z.symm.trans hl) fun z=>nomatch z.1.symm.trans hl
end
end
section
noncomputable def notBarr:Sk→Bool
 | .barr _=>false
 | _=>true
section
variable {C:Cfg}{n:Nat}{sc:Scope}{fr:Vars}{H:GHeap}{A:Around}{kp:Kp}{env:Env}{s:Shared}
theorem iter_self {k:Sk}{I m i:Nat}{Q:Value→Shared→Prop}{E:Value→Shared→Prop}(it:ItAt s.heap I m i k) (hb:notBarr k=true) (q:Q (.ref I) s):wpAny (model C.prog C.w) A (pyIter (.ref I)) Q E s:=by
 induction k using Mine.Sk.casesOn with
 | list=>exact wpAny_pyIter_listiter it.1 q
 | tup=>exact it.elim fun _ z=>wpAny_pyIter_tupleiter z.1 q
 | rng=>exact wpAny_pyIter_rangeiter it q
 | barr=>cases hb
 | keys=>exact wpAny_pyIter_keyiter it q
theorem comp_core {elt target iter:Expr}{ifs:List Expr}{scope:Scope}{pos:Pos}{cl:List (Str×Addr)}{k:Sk}{pv:PV}{xs:List PV}{frC:Vars}{Q:List PV→GHeap→Prop}{v:Value}{R:Value→Addr→Result→Shared→Prop}
  (P:CompScope sc scope) (cap:Capt fr scope.names frC) (hA:Rm n A) (S:St C kp H s) (F:FrOk sc env kp H fr s.heap) (t:Tells s.heap v pv) (sr:Src C H k pv xs) (hb:notBarr k=true) (hl:xs.length≤1000)
  (hcl:∀x c,cl.lookup x=some c→env.cells.lookup x=some c) (hcl2:∀p∈scope.names,p.2=.free→∃c,cl.lookup p.1=some c)
  (q:CpOk C n (relC scope) elt target iter ifs scope pos k pv xs 0 [] frC H Q)
  (hR:∀D X s' zs H',St C kp H' s'→FrOk sc env kp H' fr s'.heap→LsOf s'.heap D zs→kp D=none→H' D=none→¬onFrame env D→(∃m,s'.heap.Ns X m)→kp X=none→H' X=none→¬onFrame env X→D≠X→Q zs H'→R (.ref D) X (.ok .next) s') :
  wpAny (model C.prog C.w) A (pyIter v) (fun it s₂=>wpAny (model C.prog C.w) A (newList []) (fun acc s₃=>wpAny (model C.prog C.w) A (newFunctionEnv scope env.globals cl [] env.qual none .none (some env)) (fun cenv s₄ =>
    codeAny (model C.prog C.w) A (.compStart (.ListComp elt [⟨target,iter,ifs,0⟩] scope pos) 0 it acc {cenv with scope:=relabel scope env}) (R acc cenv.locals) s₄) noE s₃) noE s₂) noE s:=by
 classical
 let x:Addr→Bool:=fun a=>decide (onFrame env a)
 have hx:∀a,x a=true→H a=none:=fun a q=>F.free (of_decide_eq_true q)
 have S1:=S.moreK x hx
 have hk0:=moreK_sub S (x:=x)
 have hfr:∀b o,onFrame env b→s.heap.get? b=some o→moreK s.heap kp x b=some o:=fun b o onf e=>moreK_at e (decide_eq_true onf)
 refine iter_start sr S1 t (by exact Nat.lt_of_le_of_lt (by assumption) (by decide)) fun I h2 hI k2 it2=>?_
 have fresh:=fun (a:Addr) (h:s.heap.objs.size≤a)=>S.fresh h
 have S2:St C (moreK s.heap kp x) H {s with heap:=h2,toks:=s.toks}:=S1.grow k2
 refine wpAny_newObj_type (wpAny_newFunctionEnv (fun y hy e=>?_) (fun y hy=>by cases hy) (fun h4 hns hsb=>?_) P.fn) (by size_fits)
 ·rcases P.all y hy with z | z | z<;>(first | rw [z.1] at e | rw [z] at e)<;>cases e
 dsimp only at hns hsb ⊢
 generalize hH3:h2.push {cls:=.type "list",dict:=none,data:=.seq ([]:List Value).toArray}=h3 at hns hsb ⊢
 have sz2:s.heap.objs.size≤h2.objs.size:=by
  rcases Nat.lt_or_ge h2.objs.size s.heap.objs.size with lt | ge
  ·exfalso
   obtain ⟨o,ho⟩:=it2.there
   exact Nat.lt_irrefl _ (Nat.lt_of_lt_of_le (Nat.lt_trans (Heap.lt_size ho) lt) hI)
  ·exact ge
 have sz3:h3.objs.size=h2.objs.size+1:=by rw [←hH3,Heap.size_push]
 have k3:∀b o,h2.get? b=some o→h4.get? b=some o:=fun b o e =>
  hsb.extBut b o (by rw [sz3]; exact Nat.ne_of_lt (Nat.lt_succ_of_lt (Heap.lt_size e))) (Heap.get?_push_of_some _ (hH3▸Heap.get?_push_of_some _ e))
 have k4:∀b o,s.heap.get? b=some o→h4.get? b=some o:=fun b o e=>k3 b o (k2 b o e)
 have hD:h4.get? h2.objs.size=some {cls:=.type "list",dict:=none,data:=.seq ([]:List Value).toArray} :=
  hsb.extBut _ _ (by rw [sz3]; exact Nat.ne_of_lt (Nat.lt_succ_self _)) (Heap.get?_push_of_some _ (hH3▸Heap.get?_push_size _ rfl))
 have szX:s.heap.objs.size≤h3.objs.size:=by rw [sz3]; lia
 have S4:∀tk,St C (moreK s.heap kp x) H {s with heap:=h4,toks:=tk}:=fun tk=>S1.grow k4
 have hkpX:∀a,s.heap.objs.size≤a→moreK s.heap kp x a=none:=fun a ha=>(S1.fresh ha).2
 have E:FrOk (relC scope) {newEnv scope h3.objs.size env.globals cl env.qual none .none (some env) builtinsNs with scope:=relabel scope env} (moreK s.heap kp x) H frC h4:=by
  have capx:∀{y v},frC.lookup y=some v→scope.names.lookup y=some .free∧sc.names.lookup y=some .cell∧fr.lookup y=some v:=fun {y v} e=>by
   obtain ⟨m,l⟩:=cap.of_lookup e
   rcases P.all _ m with z | z | z
   ·cases z.1
   ·cases z
   ·exact ⟨z.2.1,z.2.2,l⟩
  refine ⟨relabel_is P F.scope F.fn,F.glob,F.bi,P.fn,?_,?_,⟨_,hns,fun y v e l=>?_⟩,hkpX _ szX,(S.fresh szX).1,fun y v e l=>?_,fun y ic l=>?_,fun y c e=>?_⟩
  ·rw [relC_lookup,P.nd]; rfl
  ·rw [relC_lookup,P.nc]; rfl
  ·rw [relC_lookup,(capx e).1] at l; cases l
  ·have f:=capx e
   exact (F.cell y v f.2.2 (.inl f.2.1)).elim fun c z=>z.elim fun w z=>(hcl2 (y,.free) (mem_of_lookup f.1) rfl).elim fun c' hc' =>
    ⟨c,w,Option.some.inj ((hcl y c' hc').symm.trans z.1)▸hc',z.2.1.imp fun o r=>⟨k4 _ _ r.1,r.2⟩,z.2.2.keep (Keep.of_all k4)⟩
  ·unfold isComp at ic
   rw [relC_lookup,P.zero] at ic; cases ic
  ·obtain ⟨a,b,v,o,ho,r⟩:=F.Hc y c (hcl y c e)
   exact ⟨a,fun z=>Nat.lt_irrefl _ (Nat.lt_of_lt_of_le (show c<s.heap.objs.size from Heap.lt_size ho) (Nat.le_trans szX (Nat.le_of_eq (show h3.objs.size=c from z.symm)))),v,o,k4 _ _ ho,r⟩
 have it4:=it2.keep (Keep.of_all k3) fun o e=>k3 _ o e
 have hIX:∀a,s.heap.objs.size≤a→a<h3.objs.size→¬onFrame {newEnv scope h3.objs.size env.globals cl env.qual none .none (some env) builtinsNs with scope:=relabel scope env} a:=fun a ha hlt z=>by
  rcases z with z | ⟨y,z⟩
  ·exact Nat.lt_irrefl _ (Nat.lt_of_lt_of_le hlt (Nat.le_of_eq (show h3.objs.size=a from z.symm)))
  ·obtain ⟨_,_,v,o,ho,r⟩:=F.Hc y a (hcl y a z)
   exact Nat.lt_irrefl _ (Nat.lt_of_lt_of_le (show a<s.heap.objs.size from Heap.lt_size ho) ha)
 have hIlt:I<h2.objs.size:=by obtain ⟨o,ho⟩:=it2.there; exact Heap.lt_size ho
 have loop:∀(tk:Nat),codeAny (model C.prog C.w) A (.compLoop (.ListComp elt [⟨target,iter,ifs,0⟩] scope pos) 0 (.ref I) (.ref h2.objs.size) {newEnv scope h3.objs.size env.globals cl env.qual none .none (some env) builtinsNs with scope:=relabel scope env})
   (R (.ref h2.objs.size) h3.objs.size) {s with heap:=h4,toks:=tk}:=fun tk=>by
  refine codeAny_mono (q.run A _ _ _ I h2.objs.size hA (S4 tk) E it4 (hkpX _ hI) (S.fresh hI).1 (hIX I hI (Nat.lt_of_lt_of_le hIlt (by rw [sz3]; exact Nat.le_succ _))) ⟨[],⟨_,hD⟩,.nil⟩ (hkpX _ sz2) (S.fresh sz2).1 (hIX _ sz2 (by rw [sz3]; exact Nat.lt_succ_self _)) (Ne.symm (Nat.ne_of_lt hIlt))) ?_
  rintro r s' ⟨rfl,zs,fr',H',S',F',L',hHD,qq⟩
  refine hR _ _ s' zs H' (S'.lessK hk0 S.base) ?_ L' (S.fresh sz2).2 hHD (F.fresh sz2) ?_ (S.fresh szX).2 F'.HL (F.fresh szX) (by rw [sz3]; exact Nat.ne_of_lt (Nat.lt_succ_self _)) qq
  ·refine F.change (fun b o onf e=>S'.kept b o (hfr b o onf e)) (moreK_keep S'.kept) fun b onf=>?_
   obtain ⟨o,ho⟩:=F.there onf
   exact S'.notHeld (hfr b o onf ho)
  ·obtain ⟨m,hm,_⟩:=F'.ns
   exact ⟨m,hm⟩
 exact codeAny_compStart_list (loop _) (iter_self (C:=C) (s:={s with heap:=h4,toks:=_}) it4 hb (loop _))
theorem ev_listcomp {elt target iter:Expr}{ifs:List Expr}{scope:Scope}{pos:Pos}{frC:Vars}{Q:PV→GHeap→Prop}(P:compScope sc scope=true) (cap:Capt fr scope.names frC)
  (h:EvOk C n sc iter fr H fun pv H1=>∃k xs,Src C H1 k pv xs∧notBarr k=true∧xs.length≤1000∧CpOk C n (relC scope) elt target iter ifs scope pos k pv xs 0 [] frC H1 fun zs H2=>∀a,H2 a=none→Q (.ref a) (H2.set a (.list zs)))
  (hs:∀env x,foldedSetIterable iter env x=pure x):EvOk C n sc (.ListComp elt [⟨target,iter,ifs,0⟩] scope pos) fr H Q:=⟨fun A kp env s hA S F=>by
 have P':=compScope_is P
 refine byP fun PG kG=>?_
 obtain ⟨cl,hclos,hcl,h2⟩:=clos_of P' cap F
 refine kG ?_
 rw [eval_ListComp]
 refine wpAny_comprehension_free (use:=none) rfl (hs env) hclos P'.fn (fun x hx hl=>P'.local hx hl) (h.next hA S F fun v s1 pv H1 S1 F1 t1 q=>?_)
 refine byP fun PG kG=>?_
 obtain ⟨k,xs,sr,hb,hlen,q⟩:=q
 refine kG ?_
 refine comp_core (R:=fun acc X=>compPost (model C.prog C.w) A noE none (Back C sc kp env fr Q) acc X) P' cap hA S1 F1 t1 sr hb hlen hcl h2 q ?_
 intro D X s' zs H' S' F' L' hkD hHD hfD hX hkX hHX hfX hDX qq
 obtain ⟨m,hm⟩:=hX
 refine ⟨m,hm,fun h' hs'=>?_⟩
 refine byP fun PG kG=>?_
 obtain ⟨o,es,ep,ho,hd,_⟩:=hm
 refine kG ?_
 have K:Keep s'.heap h':=Keep.sameBut hs' ho (fz_dict hd)
 have S2:St C kp H' {s' with heap:=h',toks:=s'.toks}:=S'.change hs'.extBut hkX hHX fun o' e=>by rw [ho] at e; cases e; exact fz_dict hd
 have F2:FrOk sc env kp H' fr h':=F'.over hfX hs'.extBut K
 have L2:LsOf h' D zs:=L'.keep K fun o e=>(hs'.2 D hDX).trans e
 exact ⟨_,_,S2.adopt hkD L2.is,FrOk.adopt (s:={s' with heap:=h',toks:=s'.toks}) F2 hfD,.ref _,qq D hHD⟩⟩
theorem st_comp {y:Str}{py:Pos}{elt target iter:Expr}{ifs:List Expr}{scope:Scope}{pos spos:Pos}{frC:Vars}{Q:Fl→Vars→GHeap→Prop}(P:compScope sc scope=true) (cap:Capt fr scope.names frC) (hy:putName sc y=true)
  (hsw:∀env:Env,env.scope=sc→swapsWith (.ListComp elt [⟨target,iter,ifs,0⟩] scope pos) (some (.Name y py)) spos.line env=pure true)
  (h:EvOk C n sc iter fr H fun pv H1=>∃k xs,Src C H1 k pv xs∧notBarr k=true∧xs.length≤1000∧CpOk C n (relC scope) elt target iter ifs scope pos k pv xs 0 [] frC H1 fun zs H2=>∀a,H2 a=none→∃fr',putD y (.ref a) fr=fr'∧Q .next fr' (H2.set a (.list zs)))
  (hs:∀env x,foldedSetIterable iter env x=pure x):SOk C n sc (.Assign [.Name y py] (.ListComp elt [⟨target,iter,ifs,0⟩] scope pos) spos) fr H Q:=⟨fun A kp env s hA S F=>by
 have P':=compScope_is P
 refine byP fun PG kG=>?_
 obtain ⟨cl,hclos,hcl,h2⟩:=clos_of P' cap F
 refine kG ?_
 rw [exec_Assign_Name_used _ _ _ _ (hsw env F.scope)]
 refine wpAny_bind (wpAny_standAt (wpAny_bind ?_))
 refine wpAny_bind (wpAny_mono (wpAny_comprehension_free (use:=some (assign (.Name y py) env)) (Q:=fun _ s'=>BackF C sc kp env Q .next s') rfl (hs env) hclos P'.fn (fun x hx hl=>P'.local hx hl)
  (h.next hA S F fun v s1 pv H1 S1 F1 t1 q=>?_)) (fun _ s' hq=>wpAny_pure (wpAny_pure hq)) fun _ _ e=>e)
 refine byP fun PG kG=>?_
 obtain ⟨k,xs,sr,hb,hlen,q⟩:=q
 refine kG ?_
 refine comp_core (R:=fun acc X=>compPost (model C.prog C.w) A noE (some (assign (.Name y py) env)) (fun _ s'=>BackF C sc kp env Q .next s') acc X) P' cap hA S1 F1 t1 sr hb hlen hcl h2 q ?_
 intro D X s' zs H' S' F' L' hkD hHD hfD hX hkX hHX hfX hDX qq
 obtain ⟨fr',hp,qf⟩:=qq D hHD
 have S2:=S'.adopt (g:=.list zs) hkD L'.is
 have F2:FrOk sc env kp (H'.set D (.list zs)) fr s'.heap:=F'.adopt hfD
 have hHX2:H'.set D (.list zs) X=none:=by rw [GHeap.set_other _ _ (Ne.symm hDX)]; exact hHX
 have S3:=S2.moreI hHX2
 have F3:=F2.moreI hfX
 refine wpAny_assign_Name (store_name (v:=.ref D) S3 F3 (.ref D) (putName_is hy) fun s4 S4 F4=>?_)
 refine byP fun PG kG=>?_
 obtain ⟨m,o,es,ep,ho,hd,r⟩:=hX
 refine kG ?_
 have hoX:s4.heap.get? X=some o:=S4.kept _ _ (moreK_at ho (by simp))
 refine ⟨m,⟨o,es,ep,hoX,hd,r⟩,fun h' hs'=>?_⟩
 have K:Keep s4.heap h':=Keep.sameBut hs' hoX (fz_dict hd)
 have S5:St C kp (H'.set D (.list zs)) {s4 with heap:=h',toks:=s4.toks}:=(S4.lessK (moreK_sub S2) S.base).change hs'.extBut hkX hHX2 fun o' e=>by rw [hoX] at e; cases e; exact fz_dict hd
 have F4':FrOk sc env kp (H'.set D (.list zs)) (putD y (.ref D) fr) s4.heap:=F4.lessK (moreK_sub S2)
 have F5:FrOk sc env kp (H'.set D (.list zs)) (putD y (.ref D) fr) h':=F4'.over hfX hs'.extBut K
 exact BackF.of S5 (hp▸F5) .next qf⟩
theorem st_assign_comp {t e:Expr}{pos:Pos}{Q:Fl→Vars→GHeap→Prop}(h:EvOk C n sc e fr H fun v H'=>AsOk C n sc t v fr H' fun fr' H2=>Q .next fr' H2)
  (hc:∀env:Env,env.scope=sc→swapsWith e (some t) pos.line env=pure false) (hw:∀env,swappedStores [t] e env=pure none) (he:∀env,(assignEach [t] env).map (·.2)=[assign t env]):SOk C n sc (.Assign [t] e pos) fr H Q:=⟨fun A kp env s hA S F =>
 wpAny_Assign_stores (h.next hA S F fun v s1 x H1 S1 F1 t1 q=>by
  rw [he env]
  exact q.next hA S1 F1 t1 fun _ s2 fr' H2 S2 F2 q2=>.of S2 F2 .next q2) (hc env F.scope) (hw env)⟩
end
end
section
section
variable {C:Cfg}{A:Around}{E:Value→Shared→Prop}{s:Shared}
theorem isTupleKey_of {h:Heap}{b:Addr}{vs:List Value}{ks:List Int}(e:h.get? b=some (tupObj vs)) (i:ItemsAre (intKind C.prog C.w) ks vs):IsTupleKey (intKind C.prog C.w) h ks b:=⟨_,vs.toArray,0,e,rfl,rfl,by simpa using i⟩
theorem tup_inj {vs ws:List Value}(e:some (tupObj vs)=some (tupObj ws)):vs=ws:=congrArg (fun o:Option Obj=>match o with | some {data:=.seq a _,..}=>a.toList | _=>[]) e
theorem IsTKey.inj {h:Heap}{a:Addr}{x y:TKey}(hx:IsTKey C h x a) (hy:IsTKey C h y a):x=y:=by
 refine byP fun PG kG=>?_
 obtain ⟨t,b,e,vs,e',i⟩:=hx
 obtain ⟨t2,b2,f,ws,f',j⟩:=hy
 refine kG ?_
 have f:=tup_inj (e.symm.trans f)
 injection f with f1 f2
 injection f1 with f1 _
 injection f2 with f2 _
 injection f2 with f2
 subst f2
 obtain rfl:=tup_inj (e'.symm.trans f')
 exact Prod.ext f1 (i.inj j)
theorem IsTKey.typeIs {k:TKey}{a:Addr}(x:IsTKey C s.heap k a):s.TypeIs (.ref a) "tuple" := x.elim fun _ x=>x.elim fun _ x=>⟨_,x.1,rfl⟩
theorem pyHash_tkey {k:TKey}{a:Addr}{Q:Int→Shared→Prop}(hu:A.units+64<cLine) (hk:IsTKey C s.heap k a) (h:Q (tkHash C k) {s with toks:=s.toks+(k.2.length+3)}) :
  wpAny (model C.prog C.w) A (pyHash (.ref a)) Q E s:=by
 have hT:=hk.typeIs
 refine byP fun PG kG=>?_
 obtain ⟨t,b,ho,vs,ho',hi⟩:=hk
 refine kG ?_
 unfold pyHash
 delta pyHashByItsType
 first | refine wpAny_bind (wpAny_cRoomFor_or (.inr (by lia)) ?_) | skip
 refine wpAny_bind (wpAny_specialOf hT PySem.F.slot_tuple_hash.lookup ?_)
 rw [if_neg (by rw [beq_builtin_none]; exact Bool.false_ne_true)]
 refine wpAny_bind (wpAny_specialOf hT PySem.F.slot_tuple_hash.lookup ?_)
 refine wpAny_bind (wpAny_callSpecialIfBoundUnlessNone?_slot hT PySem.F.slot_tuple_hash (wpAny_call_entry PySem.F.slot_tuple_hash hT PySem.F.entry_tuple_hash ?_ (PySem.F.args_tuple_hash_1 _)))
 show wpAny _ _ (Builtin.Tuple.tupleItemsOf (.ref a)>>=_) _ _ s
 refine wpAny_bind (wpAny_tupleItemsOf ho rfl ?_)
 refine wpAny_bind ?_
 rw [←Array.forIn_toList]
 simp -iota only [List.forIn_cons,List.forIn_nil]
 have hu1:A.in1.units<cLine:=by show A.units+1<cLine; lia
 refine wpAny_bind (wpAny_bind (wpAny_pyHash_int (wpAny_pure ?_)))
 refine wpAny_bind (wpAny_bind (wpAny_pyHash_tuple hu1 (isTupleKey_of ho' hi) (wpAny_pure ?_)))
 refine wpAny_pure ?_
 show wpAny _ _ (retInt (Builtin.Tuple.tupleHashOf [hashInt k.1,tupleKeyHash (intKind C.prog C.w) k.2])) _ _ _
 refine wpAny_ret_mkInt ?_
 show wpAny _ _ (if (decide (-(2:Int)^63≤Builtin.Tuple.tupleHashOf [hashInt k.1,tupleKeyHash (intKind C.prog C.w) k.2])&&decide (Builtin.Tuple.tupleHashOf [hashInt k.1,tupleKeyHash (intKind C.prog C.w) k.2]<2^63))=true then _ else _) Q E _
 unfold tkHash reduceHash at h
 have e:∀(x:Int) ,s.toks+1+(k.2.length+1)+1=s.toks+(k.2.length+3):=fun _=>by lia
 by_cases hr:(decide (-(2:Int)^63≤Builtin.Tuple.tupleHashOf [hashInt k.1,tupleKeyHash (intKind C.prog C.w) k.2])&&decide (Builtin.Tuple.tupleHashOf [hashInt k.1,tupleKeyHash (intKind C.prog C.w) k.2]<2^63))=true
 ·rw [if_pos hr]
  rw [if_pos hr] at h
  refine wpAny_pure ?_
  simpa [Nat.add_assoc,Nat.add_comm,Nat.add_left_comm] using h
 ·rw [if_neg hr]
  rw [if_neg hr] at h
  refine wpAny_bind (wpAny_rule (wpAny_pure ?_))
  simpa [Nat.add_assoc,Nat.add_comm,Nat.add_left_comm] using h
theorem tkey_eq_tree {x y:TKey}{a b:Addr}{P:Fin→Shared→Prop}(hu:A.units<cLine) (hx:IsTKey C s.heap x a) (hy:IsTKey C s.heap y b) (h:P (.done (.ret (.bool (decide (x=y))))) s) :
  wpAny (model C.prog C.w) A (Builtin.«tuple.__eq__» ⟨[.ref a,.ref b],[]⟩) P E s:=by
 have hTb:=hy.typeIs
 refine byP fun PG kG=>?_
 obtain ⟨ta,ca,hoa,va,hca,hia⟩:=hx
 obtain ⟨tb,cb,hob,vb,hcb,hib⟩:=hy
 refine kG ?_
 show wpAny _ _ (isInstance (.ref b) (.type "tuple")>>=_) _ _ s
 refine wpAny_bind (wpAny_isInstance hTb isSubtype_tuple_tuple ?_)
 simp -iota only [Bool.not_true,Bool.false_eq_true,if_false]
 refine wpAny_bind (wpAny_tupleItemsOf hoa rfl ?_)
 refine wpAny_bind (wpAny_tupleItemsOf hob rfl ?_)
 refine wpAny_bind ?_
 simp -iota only [List.zip_cons_cons,List.zip_nil_left,List.forIn_cons,List.forIn_nil,List.size_toArray,List.length_cons,List.length_nil]
 refine wpAny_bind (wpAny_bind (wpAny_eqBool_int ?_))
 by_cases hk:x.1=y.1
 ·rw [show (x.1 == y.1)=true from beq_iff_eq.mpr hk]
  simp -iota only [Bool.not_true,Bool.false_eq_true,if_false]
  refine wpAny_pure (wpAny_bind (wpAny_bind (wpAny_eqBool_tuple hu (isTupleKey_of hca hia) (isTupleKey_of hcb hib) ?_)))
  by_cases hk2:x.2=y.2
  ·rw [decide_eq_true hk2]
   simp -iota only [Bool.not_true,Bool.false_eq_true,if_false]
   refine wpAny_pure (wpAny_pure ?_)
   rw [show decide (x=y)=true from decide_eq_true (Prod.ext hk hk2)] at h
   exact wpAny_pure h
  ·rw [decide_eq_false hk2]
   simp -iota only [Bool.not_false,if_true]
   rw [show decide (x=y)=false from decide_eq_false fun e=>hk2 (by rw [e])] at h
   exact wpAny_bind (wpAny_pure (wpAny_pure (wpAny_pure (wpAny_pure h))))
 ·rw [show (x.1 == y.1)=false from beq_eq_false_iff_ne.mpr hk]
  simp -iota only [Bool.not_false,if_true]
  rw [show decide (x=y)=false from decide_eq_false fun e=>hk (by rw [e])] at h
  exact wpAny_bind (wpAny_pure (wpAny_pure (wpAny_pure (wpAny_pure h))))
theorem eqBool_tkey {x y:TKey}{a b:Addr}{Q:Bool→Shared→Prop}(hu:A.units+64<cLine) (hx:IsTKey C s.heap x a) (hy:IsTKey C s.heap y b) (h:Q (decide (x=y)) s) :
  wpAny (model C.prog C.w) A (eqBool (.ref a) (.ref b)) Q E s:=by
 unfold eqBool
 try with_reducible refine wpAny_holding ?_
 show wpAny _ _ (if (Value.ref a == Value.ref b)=true then _ else _) Q E s
 by_cases hab:(Value.ref a == Value.ref b)=true
 ·rw [if_pos hab]
  have e:a=b:=by have:=eq_of_beq hab; injection this
  refine byP fun PG kG=>?_
  subst e
  obtain rfl:=hx.inj hy
  refine kG ?_
  exact wpAny_bind (wpAny_rule (wpAny_pure (by simpa using h)))
 ·rw [if_neg hab]
  exact wpAny_bind (wpAny_richCompare_same_room (op:=.Eq) hx.typeIs hy.typeIs PySem.F.slot_tuple_eq
   (wpAny_call_entry PySem.F.slot_tuple_eq hx.typeIs PySem.F.entry_tuple_eq (tkey_eq_tree (by simp; lia) hx hy ⟨_,rfl,(fun e=>nomatch e),wpAny_truthy_bool h⟩) (PySem.F.args_tuple_eq_2 _ _)) (by lia))
theorem quiet_tkey {k:TKey}{a:Addr}{Q:Bool→Shared→Prop}(hk:IsTKey C s.heap k a) (h:Q true s):wpAny (model C.prog C.w) A (eqIsQuiet 8 (.ref a)) Q E s:=by
 have hT:=hk.typeIs
 obtain ⟨ta,ca,hoa,va,hca,hia⟩:=hk
 have hT2:s.TypeIs (.ref ca) "tuple" := ⟨_,hca,rfl⟩
 unfold eqIsQuiet
 refine wpAny_bind (wpAny_specialOf hT PySem.F.slot_tuple_eq.lookup ?_)
 refine wpAny_bind (wpAny_isInstance hT isSubtype_tuple_tuple ?_)
 simp -iota only [Bool.not_true,Bool.false_eq_true,if_false]
 refine wpAny_bind (wpAny_seqItems hoa rfl ?_)
 refine wpAny_bind ?_
 show wpAny _ _ (forIn [Value.int k.1 ta,Value.ref ca].toArray _ _) _ _ s
 rw [←Array.forIn_toList]
 simp -iota only [List.forIn_cons,List.forIn_nil]
 rw [eqIsQuiet_byValue _ (show carriedByValue (Value.int k.1 ta)=true from rfl)]
 refine wpAny_bind (wpAny_bind (wpAny_pure ?_))
 simp -iota only [Bool.not_true,Bool.false_eq_true,if_false]
 refine wpAny_pure (wpAny_bind (wpAny_bind ?_))
 unfold eqIsQuiet
 refine wpAny_bind (wpAny_specialOf hT2 PySem.F.slot_tuple_eq.lookup ?_)
 refine wpAny_bind (wpAny_isInstance hT2 isSubtype_tuple_tuple ?_)
 simp -iota only [Bool.not_true,Bool.false_eq_true,if_false]
 refine wpAny_bind (wpAny_seqItems hca rfl ?_)
 refine wpAny_bind ?_
 rw [←Array.forIn_toList]
 refine wpAny_forIn_list _ (fun rest r s'=>r.1=none∧s'=s∧∀v∈rest,carriedByValue v=true) _ ?_ ?_ _ _ ⟨rfl,rfl,by simpa using hia.byValue⟩
 ·rintro v rest r s' ⟨hr,rfl,hall⟩
  rw [eqIsQuiet_byValue _ (hall v List.mem_cons_self)]
  refine wpAny_bind (wpAny_pure ?_)
  simp -iota only [Bool.not_true,Bool.false_eq_true,if_false]
  exact wpAny_pure ⟨rfl,rfl,fun u hu'=>hall u (List.mem_cons_of_mem _ hu')⟩
 ·rintro ⟨r1,r2⟩ s' ⟨hr,rfl,_⟩
  simp only at hr
  subst hr
  refine wpAny_pure ?_
  simp -iota only [Bool.not_true,Bool.false_eq_true,if_false]
  exact wpAny_pure (wpAny_pure (wpAny_pure h))
theorem IsTKey.keeps {h h':Heap}{k:TKey}{a d:Addr}{o:Obj}{es ep} (x:IsTKey C h k a) (ho:h.get? d=some o) (hd:o.data=.dict es ep) (hs:Heap.SameBut d h h'):IsTKey C h' k a :=
 x.keep (Keep.sameBut hs ho (fz_dict hd))
noncomputable def nest (C:Cfg):HeapKind C.prog C.w TKey where
 is:=fun h k a=>IsTKey C h k a
 hash:=tkHash C
 draws:=fun k=>k.2.length+3
 room:=fun A=>A.units+64<cLine
 inj:=fun hx hy=>hx.inj hy
 keeps:=fun x ho hd hs=>x.keeps ho hd hs
 pyHash:=fun hu hk h=>pyHash_tkey hu hk h
 eqBool:=fun hu hx hy h=>eqBool_tkey hu hx hy h
 quiet:=fun hk h=>quiet_tkey hk h
end
end
section
noncomputable def tkPV (k:TKey):PV:=.tup [.int k.1,.tup (k.2.map PV.int)]
section
variable {C:Cfg}{n:Nat}{sc:Scope}{fr:Vars}{H:GHeap}{Q:PV→GHeap→Prop}{A:Around}{kp:Kp}{env:Env}{s:Shared}
theorem itemsAre_of {h:Heap}(ks:List Int):∀{vs:List Value},TellsL h vs (ks.map PV.int)→ItemsAre (intKind C.prog C.w) ks vs:=by
 induction ks with
 | nil=>intro vs t; obtain rfl:=t.inv; exact .nil
 | cons k ks ih=>intro vs t; obtain ⟨v,ws,rfl,a,l⟩:=t.inv; exact .cons (intKey (C:=C) a) (ih l)
theorem tkey_of {h:Heap}{u:Value}{k:TKey}(t:Tells h u (tkPV k)):∃a,u=.ref a∧IsTKey C h k a:=by
 refine byP fun PG kG=>?_
 obtain ⟨a,vs,rfl,e,l⟩:=t.inv
 obtain ⟨v1,ws,rfl,t1,l⟩:=l.inv
 obtain ⟨v2,ws,rfl,t2,l⟩:=l.inv
 obtain rfl:=l.inv
 obtain ⟨tk,rfl⟩:=t1.inv
 obtain ⟨b,us,rfl,e2,l2⟩:=t2.inv
 refine kG ?_
 exact ⟨_,rfl,_,_,e,_,e2,itemsAre_of _ l2⟩
theorem tkey_tells {h:Heap}{k:TKey}{a:Addr}(x:IsTKey C h k a):Tells h (.ref a) (tkPV k):=by
 refine byP fun PG kG=>?_
 obtain ⟨t,b,e,vs,e',i⟩:=x
 refine kG ?_
 refine .tup e (.cons (.int _ _) (.cons (.tup e' ?_) .nil))
 clear e e'
 generalize k.2=ks at i
 induction i with
 | nil=>exact .nil
 | @cons k v ks vs h1 _ ih =>
  obtain ⟨tk,rfl⟩:=Value.isInt_shape h1
  exact .cons (.int _ _) ih
theorem tdict_at {a:Addr}{kvs:List (TKey×PV)}(S:St C kp H s) (e:H a=some (.tdict kvs)) :
  ∃xs:List (TKey×Addr×Value),s.heap.DictOfH (nest C) a xs∧(kvs.map (·.1)).Nodup∧KV s.heap (xs.map fun x=>(x.1,x.2.2)) kvs:=by
 refine byP fun PG kG=>?_
 obtain ⟨xs,m,ho,nd,tk,kv⟩:=S.own _ _ e
 refine kG ?_
 have hk:xs.map (·.1)=kvs.map (·.1):=by rw [←kv.keys,List.map_map]; rfl
 exact ⟨xs,⟨_,_,_,ho,⟨rfl,rfl,rfl⟩,rfl,rfl,tk,hk▸nd⟩,nd,kv⟩
theorem atKey_lookup (k:TKey):∀xs:List (TKey×Addr×Value),(atKey xs k).map (·.2)=(xs.map fun x=>(x.1,x.2.2)).lookup k
 | []=>rfl
 | (y,a,v)::r=>by
  have ih:=atKey_lookup k r
  unfold atKey at ih ⊢
  rw [List.find?_cons,List.map_cons,List.lookup_cons]
  by_cases h:y=k
  ·subst h; simp
  ·rw [decide_eq_false h,beq_eq_false_iff_ne.mpr (Ne.symm h)]; exact ih
inductive MethOf (C:Cfg) (H:GHeap):PV→String→Prop
 | list {a xs}:H a=some (.list xs)→MethOf C H (.ref a) "list"
 | tdict {a kvs}:H a=some (.tdict kvs)→MethOf C H (.ref a) "dict"
theorem MethOf.at {ov:PV}{T:String}{u:Value}(m:MethOf C H ov T) (S:St C kp H s) (t:Tells s.heap u ov):s.TypeIs u T∧∀a,u=.ref a→∃ob,s.heap.get? a=some ob∧ob.dict=none:=by
 have key:∀{a:Addr}{ob:Obj},ov=.ref a→s.heap.get? a=some ob→ob.cls=.type T→ob.dict=none→s.TypeIs u T∧∀a,u=.ref a→∃ob,s.heap.get? a=some ob∧ob.dict=none:=fun {a ob} e ho hc hd=>by
  subst e
  obtain rfl:=t.inv
  exact ⟨⟨_,ho,hc⟩,fun b h=>⟨ob,Value.ref.inj h▸ho,hd⟩⟩
 cases m with
 | list e=>exact (S.own _ _ e).elim fun vs z=>z.elim fun m z=>key rfl z.1 rfl rfl
 | tdict e=>exact (S.own _ _ e).elim fun vs z=>z.elim fun m z=>key rfl z.1 rfl rfl
structure Meth (T:String) (name:Str) (id:String):Prop where
 pa:PlainAttrs T
 slot:Slot T name id
 ty:typeOf (.builtin id)=pure (.type "method_descriptor")
theorem m_append:Meth "list" "append" "list.append" := ⟨PySem.F.plainAttrs_list,PySem.F.slot_list_append,PySem.F.type_list_append⟩
theorem m_extend:Meth "list" "extend" "list.extend" := ⟨PySem.F.plainAttrs_list,PySem.F.slot_list_extend,PySem.F.type_list_extend⟩
theorem m_get:Meth "dict" "get" "dict.get" := ⟨PySem.F.plainAttrs_dict,PySem.F.slot_dict_get,PySem.F.type_dict_get⟩
theorem m_items:Meth "dict" "items" "dict.items" := ⟨PySem.F.plainAttrs_dict,PySem.F.slot_dict_items,PySem.F.type_dict_items⟩
theorem allStars {args:List Expr}(h:args.all notStar=true) (env:Env) (pos:Pos):(backTo pos (starEach args env)).all (fun x=>!x.1)=true:=by
 induction args with
 | nil=>rfl
 | cons e r ih =>
  rw [List.all_cons,Bool.and_eq_true] at h
  rw [starEach_cons h.1]
  show (true&&(backTo pos (starEach r env)).all _)=true
  rw [ih h.2]; rfl
theorem ev_method {o:Expr}{name:Str}{apos pos:Pos}{args:List Expr}{T id:String}(m:Meth T name id)
  (h:EvOk C n sc o fr H fun ov H1=>MethOf C H1 ov T∧EvsOk C n sc args fr H1 fun xs H2=>CallOk C n (.val (.builtin id)) (ov::xs) H2 Q)
  (ha:args.all notStar=true) (hl:args.length<30) (hline:(apos.endLine == pos.line)=true)
  (hbase:∀env w,attributeBase o name env w=w):EvOk C n sc (.Call (.Attribute o name apos) args [] pos) fr H Q:=⟨fun A kp env s hA S F=>by
 have hn:((backTo pos (starEach args env)).all (fun x=>!x.1)&&true&&decide (args.length+0+0<30))=true:=by rw [allStars ha]; exact decide_eq_true hl
 exact wpAny_Call_method (hbase env _) hn hline m.pa m.slot m.ty (h.next hA S F fun u s1 ov H1 S1 F1 t1 q =>
  have z:=q.1.at S1 t1
  ⟨z.1,z.2,callWith_of (P:=fun _=>True) (by rw [noStars ha]; rfl) (fun h' _=>⟨.machine,.inr (.inl rfl),Looks.of_pure rfl⟩) (evalArgs_any ha (q.2.nextK hA S1 F1 fun vs s2 xs H2 K S2 F2 t2 q2=>⟨trivial,
   op_frame F2 S2 fun kp' S' _=>q2.run A kp' s2 (.builtin id) (u::vs) hA S' (.bi id) (.cons (t1.keep K) t2)⟩))⟩)⟩
theorem c_append {a:Addr}{xs:List PV}{x:PV}(e:H a=some (.list xs)) (hl:xs.length≤1000) (q:Q .none (H.set a (.list (xs++[x])))):CallOk C n (.val (.builtin "list.append")) [.ref a,x] H Q:=.r2 fun A kp s u hA S t2=>by
 refine byP fun PG kG=>?_
 obtain ⟨us,m,ho,tl⟩:=S.own _ _ e
 refine kG ?_
 refine wpAny_list_append_plain ⟨m,ho⟩ (fun h' hp hs=>hp.elim fun m' ho'=>?_) (tl.fits hl)
 have K:Keep s.heap h':=Keep.sameBut hs ho rfl
 exact BackV.of (S.put (t:=s.toks) (g':=.list (xs++[x])) e hs ⟨us++[u],m',List.push_toArray us u▸ho',(tl.keep K).append (.cons (t2.keep K) .nil)⟩) .none q
theorem c_extend {a b:Addr}{xs ys:List PV}(e:H a=some (.list xs)) (e2:H b=some (.list ys)) (hl:xs.length≤1000) (hl2:ys.length≤1000) (q:Q .none (H.set a (.list (xs++ys)))):CallOk C n (.val (.builtin "list.extend")) [.ref a,.ref b] H Q:=.r2 fun A kp s u hA S t2=>by
 refine byP fun PG kG=>?_
 obtain rfl:=t2.inv
 obtain ⟨us,m,ho,tl⟩:=S.own _ _ e
 obtain ⟨ws,k,ho2,tl2⟩:=S.own _ _ e2
 refine kG ?_
 have hz:us.toArray.size+ws.toArray.size≤sizeLine:=Nat.le_trans (Nat.add_le_add (tl.length▸hl:us.length≤1000) (tl2.length▸hl2:ws.length≤1000)) (by rw [sizeLine_eq]; decide)
 have hh:Builtin.List.listTooLong (us.toArray.size+ws.toArray.size)=false:=decide_eq_false (Nat.not_lt.mpr hz)
 refine call_meets PySem.F.slot_list_extend ⟨_,ho,rfl⟩ PySem.F.entry_list_extend (PySem.F.args_list_extend_2 _ _) (PySem.AutoSeq1.list_extend_list_list_0 a us.toArray m b ws.toArray k (fun h=>?_) (tl.fits hl) (Nat.le_succ_of_le hz)) ⟨ho,ho2,?_⟩
 ·rw [hh,Bool.and_false] at h; cases h
 ·have hs:Heap.SameBut a s.heap (s.heap.update a (Obj.mapSeq fun x=>x++ws.toArray)):=Heap.SameBut.update ..
  have K:=Keep.sameBut hs ho rfl
  have ge:=get?_update_seq ho (fun x:Array Value=>x++ws.toArray)
  rw [List.append_toArray] at ge
  exact BackV.of (S.put (t:=s.toks) (g':=.list (xs++ys)) e hs ⟨us++ws,_,ge,(tl.keep K).append (tl2.keep K)⟩) .none q
theorem Rm.nest {A:Around}(hA:Rm n A):(nest C).room A.in1:=Nat.lt_of_le_of_lt (Nat.add_le_add_right (Nat.add_le_add_right (Nat.le_trans (Nat.le_add_right _ _) hA.u) 1) 64) (by decide)
theorem c_get {d:Addr}{kvs:List (TKey×PV)}{k:TKey}{kv:PV}(e:H d=some (.tdict kvs)) (hk:kv=tkPV k) (q:Q ((kvs.lookup k).getD .none) H):CallOk C n (.val (.builtin "dict.get")) [.ref d,kv] H Q:=.r2 fun A kp s u hA S t2=>by
 subst hk
 refine byP fun PG kG=>?_
 obtain ⟨a,rfl,hkey⟩:=tkey_of (C:=C) t2
 obtain ⟨xs,hd,nd,t⟩:=tdict_at S e
 refine kG ?_
 refine call_meetsIn PySem.F.slot_dict_get hd.typeIs PySem.F.entry_dict_get (PySem.F.args_dict_get_2 _ _) (meetsH_dict_get (nest C) d a (S.notMods e)) ⟨hA.nest,k,xs,hkey,hd,?_⟩
 rw [atKey_lookup]
 cases hl:kvs.lookup k with
 | none=>rw [t.lookup_none hl]; rw [hl] at q; exact BackV.of (S.toks _) .none q
 | some x =>
  rw [hl] at q
  exact (t.lookup hl).elim fun w z=>by rw [z.1]; exact BackV.of (S.toks _) z.2 q
end
end
section
mutual
inductive Dt (C:Cfg) (H:GHeap):PV→PyData→Prop
 | none:Dt C H .none .none
 | bool (b:Bool):Dt C H (.bool b) (.bool b)
 | int (i:Int):Dt C H (.int i) (.int i)
 | str (x:Str):Dt C H (.str x) (.str x)
 | tup {xs ds}:DtL C H xs ds→Dt C H (.tup xs) (.tuple ds)
 | list {a xs ds}:LsAt C H a xs→DtL C H xs ds→Dt C H (.ref a) (.list ds)
inductive DtL (C:Cfg) (H:GHeap):List PV→List PyData→Prop
 | nil:DtL C H [] []
 | cons {x xs d ds}:Dt C H x d→DtL C H xs ds→DtL C H (x::xs) (d::ds)
end
section
variable {C:Cfg}{n:Nat}{H:GHeap}{Q:PV→GHeap→Prop}{A:Around}{kp:Kp}{s:Shared}
theorem Dt.reads (S:St C kp H s) {x:PV}{d:PyData}{v:Value}(D:Dt C H x d):Tells s.heap v x→∃as,Reads s.heap v d as :=
 Dt.rec (motive_1:=fun x d _=>∀{v},Tells s.heap v x→∃as,Reads s.heap v d as) (motive_2:=fun xs ds _=>∀{vs},TellsL s.heap vs xs→∃as,ReadsAll s.heap vs ds as)
  (fun t=>by obtain rfl:=t.inv; exact ⟨_,.none⟩) (fun b _ t=>by obtain rfl:=t.inv; exact ⟨_,.bool _⟩) (fun i _ t=>by obtain ⟨_,rfl⟩:=t.inv; exact ⟨_,.int _ _⟩) (fun x _ t=>by obtain ⟨_,rfl⟩:=t.inv; exact ⟨_,.str _ _⟩)
  (fun _ ih _ t=>by obtain ⟨_,_,rfl,e,l⟩:=t.inv; exact (ih l).elim fun _ r=>⟨_,.tuple e rfl rfl r⟩)
  (fun la _ ih _ t=>by
   refine byP fun PG kG=>?_
   obtain rfl:=t.inv
   obtain ⟨vs,⟨o,ho,hc,n,hd⟩,l⟩:=la.isList S
   refine kG ?_
   exact (ih l).elim fun _ r=>⟨_,.list ho hc hd r⟩)
  (fun t=>by obtain rfl:=t.inv; exact ⟨_,.nil⟩) (fun _ _ i1 i2 _ t=>by obtain ⟨_,_,rfl,a,l⟩:=t.inv; exact (i1 a).elim fun _ r=>(i2 l).elim fun _ rs=>⟨_,.cons r rs⟩) D
theorem DtL.ind {P:List PV→List PyData→Prop}(nil:P [] []) (cons:∀{x d xs ds},Dt C H x d→DtL C H xs ds→P xs ds→P (x::xs) (d::ds)) {xs:List PV}{ds:List PyData}(t:DtL C H xs ds):P xs ds :=
 DtL.rec (motive_1:=fun _ _ _=>True) (motive_2:=fun xs ds _=>P xs ds) trivial (fun _=>trivial) (fun _=>trivial) (fun _=>trivial) (fun _ _=>trivial) (fun _ _ _=>trivial) nil (fun a l _ i=>cons a l i) t
theorem DtL.get {xs:List PV}{ds:List PyData}(l:DtL C H xs ds):∀{i:Nat}{x:PV},xs[i]?=some x→∃d,ds[i]?=some d∧Dt C H x d :=
 l.ind (P:=fun xs ds=>∀{i:Nat}{x:PV},xs[i]?=some x→∃d,ds[i]?=some d∧Dt C H x d) (fun e=>nomatch e) fun a _ r i=>Nat.casesOn i (fun e=>⟨_,rfl,Option.some.inj e▸a⟩) fun _ e=>r e
theorem DtL.length {xs:List PV}{ds:List PyData}(l:DtL C H xs ds):xs.length=ds.length:=l.ind (P:=fun xs ds=>xs.length=ds.length) rfl fun _ _ i=>congrArg (·+1) i
theorem DtL.ints:∀ks:List Int,DtL C H (ks.map PV.int) (ks.map PyData.int)
 | []=>.nil
 | k::ks=>.cons (.int k) (DtL.ints ks)
theorem op_eq_deep {a b:PV}{d d':PyData}(ha:Dt C H a d) (hb:Dt C H b d') (h1:SeqAt.shaped d=true) (h2:SeqAt.shaped d'=true) (q:Q (.bool (PyData.eqv d d')) H):Op2Ok C n (compareOp .Eq) a b H Q:=⟨fun A kp s u v hA S t1 t2=>by
 obtain ⟨as,r1⟩:=ha.reads S t1
 obtain ⟨bs,r2⟩:=hb.reads S t2
 exact SeqAt.compareEq_shaped r1 r2 h1 h2 hA.units64 (BackV.of S (.bool _) q)⟩
theorem op_ne_deep {a b:PV}{d d':PyData}(ha:Dt C H a d) (hb:Dt C H b d') (h1:SeqAt.shaped d=true) (h2:SeqAt.shaped d'=true) (q:Q (.bool (!PyData.eqv d d')) H):Op2Ok C n (compareOp .NotEq) a b H Q:=⟨fun A kp s u v hA S t1 t2=>by
 obtain ⟨as,r1⟩:=ha.reads S t1
 obtain ⟨bs,r2⟩:=hb.reads S t2
 exact SeqAt.compareNe_shaped r1 r2 h1 h2 hA.units64 (BackV.of S (.bool _) q)⟩
theorem op_ne_nil {a b:Addr}{xs:List PV}(ha:LsAt C H a xs) (hb:LsAt C H b []) (q:Q (.bool (!xs.isEmpty)) H):Op2Ok C n (compareOp .NotEq) (.ref a) (.ref b) H Q:=.rf fun A kp s v hA S t2=>by
 refine byP fun PG kG=>?_
 obtain rfl:=t2.inv
 obtain ⟨vs,hl,t⟩:=ha.isList S
 obtain ⟨ws,hl2,t2⟩:=hb.isList S
 obtain rfl:=t2.inv
 refine kG ?_
 induction xs using List.casesOn with
 | nil =>
  obtain rfl:=t.inv
  exact SeqAt.RcNeAt.lists hl hl2 rfl hA.units (e:=fun _=>true) (fun j h _=>absurd h (Nat.not_lt_zero _)) _ _ _ _ (BackV.of S (.bool _) q)
 | cons x xs =>
  refine byP fun PG kG=>?_
  obtain ⟨_,_,rfl,_⟩:=t.inv
  refine kG ?_
  exact SeqAt.RcNeAt.lists_lengths hl hl2 rfl hA.units _ _ _ _ (BackV.of S (.bool _) q)
theorem any_tells (S:St C kp H s) {xs:List PV}{ds:List PyData}{vs:List Value}{x:PV}{d:PyData}{v:Value}(hl:DtL C H xs ds) (t:TellsL s.heap vs xs) (hx:Dt C H x d) (tx:Tells s.heap v x)
  (hu:A.units+64<cLine) (h1:ds.all SeqAt.shaped=true) (h2:SeqAt.shaped d=true) :
  ∃e:Value→Bool,(∀y,y∈vs.toArray→SeqAt.EqAt A s y v (e y))∧vs.toArray.any e=ds.any fun y=>PyData.eqv y d:=by
 classical
 obtain ⟨bs,rx⟩:=hx.reads S tx
 have one:∀(i:Nat) (y:Value),vs[i]?=some y→∃dd,ds[i]?=some dd∧SeqAt.EqAt A s y v (PyData.eqv dd d):=fun i y hy=>by
  have hlt:i<xs.length:=by rw [←t.length]; exact (List.getElem?_eq_some_iff.mp hy).1
  obtain ⟨dd,hd,hdt⟩:=hl.get (i:=i) (x:=xs[i]) (by simp [hlt])
  obtain ⟨w,hw,tw⟩:=t.get (i:=i) (x:=xs[i]) (by simp [hlt])
  rw [hy] at hw; cases hw
  obtain ⟨as,ry⟩:=hdt.reads S tw
  have hs:=List.all_eq_true.mp h1 dd (List.mem_of_getElem? hd)
  exact ⟨dd,hd,SeqAt.eqAt_reads dd d A s y v as bs ry rx (SeqAt.canLay_of_shaped hs) (SeqAt.canLay_of_shaped h2) (SeqAt.room_of_shaped hs hu)⟩
 refine ⟨fun y=>decide (∃(i:Nat) (dd:PyData),vs[i]?=some y∧ds[i]?=some dd∧PyData.eqv dd d=true),fun y hy=>?_,?_⟩
 ·obtain ⟨i,hi⟩:=List.mem_iff_getElem?.mp (List.mem_toArray.mp hy)
  by_cases h:∃(i:Nat) (dd:PyData),vs[i]?=some y∧ds[i]?=some dd∧PyData.eqv dd d=true
  ·dsimp only
   rw [decide_eq_true h]
   obtain ⟨j,dd,hj,hd,he⟩:=h
   obtain ⟨dd',hd',E⟩:=one j y hj
   rw [hd] at hd'; cases hd'
   rwa [he] at E
  ·dsimp only
   rw [decide_eq_false h]
   obtain ⟨dd',hd',E⟩:=one i y hi
   have:PyData.eqv dd' d=false:=by
    cases hq:PyData.eqv dd' d with
    | false=>rfl
    | true=>exact absurd ⟨i,dd',hi,hd',hq⟩ h
   rwa [this] at E
 ·rw [Bool.eq_iff_iff]
  simp only [List.any_toArray,List.any_eq_true,decide_eq_true_eq]
  constructor
  ·rintro ⟨y,_,i,dd,_,hd,he⟩
   exact ⟨dd,List.mem_of_getElem? hd,he⟩
  ·rintro ⟨dd,hd,he⟩
   obtain ⟨i,hi⟩:=List.mem_iff_getElem?.mp hd
   have hlt:i<vs.length:=by rw [t.length,hl.length]; exact (List.getElem?_eq_some_iff.mp hi).1
   exact ⟨vs[i],List.getElem_mem hlt,i,dd,by simp [hlt],hi,he⟩
theorem in_any {x:PV}{xs:List PV}{d:PyData}{ds:List PyData}{vs:List Value}{u:Value}{R:Bool→Prop}(hA:Rm n A) (S:St C kp H s) (t:TellsL s.heap vs xs) (tx:Tells s.heap u x) (hl:DtL C H xs ds) (hx:Dt C H x d) (h1:ds.all SeqAt.shaped=true) (h2:SeqAt.shaped d=true)
  (q:R (ds.any fun y=>PyData.eqv y d)):∃e:Value→Bool,(∀y,y∈vs.toArray→SeqAt.EqAt A.in1 s y u (e y))∧R (vs.toArray.any e):=by
 obtain ⟨f,z,e⟩:=any_tells (A:=A.in1) S hl t hx tx (hA.nest (C:=C)) h1 h2
 exact ⟨f,z,by rw [e]; exact q⟩
theorem in_tup {x:PV}{xs:List PV}{d:PyData}{ds:List PyData}(hl:DtL C H xs ds) (hx:Dt C H x d) (h1:ds.all SeqAt.shaped=true) (h2:SeqAt.shaped d=true) (q:Q (.bool (ds.any fun y=>PyData.eqv y d)) H) :
  Op2Ok C n (compareOp .In) x (.tup xs) H Q:=⟨fun A kp s u v hA S t1 t2=>by
 obtain ⟨a,vs,rfl,e,t⟩:=t2.inv
 exact (in_any (R:=fun b=>Q (.bool b) H) hA S t t1 hl hx h1 h2 q).elim fun f z=>SeqAt.in_tupleAt f ⟨_,e,rfl,0,rfl⟩ z.1 (BackV.of S (.bool _) z.2)⟩
theorem notin_tup {x:PV}{xs:List PV}{d:PyData}{ds:List PyData}(hl:DtL C H xs ds) (hx:Dt C H x d) (h1:ds.all SeqAt.shaped=true) (h2:SeqAt.shaped d=true) (q:Q (.bool (!ds.any fun y=>PyData.eqv y d)) H) :
  Op2Ok C n (compareOp .NotIn) x (.tup xs) H Q:=⟨fun A kp s u v hA S t1 t2=>by
 obtain ⟨a,vs,rfl,e,t⟩:=t2.inv
 exact (in_any (R:=fun b=>Q (.bool (!b)) H) hA S t t1 hl hx h1 h2 q).elim fun f z=>SeqAt.notIn_tupleAt f ⟨_,e,rfl,0,rfl⟩ z.1 (BackV.of S (.bool _) z.2)⟩
theorem in_list {x:PV}{a:Addr}{xs:List PV}{d:PyData}{ds:List PyData}(la:LsAt C H a xs) (hl:DtL C H xs ds) (hx:Dt C H x d) (h1:ds.all SeqAt.shaped=true) (h2:SeqAt.shaped d=true) (q:Q (.bool (ds.any fun y=>PyData.eqv y d)) H) :
  Op2Ok C n (compareOp .In) x (.ref a) H Q:=.rfR fun A kp s u hA S t1 =>
 (la.isList S).elim fun vs y=>(in_any (R:=fun b=>Q (.bool b) H) hA S y.2 t1 hl hx h1 h2 q).elim fun f z=>SeqAt.in_listAt f y.1 z.1 (BackV.of S (.bool _) z.2)
end
end
section
section
variable {C:Cfg}{n:Nat}{sc:Scope}{fr:Vars}{H:GHeap}{Q:PV→GHeap→Prop}{A:Around}{kp:Kp}{env:Env}{s:Shared}
theorem TellsL.set {h:Heap}{v:Value}{x:PV}(t:Tells h v x) {vs:List Value}{xs:List PV}(l:TellsL h vs xs):∀i:Nat,TellsL h (vs.set i v) (xs.set i x) :=
 l.ind (P:=fun vs xs=>∀i:Nat,TellsL h (vs.set i v) (xs.set i x)) (fun _=>.nil) fun a l ih i=>Nat.casesOn i (.cons t l) fun i=>.cons a (ih i)
theorem TellsL.eraseIdx {h:Heap}{vs:List Value}{xs:List PV}(l:TellsL h vs xs):∀i:Nat,TellsL h (vs.eraseIdx i) (xs.eraseIdx i) :=
 l.ind (P:=fun vs xs=>∀i:Nat,TellsL h (vs.eraseIdx i) (xs.eraseIdx i)) (fun _=>.nil) fun a l ih i=>Nat.casesOn i l fun i=>.cons a (ih i)
theorem listOf_get {h:Heap}{a:Addr}{items:Array Value}{m:Nat}(f:Array Value→Array Value) (ho:h.get? a=some (PySem.W.listOf items m)):∃z,(h.update a (Obj.mapSeq f)).get? a=some (PySem.W.listOf (f items) z):=⟨_,get?_update_seq ho f⟩
theorem si_list {a:Addr}{xs:List PV}{k:Int}{v:PV}{Q:GHeap→Prop}(e:H a=some (.list xs)) (h0:0≤k) (h1:k<xs.length) (hz:xs.length≤1000) (q:Q (H.set a (.list (xs.set k.toNat v)))):SetOk C n (.ref a) (.int k) v H Q:=.rf fun A kp s ui uv hA S ti tv=>by
 obtain ⟨tk,rfl⟩:=ti.inv
 obtain ⟨vs,m,ho,t⟩:=S.own _ _ e
 have hT:s.TypeIs (.ref a) "list" := ⟨_,ho,rfl⟩
 unfold setItem
 with_reducible refine wpAny_holding ?_
 refine wpAny_bind (wpAny_sequenceKey hT (by decide) ?_)
 refine wpAny_bind (wpAny_callSpecial?_slot (name:=Str.ofString "__setitem__") hT slot_list_setitem
  (wpAny_call_entry slot_list_setitem hT entry_list_setitem ?_ (args_list_setitem _ _ _)))
 show wpAny _ _ (Builtin.List.listSubscript? (.int k tk)>>=_) _ _ s
 refine wpAny_bind (wpAny_listSubscript_int (fitsIndex_of h0 (by lia)) ?_)
 obtain ⟨j,rfl⟩:=Int.eq_ofNat_of_zero_le h0
 have hj:j<vs.length:=t.length▸Int.ofNat_lt.mp h1
 refine wpAny_bind (wpAny_bind (wpAny_seqItemAt ho rfl (wpAny_pure ?_)))
 rw [List.getElem?_toArray,List.getElem?_eq_getElem hj]
 show wpAny _ _ (setSeqItemAt a j uv>>=_) _ _ s
 obtain ⟨z,hg⟩:=listOf_get (·.setIfInBounds j uv) ho
 have hs:Heap.SameBut a s.heap (s.heap.update a (Obj.mapSeq (·.setIfInBounds j uv))):=Heap.SameBut.update ..
 have K:=Keep.sameBut hs ho rfl
 rw [List.setIfInBounds_toArray] at hg
 exact wpAny_bind (wpAny_setSeqItemAt ho rfl (wpAny_pure ⟨.none,rfl,wpAny_pure ⟨_,S.put (t:=s.toks) (g':=.list (xs.set (Int.toNat (j:Int)) v)) e hs ⟨vs.set j uv,z,hg,TellsL.set (tv.keep K) (t.keep K) j⟩,q⟩⟩))
structure DelOk (C:Cfg) (n:Nat) (o i:PV) (H:GHeap) (Q:GHeap→Prop):Prop where
 run:∀A kp s uo ui,Rm n A→St C kp H s→Tells s.heap uo o→Tells s.heap ui i→wpAny (model C.prog C.w) A (delItem uo ui) (fun _ s'=>∃H',St C kp H' s'∧Q H') noE s
theorem DelOk.rf {a:Addr}{i:PV}{Q:GHeap→Prop}(h:∀A kp s ui,Rm n A→St C kp H s→Tells s.heap ui i→wpAny (model C.prog C.w) A (delItem (.ref a) ui) (fun _ s'=>∃H',St C kp H' s'∧Q H') noE s):DelOk C n (.ref a) i H Q:=⟨fun A kp s uo ui hA S to ti=>by
 obtain rfl:=to.inv
 exact h A kp s ui hA S ti⟩
theorem di_list {a:Addr}{xs:List PV}{k:Int}{Q:GHeap→Prop}(e:H a=some (.list xs)) (h0:0≤k) (h1:k<xs.length) (hz:xs.length≤1000) (q:Q (H.set a (.list (xs.eraseIdx k.toNat)))):DelOk C n (.ref a) (.int k) H Q:=.rf fun A kp s ui hA S ti=>by
 obtain ⟨_,rfl⟩:=ti.inv
 obtain ⟨vs,m,ho,t⟩:=S.own _ _ e
 obtain ⟨j,rfl⟩:=Int.eq_ofNat_of_zero_le h0
 have hj:j<vs.length:=t.length▸Int.ofNat_lt.mp h1
 refine wpAny_delItem_plain ⟨m,ho⟩ (fitsIndex_of h0 (by first | exact Int.lt_trans h1 (Int.ofNat_lt.mpr (Nat.lt_of_le_of_lt hz (by decide))) | omega)) (k:=j) ?_ (fun h' hp hs=>?_) (t.fits hz)
 ·show seqIndex? (j:Int) vs.length=some j
  unfold seqIndex?
  have h2:¬((j:Int)<0):=Int.not_lt.mpr h0
  have h3:¬((vs.length:Int)≤(j:Int)):=Int.not_le.mpr (Int.ofNat_lt.mpr hj)
  simp [h2,h3]
  try omega
 ·have K:=Keep.sameBut hs ho rfl
  obtain ⟨z,hg⟩:=hp
  rw [List.eraseIdxIfInBounds_toArray] at hg
  exact ⟨_,S.put (t:=s.toks) (g':=.list (xs.eraseIdx j)) e hs ⟨vs.eraseIdx j,z,hg,(t.keep K).eraseIdx j⟩,q⟩
theorem di_idict {a:Addr}{kvs:List (Int×PV)}{k:Int}{Q:GHeap→Prop}(e:H a=some (.idict kvs)) (hk:(kvs.lookup k).isSome=true) (hz:kvs.length≤1000) (q:Q (H.set a (.idict (kvs.filter fun kv=>!(kv.1 == k))))):DelOk C n (.ref a) (.int k) H Q:=.rf fun A kp s ui hA S ti=>by
 refine byP fun PG kG=>?_
 obtain ⟨vs,hd,t⟩:=S.own _ _ e
 obtain ⟨o,ho,hf⟩:=(S.own _ _ e).at
 obtain ⟨x,hx⟩:=Option.isSome_iff_exists.mp hk
 obtain ⟨w,hw,_⟩:=t.lookup hx
 refine kG ?_
 unfold delItem
 with_reducible refine wpAny_holding ?_
 refine wpAny_bind (wpAny_sequenceKey hd.typeIs (by decide) ?_)
 refine wpAny_bind (wpAny_callSpecial?_slot (name:=Str.ofString "__delitem__") hd.typeIs PySem.F.slot_dict_delitem
  (call_meetsIn PySem.F.slot_dict_delitem hd.typeIs PySem.F.entry_dict_delitem (PySem.F.args_dict_delitem_2 _ _) (meets_dict_delitem_pairs (intKind C.prog C.w) a (intKey (C:=C) ti)) ⟨vs,hd,t.length▸line_of hz,by rw [valueAt_eq,hw]; rfl,fun h' hd' hs=>?_⟩))
 have K:=Keep.sameBut hs ho hf
 exact wpAny_pure ⟨_,S.put (t:=s.toks+1) (g':=.idict (kvs.filter fun kv=>!(kv.1 == k))) e hs ⟨_,hd',by rw [without_eq]; exact (t.keep K).filter fun x=>!(x == k)⟩,q⟩
theorem dictOfH_obj {h:Heap}{a:Addr}{xs:List (TKey×Addr×Value)}(d:h.DictOfH (nest C) a xs):(∃m,h.get? a=some (PySem.W.dictOf (xs.map (tdEntry C)) m))∧(∀x∈xs,IsTKey C h x.1 x.2.1)∧(xs.map (·.1)).Nodup:=by
 refine byP fun PG kG=>?_
 obtain ⟨⟨c,dd,dt,sl⟩,es,ep,ho,hp,hd,he,r⟩:=d
 obtain rfl:=hp.1
 obtain rfl:=hp.2.1
 obtain rfl:=hp.2.2
 obtain rfl:=hd
 refine kG ?_
 exact ⟨⟨ep,by rw [ho,←Array.toArray_toList (xs:=es),he]; rfl⟩,r⟩
theorem keysH {α:Type}(xs:List (TKey×α×Value)):(xs.map fun x=>(x.1,x.2.2)).map (·.1)=xs.map (·.1):=by rw [List.map_map]; rfl
theorem storedH_map {k:TKey}{a:Addr}{v:Value}:∀{xs:List (TKey×Addr×Value)},(xs.map (·.1)).Nodup→(storedH xs k a v).map (fun x=>(x.1,x.2.2))=putD k v (xs.map fun x=>(x.1,x.2.2)):=fun {xs} hn=>by
 unfold storedH
 by_cases hs:(atKey xs k).isSome=true
 ·rw [if_pos hs]
  induction xs with
  | nil=>cases hs
  | cons y r ih =>
   obtain ⟨y1,y2,y3⟩:=y
   rw [List.map_cons,List.nodup_cons] at hn
   rw [List.map_cons,List.map_cons,List.map_cons]
   unfold putD
   by_cases hy:y1=k
   ·subst hy
    have hm:r.map (putAt y1 v)=r:=map_putAt_of_not_mem r y1 v hn.1
    rw [hm]
    unfold putAt
    rw [if_pos rfl,beq_self_eq_true,if_pos rfl]
   ·have hs':(atKey r k).isSome=true:=by unfold atKey at hs; rwa [List.find?_cons,decide_eq_false hy] at hs
    rw [ih hn.2 hs']
    unfold putAt
    rw [if_neg hy,beq_eq_false_iff_ne.mpr (Ne.symm hy),if_neg Bool.false_ne_true]
 ·rw [if_neg hs,List.map_append]
  refine (putD_of_not_mem k v _ fun hm=>hs ?_).symm
  rw [keysH] at hm
  obtain ⟨y,hy,e⟩:=List.mem_map.mp hm
  unfold atKey
  rw [Option.isSome_map,List.find?_isSome]
  exact ⟨y,hy,decide_eq_true e⟩
theorem si_tdict {d:Addr}{kvs:List (TKey×PV)}{k:TKey}{kv v:PV}{Q:GHeap→Prop}(e:H d=some (.tdict kvs)) (hk:kv=tkPV k) (hz:kvs.length≤1000) (q:Q (H.set d (.tdict (putD k v kvs)))):SetOk C n (.ref d) kv v H Q:=.rf fun A kp s ui uv hA S ti tv=>by
 subst hk
 refine byP fun PG kG=>?_
 obtain ⟨a,rfl,hkey⟩:=tkey_of (C:=C) ti
 obtain ⟨xs,hd,nd,t⟩:=tdict_at S e
 obtain ⟨o,ho,hf⟩:=(S.own _ _ e).at
 refine kG ?_
 have hl:xs.length=kvs.length:=(List.length_map _).symm.trans t.length
 refine wpAny_setItem_heap (knd:=nest C) (hA.nest (C:=C)) hkey hd (fun h' hd' hs=>?_) (hl▸line_of hz)
 have K:=Keep.sameBut hs ho hf
 refine byP fun PG kG=>?_
 obtain ⟨⟨m,hm⟩,tk,nd'⟩:=dictOfH_obj hd'
 refine kG ?_
 have kv:=KV.putD (k:=k) (tv.keep K) (t.keep K)
 rw [←storedH_map (a:=a) (keysH xs▸t.keys▸nd)] at kv
 exact ⟨_,S.put (t:=s.toks+(nest C).draws k) (g':=.tdict (putD k v kvs)) e hs ⟨storedH xs k a uv,m,hm,kv.keys▸(keysH _).symm▸nd',tk,kv⟩,q⟩
theorem eraseIdx_map {α β:Type}(f:α→β) (l:List α):∀(i:Nat),(l.map f).eraseIdx i=(l.eraseIdx i).map f:=by
 induction l with
 | nil=>exact fun _=>rfl
 | cons x r ih=>exact fun i=>Nat.casesOn i rfl fun i=>congrArg (f x::·) (ih i)
theorem idx_filter {K α:Type} [BEq K] [LawfulBEq K] {k:K}{v:α}{l:List (K×α)}:∀{i:Nat},(l.map (·.1)).Nodup→l[i]?=some (k,v)→l.eraseIdx i=l.filter fun kv=>!(kv.1 == k):=by
 induction l with
 | nil=>exact fun _ e=>nomatch e
 | cons y r ih =>
  intro i hn e
  rw [List.map_cons,List.nodup_cons] at hn
  rw [List.filter_cons]
  induction i using Nat.casesOn with
  | zero =>
   obtain rfl:=Option.some.inj e
   rw [beq_self_eq_true]
   exact (List.filter_eq_self.mpr fun x hx=>by rw [beq_eq_false_iff_ne.mpr fun e:x.1=k=>hn.1 (show k∈_ from e▸List.mem_map_of_mem (f:=(·.1)) hx)]; rfl).symm
  | succ i =>
   rw [beq_eq_false_iff_ne.mpr fun e':y.1=k=>hn.1 (show y.1∈_ from e'.symm▸List.mem_map_of_mem (f:=(·.1)) (List.mem_of_getElem? (l:=r) e))]
   exact congrArg (y::·) (ih hn.2 e)
theorem di_tdict {d:Addr}{kvs:List (TKey×PV)}{k:TKey}{kv:PV}{Q:GHeap→Prop}(e:H d=some (.tdict kvs)) (hk:kv=tkPV k) (hin:(kvs.lookup k).isSome=true) (hz:kvs.length≤1000) (q:Q (H.set d (.tdict (kvs.filter fun kv=>!(kv.1 == k))))):DelOk C n (.ref d) kv H Q:=.rf fun A kp s ui hA S ti=>by
 subst hk
 refine byP fun PG kG=>?_
 obtain ⟨a,rfl,hkey⟩:=tkey_of (C:=C) ti
 obtain ⟨xs,hd,nd,t⟩:=tdict_at S e
 have hl:xs.length=kvs.length:=(List.length_map _).symm.trans t.length
 obtain ⟨o,es,ep,ho,hc,hdat,he,his,hn⟩:=id hd
 refine kG ?_
 unfold delItem
 try with_reducible refine wpAny_holding ?_
 refine wpAny_bind (wpAny_sequenceKey hd.typeIs (by decide) ?_)
 refine wpAny_bind (wpAny_callSpecial?_slot (name:=Str.ofString "__delitem__") hd.typeIs PySem.F.slot_dict_delitem
  (wpAny_call_entry PySem.F.slot_dict_delitem hd.typeIs PySem.F.entry_dict_delitem ?_ (PySem.F.args_dict_delitem_2 _ _)))
 refine wpAny_bind ?_
 refine wpAny_bind (wpAny_notOrdered_dict hd.typeIs ?_)
 refine wpAny_pure ?_
 show wpAny _ _ (Builtin.Dict.takeOut d (.ref a)>>=_) _ _ s
 refine wpAny_bind ?_
 unfold Builtin.Dict.takeOut
 try with_reducible refine wpAny_holding ?_
 have room:(nest C).room A.in1:=hA.nest (C:=C)
 refine wpAny_bind ((nest C).pyHash room hkey (wpAny_bind (wpAny_dictFind_heap (knd:=nest C) (s:={s with toks:=s.toks+(nest C).draws k}) room hkey ho hdat he his hn (fun hno=>?_) fun j p hj=>?_)))
 ·obtain ⟨x,hx⟩:=Option.isSome_iff_exists.mp hin
  obtain ⟨w,hw,_⟩:=t.lookup hx
  rw [←atKey_lookup,atKey_none_of_get hno] at hw
  cases hw
 ·refine wpAny_bind (wpAny_dictEntries (s:={s with toks:=s.toks+(nest C).draws k}) ho hdat ?_)
  have hej:es[j]?=some (entryOfKey (nest C) (k,p)):=by rw [entry_at he,hj]; rfl
  rw [hej]
  refine wpAny_bind (wpAny_updateDictKeys (hz:=by rw [size_of_entries he,hl]; exact line_of hz) (s:={s with toks:=s.toks+(nest C).draws k}) ho hdat (wpAny_pure (wpAny_bind (wpAny_letGo (wpAny_pure ⟨.none,rfl,wpAny_pure ?_⟩)))))
  have hs:Heap.SameBut d s.heap (s.heap.update d (Obj.mapDictKeys (·.eraseIdxIfInBounds j))):=Heap.SameBut.update ..
  have K:=Keep.sameBut hs ho (fz_dict hdat)
  have hg:(s.heap.update d (Obj.mapDictKeys (·.eraseIdxIfInBounds j))).DictOfH (nest C) d (xs.eraseIdx j):=by
   refine ⟨_,_,ep+1,Heap.get?_update_self _ ho (Obj.isFreed_of_dict (Obj.data_mapDictKeys hdat _)),hc.mapDictKeys _,Obj.data_mapDictKeys hdat _,?_,fun x hx=>(his x (List.mem_of_mem_eraseIdx hx)).keep K,?_⟩
   ·rw [←eraseIdx_map,←he]
    simp [Array.eraseIdxIfInBounds,(Array.getElem?_eq_some_iff.mp hej).1]
   ·rw [←eraseIdx_map]; exact hn.eraseIdx j
  have kv:=(t.keep K).filter fun x=>!(x == k)
  rw [←idx_filter (l:=xs.map fun x=>(x.1,x.2.2)) (k:=k) (v:=p.2) ((keysH xs).symm▸hn) (by rw [List.getElem?_map,hj]; rfl),eraseIdx_map] at kv
  clear K
  generalize s.heap.update d (Obj.mapDictKeys (·.eraseIdxIfInBounds j))=h' at hs hg kv
  refine byP fun PG kG=>?_
  obtain ⟨⟨m,hm⟩,tk,nd'⟩:=dictOfH_obj hg
  refine kG ?_
  exact ⟨_,S.put (t:=s.toks+(nest C).draws k) (g':=.tdict (kvs.filter fun kv=>!(kv.1 == k))) e hs ⟨xs.eraseIdx j,m,hm,kv.keys▸(keysH _).symm▸nd',tk,kv⟩,q⟩
end
end
section
theorem entry_barr_getitem:entryFor table "bytearray.__getitem__" = some Builtin.«bytearray.__getitem__»:=entryFor_of_tree (by kernel_rfl)
theorem slot_barr_getitem:Slot "bytearray" "__getitem__" "bytearray.__getitem__" :=
 .of (owner := "bytearray") (n := "__getitem__") (by rw [typeLookup_type,builtinLookup_eq_fast]; kernel_rfl) (by decide +kernel) (by decide +kernel) (by decide +kernel)
  (by first | exact .inl (by decide +kernel) | exact .inr (by decide +kernel)) (by rw [isSubtype_type]; kernel_rfl)
theorem args_barr_getitem (a b:Value):argsOk "bytearray.__getitem__" ⟨[a,b],[]⟩:=by unfold argsOk; kernel_rfl
theorem entry_barr_len:entryFor table "bytearray.__len__" = some Builtin.«bytearray.__len__»:=entryFor_of_tree (by kernel_rfl)
theorem slot_barr_len:Slot "bytearray" "__len__" "bytearray.__len__" :=
 .of (owner := "bytearray") (n := "__len__") (by rw [typeLookup_type,builtinLookup_eq_fast]; kernel_rfl) (by decide +kernel) (by decide +kernel) (by decide +kernel)
  (by first | exact .inl (by decide +kernel) | exact .inr (by decide +kernel)) (by rw [isSubtype_type]; kernel_rfl)
theorem args_barr_len (a:Value):argsOk "bytearray.__len__" ⟨[a],[]⟩:=by unfold argsOk; kernel_rfl
section
variable {C:Cfg}{n:Nat}{sc:Scope}{fr:Vars}{H:GHeap}{Q:PV→GHeap→Prop}{A:Around}{kp:Kp}{env:Env}{s:Shared}
theorem Part.isPart {v:Value}{k:Option Int}(p:Part v k):IsPart v k:=by cases p<;>constructor
structure PartOk (C:Cfg) (n:Nat) (sc:Scope) (e:Option Expr) (fr:Vars) (H:GHeap) (Q:Option Int→GHeap→Prop):Prop where
 run:∀A kp env s,Rm n A→St C kp H s→FrOk sc env kp H fr s.heap→wpAny (model C.prog C.w) A (valueOrNone (evalOpt e env)) (fun v s'=>∃k H',St C kp H' s'∧FrOk sc env kp H' fr s'.heap∧Part v k∧Q k H') noE s
theorem part_none {Q:Option Int→GHeap→Prop}(q:Q none H):PartOk C n sc none fr H Q:=⟨fun A kp env s hA S F=>by
 exact wpAny_pure ⟨none,H,S,F,.none,q⟩⟩
theorem PartOk.next {e:Option Expr}{Q:Option Int→GHeap→Prop}(h:PartOk C n sc e fr H Q) (hA:Rm n A) (S:St C kp H s) (F:FrOk sc env kp H fr s.heap) {R:Value→Shared→Prop}
  (k:∀v s' x H',St C kp H' s'→FrOk sc env kp H' fr s'.heap→Part v x→Q x H'→R v s'):wpAny (model C.prog C.w) A (valueOrNone (evalOpt e env)) R noE s :=
 wpAny_mono (h.run A kp env s hA S F) (fun v s' b=>b.elim fun x b=>b.elim fun H' b=>k v s' x H' b.1 b.2.1 b.2.2.1 b.2.2.2) fun _ _ x=>x
theorem part_some {e:Expr}{Q:Option Int→GHeap→Prop}(h:EvOk C n sc e fr H fun v H1=>∃i,v=.int i∧Q (some i) H1):PartOk C n sc (some e) fr H Q:=⟨fun A kp env s hA S F=>by
 exact h.next hA S F fun v s' x H' S' F' t q=>by
  obtain ⟨i,rfl,q⟩:=q
  obtain ⟨_,rfl⟩:=t.inv
  exact ⟨some i,H',S',F',.int _ _,q⟩⟩
theorem ev_slice {lo hi:Option Expr}{pos:Pos}(h:PartOk C n sc lo fr H fun l H1=>PartOk C n sc hi fr H1 fun u H2=>Q (.slc l u) H2):EvOk C n sc (.Slice lo hi none pos) fr H Q:=⟨fun A kp env s hA S F=>by
 refine wpAny_bind (h.next hA S F fun vl s1 l H1 S1 F1 p1 q1=>wpAny_bind (wpAny_holding (q1.next hA S1 F1 fun vu s2 u H2 S2 F2 p2 q2=>wpAny_bind (wpAny_holding ?_))))
 exact wpAny_pure (wpAny_newObj_type ⟨_,H2,S2.grow (t:=s2.toks) (push_old _),F2.grow (push_old _),.slc (Heap.get?_push_size _ rfl) p1 p2,q2⟩)⟩
noncomputable def cutTo (i:Int) (n:Nat):Nat:=(max 0 (min (if i<0 then i+n else i) n)).toNat
theorem slicePick_to (items:Array Value) (i:Int):slicePick items none (some i) none=(items.toList.take (cutTo i items.size)).toArray:=by
 unfold slicePick
 have e:sliceBounds none (some i) none items.size=(((0:Nat):Int),((cutTo i items.size:Nat):Int),1):=by
  simp only [sliceBounds,Option.getD_none,show (1:Int)>0 by decide,if_true]
  unfold cutTo
  rw [Int.toNat_of_nonneg (Int.le_max_left ..)]
  rfl
 rw [e]
 simp -iota only [sliceRange_one,pick_run]
 simp
theorem gi_list_to {a:Addr}{xs:List PV}{i:Int}(l:LsAt C H a xs) (hz:xs.length≤1000) (q:∀b,H b=none→Q (.ref b) (H.set b (.list (xs.take (cutTo i xs.length))))):Op2Ok C n getItem (.ref a) (.slc none (some i)) H Q:=.rf fun A kp s v hA S t2=>by
 refine byP fun PG kG=>?_
 obtain ⟨sl,vl,vu,rfl,e,p1,p2⟩:=t2.inv
 obtain ⟨vs,hL,t⟩:=l.isList S
 refine kG ?_
 refine wpAny_getItem_list_slice hL ⟨_,e,rfl,rfl⟩ p1.isPart p2.isPart .none (fun e=>nomatch e) ?_ (t.fits hz)
 rw [slicePick_to]
 show BackV C kp Q _ {s with heap:=s.heap.push {cls:=.type "list",data:=.seq (vs.take (cutTo i vs.length)).toArray}}
 rw [t.length]
 exact BackV.of (S.new (t:=s.toks) (Nat.le_refl _) (push_old _) (g':=.list (xs.take (cutTo i xs.length))) ⟨vs.take (cutTo i xs.length),0,Heap.get?_push_size _ rfl,(t.take _).keep (Keep.of_all (push_old _))⟩) (.ref _) (q _ (S.fresh (Nat.le_refl _)).1)
theorem bytes_subscript_int {i:Int}{t:Tok}{Q:Option Int→Shared→Prop}{E:Value→Shared→Prop}(h1:-(2^63)≤i) (h2:i<2^63) (q:Q (some i) s):wpAny (model C.prog C.w) A (Builtin.Bytes.subscript? (.int i t)) Q E s:=by
 refine wpAny_bind (wpAny_specialOf (T := "int") (typeIs_int s i t) int_index ?_)
 simp -iota only [Option.isNone_some,Bool.false_eq_true,if_false]
 refine wpAny_bind (wpAny_of_eq (a:=i) rfl ?_)
 have hf:Builtin.Bytes.fitsIndex i=true:=by
  show (decide (-(2^63)≤i)&&decide (i<2^63))=true
  rw [Bool.and_eq_true,decide_eq_true_eq,decide_eq_true_eq]; exact ⟨h1,h2⟩
 rw [hf]
 simp only [Bool.not_true,Bool.false_eq_true,if_false]
 exact wpAny_pure q
theorem barr_payload {a:Addr}{b:Array UInt8}{Q:Array UInt8→Shared→Prop}{E:Value→Shared→Prop}(hb:IsBarr s.heap a b) (q:Q b s):wpAny (model C.prog C.w) A (Builtin.Bytes.payload (.ref a)) Q E s:=by
 refine wpAny_bind ?_
 refine wpAny_bind (wpAny_load hb ?_)
 exact wpAny_pure (wpAny_pure q)
theorem barr_item {a:Addr}{b:Array UInt8}{i:Value}{Q:Value→Shared→Prop}(hb:IsBarr s.heap a b)
  (h:wpAny (model C.prog C.w) A.in1 (Builtin.«bytearray.__getitem__» ⟨[.ref a,i],[]⟩) (fun r s'=>∃v,r=.done (.ret v)∧Q v s') noE s):wpAny (model C.prog C.w) A (getItem (.ref a) i) Q noE s:=by
 have hT:s.TypeIs (.ref a) "bytearray" := ⟨_,hb,rfl⟩
 unfold getItem
 with_reducible refine wpAny_holding ?_
 refine wpAny_bind (wpAny_sequenceKey hT (by decide) ?_)
 exact wpAny_bind (wpAny_callSpecial?_slot (name:=Str.ofString "__getitem__") hT slot_barr_getitem
  (wpAny_call_entry slot_barr_getitem hT entry_barr_getitem (wpAny_mono h (fun r s' ⟨v,e,q⟩=>⟨v,e,wpAny_pure q⟩) fun _ _ x=>x) (args_barr_getitem _ _)))
theorem gi_barr {a:Addr}{b:Array UInt8}{i:Int}{j:Nat}{x:UInt8}(e:H a=some (.barr b)) (h1:-(2^63)≤i) (h2:i<2^63) (hj:seqIndex? i b.size=some j) (hx:b[j]?=some x) (q:Q (.int x.toNat) H):Op2Ok C n getItem (.ref a) (.int i) H Q:=.rf fun A kp s v hA S t2=>by
 obtain ⟨_,rfl⟩:=t2.inv
 refine barr_item (S.own _ _ e) ?_
 show wpAny _ _ (Builtin.Bytes.subscript? (.int i _)>>=_) _ _ _
 refine wpAny_bind (bytes_subscript_int h1 h2 ?_)
 refine wpAny_bind (barr_payload (S.own _ _ e) ?_)
 rw [hj,show (some j).bind (fun x=>b[x]?)=some x from hx]
 exact wpAny_bind (wpAny_mkInt (wpAny_pure ⟨_,rfl,BackV.of (S.toks _) (.int _ _) q⟩))
theorem bytes_part {v:Value}{k:Option Int}{Q:Value→Shared→Prop}{E:Value→Shared→Prop}(hv:Part v k) (h:Q (rawPart k) s):wpAny (model C.prog C.w) A (do
  if v == .none then return .none
  if (←specialOf v "__index__").isNone then
   rule "bytes.slice.part-no-index"; raiseError "TypeError" "slice indices must be integers or None or have an __index__ method"
  return rawInt (←asIndex v)) Q E s:=by
 cases hv with
 | none=>exact wpAny_pure h
 | int i t =>
  rw [if_neg (show ¬((Value.int i t == Value.none)=true) from Bool.false_ne_true)]
  refine wpAny_bind (wpAny_specialOf (T := "int") (typeIs_int s i t) int_index ?_)
  simp -iota only [Option.isNone_some,Bool.false_eq_true,if_false]
  exact wpAny_bind (wpAny_of_eq (a:=i) rfl (wpAny_pure h))
theorem bounds_nat {lo hi n:Nat}(hab:lo≤hi) (hb:hi≤n):sliceBounds (some (lo:Int)) (some (hi:Int)) none n=((lo:Int),(hi:Int),1):=by
 have h1:¬((lo:Int)<0):=Int.not_lt.mpr (Int.natCast_nonneg lo)
 have h2:¬((hi:Int)<0):=Int.not_lt.mpr (Int.natCast_nonneg hi)
 simp only [sliceBounds,Option.getD_none,h1,h2,if_false,show (1:Int)>0 by decide,if_true]
 simp -iota only [Int.min_eq_left (Int.ofNat_le.mpr (Nat.le_trans hab hb)),Int.min_eq_left (Int.ofNat_le.mpr hb),Int.max_eq_right (Int.natCast_nonneg lo),Int.max_eq_right (Int.natCast_nonneg hi)]
theorem gi_barr_slice {a:Addr}{b:Array UInt8}{lo hi:Nat}(e:H a=some (.barr b)) (hab:lo≤hi) (hb:hi≤b.size) (hz:b.size≤1000) (q:∀c,H c=none→Q (.ref c) (H.set c (.barr ((b.toList.drop lo).take (hi-lo)).toArray))) :
  Op2Ok C n getItem (.ref a) (.slc (some lo) (some hi)) H Q:=.rf fun A kp s v hA S t2=>by
 refine byP fun PG kG=>?_
 obtain ⟨sl,vl,vu,rfl,es,p1,p2⟩:=t2.inv
 refine kG ?_
 have hTs:s.TypeIs (.ref sl) "slice" := ⟨_,es,rfl⟩
 refine barr_item (S.own _ _ e) ?_
 show wpAny _ _ (Builtin.Bytes.subscript? (.ref sl)>>=_) _ _ _
 refine wpAny_bind ?_
 refine wpAny_bind (wpAny_specialOf hTs slice_no_index (wpAny_pure ?_))
 refine wpAny_bind (wpAny_typeOf hTs ?_)
 rw [if_neg (by decide)]
 refine wpAny_bind ?_
 refine wpAny_bind (wpAny_field es rfl (x:=.none) rfl (wpAny_bind (wpAny_pure ?_)))
 rw [if_neg (by decide)]
 refine wpAny_bind (wpAny_field es rfl (x:=vl) rfl (wpAny_bind (bytes_part p1 ?_)))
 refine wpAny_bind (wpAny_field es rfl (x:=vu) rfl (wpAny_bind (bytes_part p2 (wpAny_pure (wpAny_bind (barr_payload (S.own _ _ e) ?_))))))
 refine wpAny_bind (wpAny_of_eq (sliceIndices_raw (some (lo:Int)) (some (hi:Int)) none b.size (fun e=>nomatch e)) ?_)
 rw [bounds_nat hab hb]
 dsimp only
 unfold Builtin.Bytes.sliced
 rw [sliceRange_one,pick_run]
 exact wpAny_bind (wpAny_newObj_type (wpAny_pure ⟨_,rfl,BackV.of (S.new (t:=s.toks) (Nat.le_refl _) (push_old _) (g':=.barr ((b.toList.drop lo).take (hi-lo)).toArray) (Heap.get?_push_size _ rfl)) (.ref _) (q _ (S.fresh (Nat.le_refl _)).1)⟩)
  (show ((b.toList.drop lo).take (hi-lo)).length≤sizeLine from line_of (Nat.le_trans (List.length_take_le' _ _) (Nat.le_trans (Nat.le_of_eq (List.length_drop ..)) (Nat.le_trans (Nat.sub_le _ _) hz)))))
theorem op_add_list {a b:Addr}{xs ys:List PV}(ea:H a=some (.list xs)) (eb:H b=some (.list ys)) (hz:xs.length+ys.length≤1000) (q:∀c,H c=none→Q (.ref c) (H.set c (.list (xs++ys)))):Op2Ok C n (binaryOp .Add) (.ref a) (.ref b) H Q:=.rf fun A kp s v hA S t2=>by
 refine byP fun PG kG=>?_
 obtain rfl:=t2.inv
 obtain ⟨vs,m,ho,t⟩:=S.own _ _ ea
 obtain ⟨ws,k,ho2,t2⟩:=S.own _ _ eb
 refine kG ?_
 refine P.add_list (n:=m) (n2:=k) ho ho2 ?_ (line_of (show vs.length+ws.length≤1000 from t.length▸t2.length▸hz))
 rw [List.append_toArray]
 exact BackV.of (S.new (t:=s.toks) (Nat.le_refl _) (push_old _) (g':=.list (xs++ys)) ⟨vs++ws,0,Heap.get?_push_size _ rfl,(t.append t2).keep (Keep.of_all (push_old _))⟩) (.ref _) (q _ (S.fresh (Nat.le_refl _)).1)
theorem op_add_tup {xs ys:List PV}(h1:xs≠[]) (h2:ys≠[]) (hz:xs.length+ys.length≤1000) (q:Q (.tup (xs++ys)) H):Op2Ok C n (binaryOp .Add) (.tup xs) (.tup ys) H Q:=⟨fun A kp s u v hA S t1 t2=>by
 refine byP fun PG kG=>?_
 obtain ⟨a,vs,rfl,e,l⟩:=t1.inv
 obtain ⟨b,ws,rfl,e2,l2⟩:=t2.inv
 refine kG ?_
 have ne:∀{vs:List Value}{xs:List PV},TellsL s.heap vs xs→xs≠[]→¬vs.toArray.isEmpty=true:=fun l h z=>h (List.eq_nil_of_length_eq_zero (l.length.symm.trans (of_decide_eq_true z)))
 refine P.add_tuple (n:=0) (n2:=0) e e2 (ne l h1) (ne l2 h2) ?_ (line_of (show vs.length+ws.length≤1000 from l.length▸l2.length▸hz))
 rw [List.append_toArray]
 exact BackV.of (S.grow (t:=s.toks) (push_old _)) (.tup (Heap.get?_push_size _ rfl) ((l.append l2).keep (Keep.of_all (push_old _)))) q⟩
theorem st_del {o i:Expr}{p pos:Pos}{Q:Fl→Vars→GHeap→Prop}(h:EvOk C n sc o fr H fun ov H1=>EvOk C n sc i fr H1 fun iv H2=>DelOk C n ov iv H2 fun H3=>Q .next fr H3):SOk C n sc (.Delete [.Subscript o i p] pos) fr H Q:=⟨fun A kp env s hA S F=>by
 refine wpAny_Delete (wpAny_deleteEach_cons ?_)
 rw [arm_delete_Subscript]
 exact wpAny_bind (h.next hA S F fun ou s1 ov H1 S1 F1 t1 q1=>wpAny_bind (wpAny_holding (q1.nextK hA S1 F1 fun iu s2 iv H2 K2 S2 F2 t2 q2 =>
  wpAny_bind (wpAny_standAt (wpAny_bind (wpAny_holding (wpAny_mono (set_frame F2 S2 fun kp' S' _=>q2.run A kp' s2 ou iu hA S' (t1.keep K2) t2) (fun _ s3 z=>z.elim fun H3 z=>wpAny_release (wpAny_deleteEach_nil (.of z.1 z.2.1 .next z.2.2))) fun _ _ x=>x)))))))⟩
end
end
section
noncomputable def heldF (self:Value):{f:Code×Pos→Bool // Builtin.Bytes.exported self=stack>>=fun l=>pure (l.any f)}:=⟨_,rfl⟩
noncomputable def calmCode (c:Code):Prop:=∀v p,(heldF v).1 (c,p)=false
noncomputable def CalmB (Γ:PySem.Ctx):Prop:=∀x∈Γ.below,calmCode x.1
noncomputable def Calm (Γ:PySem.Ctx):Prop:=calmCode Γ.code∧CalmB Γ
noncomputable def wpN {α:Type}(M:Model) (A:Around) (t:Sem α) (Q:α→Shared→Prop) (s:Shared):Prop :=
 ∀Γ p,Γ.In A→Calm Γ→Sem.wp M Γ t (fun a _ s'=>Q a s') (fun _ _ _=>False) p s
noncomputable def codeN (M:Model) (A:Around) (c:Code) (R:Result→Shared→Prop) (s:Shared):Prop :=
 ∀Γ p,Γ.code=c→Γ.Below A→CalmB Γ→wpCode M Γ R p s
section
variable {α β:Type}{M:Model}{A:Around}{s:Shared}
theorem wpN_of_any {t:Sem α}{Q:α→Shared→Prop}(h:wpAny M A t Q noE s):wpN M A t Q s:=fun Γ p hΓ _=>h Γ p hΓ
theorem codeN_of_any {c:Code}{R:Result→Shared→Prop}(h:codeAny M A c R s):codeN M A c R s:=fun Γ p hc hΓ _=>h Γ p hc hΓ
theorem wpN_mono {t:Sem α}{Q Q':α→Shared→Prop}(h:wpN M A t Q s) (hQ:∀a s,Q a s→Q' a s):wpN M A t Q' s:=fun Γ p hΓ hc =>
 Sem.wp_mono M Γ t (fun a _ s=>hQ a s) (fun _ _ _ x=>x) p s (h Γ p hΓ hc)
theorem codeN_mono {c:Code}{R R':Result→Shared→Prop}(h:codeN M A c R s) (hR:∀r s,R r s→R' r s):codeN M A c R' s:=fun Γ p hc hΓ hb=>wpCode_mono hR (h Γ p hc hΓ hb)
theorem wpN_bind {m:Sem α}{f:α→Sem β}{Q:β→Shared→Prop}(h:wpN M A m (fun a s'=>wpN M A (f a) Q s') s):wpN M A (m>>=f) Q s:=fun Γ p hΓ hc=>by
 rw [Sem.wp_bind']
 exact Sem.wp_mono M Γ m (fun a p' s' h'=>h' Γ p' hΓ hc) (fun _ _ _ x=>x) p s (h Γ p hΓ hc)
theorem wpN_bindA {m:Sem α}{f:α→Sem β}{Q:β→Shared→Prop}(h:wpAny M A m (fun a s'=>wpN M A (f a) Q s') noE s):wpN M A (m>>=f) Q s:=wpN_bind (wpN_of_any h)
theorem wpN_pure {a:α}{Q:α→Shared→Prop}(h:Q a s):wpN M A (pure a) Q s:=fun _ _ _ _=>h
theorem wpN_holding {vs:List Value}{m:Sem α}{Q:α→Shared→Prop}(h:wpN M A m Q s):wpN M A (holding vs m) Q s:=fun Γ p hΓ hc=>by rw [Sem.wp_holding]; exact h Γ p hΓ hc
theorem wpN_standAt {pos:Pos}{f:Unit→Sem β}{Q:β→Shared→Prop}(h:wpN M A (f ()) Q s):wpN M A (standAt pos>>=f) Q s:=wpN_bindA (wpAny_standAt h)
theorem wpN_onRaise {m:Sem α}{k:Value→Sem Unit}{Q:α→Shared→Prop}(h:wpN M A m Q s):wpN M A (m.onRaise k) Q s:=fun Γ p hΓ hc=>by
 rw [Sem.wp_onRaise]
 exact Sem.wp_mono M Γ m (fun _ _ _ x=>x) (fun _ _ _ x=>x.elim) p s (h Γ p hΓ hc)
theorem calm_enter {Γ:PySem.Ctx}(hc:Calm Γ) (c:Code) (hd:Option Value) (p:Pos):CalmB (Γ.enter c hd p):=fun x hx=>by
 exact (List.mem_cons.mp (show x∈(Γ.code,p)::Γ.below from hx)).elim (fun e=>e▸hc.1) (hc.2 x)
theorem wpN_run {c:Code}{Q:Flow→Shared→Prop}(h:codeN M A c (fun r s'=>∃f,r=.ok f∧Q f s') s):wpN M A (run c) Q s:=fun Γ p hΓ hc=>by
 rw [Sem.wp_run]
 exact wpCode_mono (fun r s' z=>z.elim fun f z=>z.1.symm▸z.2) (h (Γ.enter c none p) p rfl (hΓ.enter c none p (fun x=>nomatch x)) (calm_enter hc _ _ _))
theorem wpN_call {f:Value}{pos:List Value}{Q:Value→Shared→Prop}(h:codeN M A (.call f ⟨pos,[]⟩) (fun r s'=>∃v,r=.ok (.ret v)∧Q v s') s):wpN M A (PySem.call f pos) Q s:=fun Γ p hΓ hc=>by
 show Sem.wp M Γ (runValue (.call f ⟨pos,[]⟩)) _ _ p s
 rw [Sem.wp_runValue]
 exact wpCode_mono (fun r s' z=>z.elim fun f z=>z.1.symm▸z.2) (h (Γ.enter (.call f ⟨pos,[]⟩) none p) p rfl (hΓ.enter _ none p (fun x=>nomatch x)) (calm_enter hc _ _ _))
theorem codeN_of_tree {c:Code}{R:Result→Shared→Prop}(hcalm:calmCode c)
  (h:wpN M (A.under c) (M.den c) (fun fin s'=>match fin with | .done f=>R (.ok f) s' | .again c'=>c'.quiet=true∧codeN M A c' R s') s):codeN M A c R s:=fun Γ p hc hΓ hb=>by
 rw [wpCode_iff_wp,hc]
 refine Sem.wp_mono M Γ _ (fun fin p' s' h'=>?_) (fun _ _ _ h'=>h'.elim) p s (h Γ p (hc▸hΓ.in) ⟨by rw [hc]; exact hcalm,hb⟩)
 induction fin using PySem.Fin.casesOn with
 | done f=>exact h'
 | again c'=>exact ⟨h'.1,h'.2 (Γ.goto c') p' rfl (hΓ.goto c') hb⟩
theorem wpN_runOwn {c:Code}{env:Env}{Q:Flow→Shared→Prop}(h:codeN M A c (fun r s'=>∃f,r=.ok f∧Q f s') s):wpN M A (runOwn c env) Q s:=by
 exact wpN_onRaise (wpN_run h)
theorem calm_caller:Calm ⟨.builtin "claim.caller" {},none,none,[],none⟩:=⟨fun v p=>rfl,fun x hx=>nomatch hx⟩
end
section
variable {C:Cfg}{n:Nat}{sc:Scope}{fr:Vars}{H:GHeap}{Q:PV→GHeap→Prop}{A:Around}{kp:Kp}{env:Env}{s:Shared}
structure EvN (C:Cfg) (n:Nat) (sc:Scope) (e:Expr) (fr:Vars) (H:GHeap) (Q:PV→GHeap→Prop):Prop where
 run:∀A kp env s,Rm n A→St C kp H s→FrOk sc env kp H fr s.heap→wpN (model C.prog C.w) A (eval e env) (Back C sc kp env fr Q) s
structure EvsN (C:Cfg) (n:Nat) (sc:Scope) (es:List Expr) (fr:Vars) (H:GHeap) (Q:List PV→GHeap→Prop):Prop where
 run:∀pos A kp env s,Rm n A→St C kp H s→FrOk sc env kp H fr s.heap→wpN (model C.prog C.w) A (spliced (backTo pos (starEach es env))) (BackL C sc kp env fr Q) s
structure TsN (C:Cfg) (n:Nat) (sc:Scope) (e:Expr) (fr:Vars) (H:GHeap) (Q:Bool→GHeap→Prop):Prop where
 run:∀A kp env s,Rm n A→St C kp H s→FrOk sc env kp H fr s.heap→wpN (model C.prog C.w) A (isTrue e env (eval e env)) (BackB C sc kp env fr Q) s
structure CallN (C:Cfg) (n:Nat) (f:PV) (args:List PV) (H:GHeap) (Q:PV→GHeap→Prop):Prop where
 run:∀A kp s v vs,Rm n A→St C kp H s→Tells s.heap v f→TellsL s.heap vs args→wpN (model C.prog C.w) A (PySem.call v vs) (BackV C kp Q) s
structure CodeN (C:Cfg) (n:Nat) (f:PV) (args:List PV) (H:GHeap) (Q:PV→GHeap→Prop):Prop where
 run:∀A kp s v vs,Rm n A→St C kp H s→Tells s.heap v f→TellsL s.heap vs args →
  codeN (model C.prog C.w) A (.call v ⟨vs,[]⟩) (fun r s'=>∃u,r=.ok (.ret u)∧BackV C kp Q u s') s
structure SN (C:Cfg) (n:Nat) (sc:Scope) (st:Stmt) (fr:Vars) (H:GHeap) (Q:Fl→Vars→GHeap→Prop):Prop where
 run:∀A kp env s,Rm n A→St C kp H s→FrOk sc env kp H fr s.heap→wpN (model C.prog C.w) A (exec st env) (BackF C sc kp env Q) s
structure ExN (C:Cfg) (n:Nat) (sc:Scope) (ss:List Stmt) (fr:Vars) (H:GHeap) (Q:Fl→Vars→GHeap→Prop):Prop where
 run:∀A kp env s,Rm n A→St C kp H s→FrOk sc env kp H fr s.heap→wpN (model C.prog C.w) A (execs ss env) (BackF C sc kp env Q) s
theorem EvOk.calm {e:Expr}(h:EvOk C n sc e fr H Q):EvN C n sc e fr H Q:=⟨fun A kp env s hA S F=>wpN_of_any (h.run A kp env s hA S F)⟩
theorem CallOk.calm {f:PV}{args:List PV}(h:CallOk C n f args H Q):CallN C n f args H Q:=⟨fun A kp s v vs hA S a b=>wpN_of_any (h.run A kp s v vs hA S a b)⟩
theorem SOk.calm {st:Stmt}{Q:Fl→Vars→GHeap→Prop}(h:SOk C n sc st fr H Q):SN C n sc st fr H Q:=⟨fun A kp env s hA S F=>wpN_of_any (h.run A kp env s hA S F)⟩
theorem ExOk.calm {ss:List Stmt}{Q:Fl→Vars→GHeap→Prop}(h:ExOk C n sc ss fr H Q):ExN C n sc ss fr H Q:=⟨fun A kp env s hA S F=>wpN_of_any (h.run A kp env s hA S F)⟩
theorem CodeN.call {f:PV}{args:List PV}(h:CodeN C n f args H Q):CallN C n f args H Q:=⟨fun A kp s v vs hA S a b=>wpN_call (h.run A kp s v vs hA S a b)⟩
theorem CallN.le {m:Nat}{f:PV}{args:List PV}(h:CallN C m f args H Q) (hm:m≤n):CallN C n f args H Q:=⟨fun A kp s v vs hA=>h.run A kp s v vs (hA.le hm)⟩
theorem CodeN.le {m:Nat}{f:PV}{args:List PV}(h:CodeN C m f args H Q) (hm:m≤n):CodeN C n f args H Q:=⟨fun A kp s v vs hA=>h.run A kp s v vs (hA.le hm)⟩
theorem keepingN {α:Type}{t:Sem α}{P:Kp→α→Shared→Prop}(S:St C kp H s) (F:FrOk sc env kp H fr s.heap)
  (h:∀kp',St C kp' H s→FrOk sc env kp' H fr s.heap→wpN (model C.prog C.w) A t (P kp') s)
  {R:α→Shared→Prop}(hR:∀kp' a s',(∀b o,kp b=some o→kp' b=some o)→(∀b o,C.base.get? b=some o→kp b=some o)→(∀h',(∀b o,kp' b=some o→h'.get? b=some o)→Keep s.heap h')→P kp' a s'→R a s') :
  wpN (model C.prog C.w) A t R s :=
 wpN_mono (h _ (S.moreK _ fun _ q=>by cases q) (moreK_noFrame S F)) fun a s' p=>hR _ a s' (moreK_sub S) S.base (fun _ k=>moreK_keep k) p
theorem EvsN.nextK {es:List Expr}{pos:Pos}{Q:List PV→GHeap→Prop}(h:EvsN C n sc es fr H Q) (hA:Rm n A) (S:St C kp H s) (F:FrOk sc env kp H fr s.heap) {R:List Value→Shared→Prop}
  (k:∀v s' x H',Keep s.heap s'.heap→St C kp H' s'→FrOk sc env kp H' fr s'.heap→TellsL s'.heap v x→Q x H'→R v s'):wpN (model C.prog C.w) A (spliced (backTo pos (starEach es env))) R s :=
 keepingN S F (P:=fun kp'=>BackL C sc kp' env fr Q) (fun kp' S' F'=>h.run pos A kp' env s hA S' F') fun kp' v s' hk hb K b=>b.casesOn fun x H' S' F' t q=>k v s' x H' (K _ S'.kept) (S'.lessK hk hb) (F'.lessK hk) t q
theorem EvN.next {e:Expr}(h:EvN C n sc e fr H Q) (hA:Rm n A) (S:St C kp H s) (F:FrOk sc env kp H fr s.heap) {R:Value→Shared→Prop}
  (k:∀v s' x H',St C kp H' s'→FrOk sc env kp H' fr s'.heap→Tells s'.heap v x→Q x H'→R v s'):wpN (model C.prog C.w) A (eval e env) R s :=
 wpN_mono (h.run A kp env s hA S F) fun v s' b=>b.casesOn (k v s')
theorem opN_frame {t:Sem Value}(F:FrOk sc env kp H fr s.heap) (S:St C kp H s)
  (h:∀kp',St C kp' H s→wpN (model C.prog C.w) A t (BackV C kp' Q) s):wpN (model C.prog C.w) A t (Back C sc kp env fr Q) s:=by
 classical
 have S1:=S.moreK (fun a=>decide (onFrame env a)) fun a q=>F.free (of_decide_eq_true q)
 exact wpN_mono (h _ S1) fun v s' b=>b.casesOn fun y H' S' t' q=>⟨y,H',S'.lessK (moreK_sub S) S.base,F.change (fun b o onf e=>S'.kept b o (moreK_at e (decide_eq_true onf))) (moreK_keep S'.kept) fun b onf =>
  (F.there onf).elim fun o ho=>S'.notHeld (moreK_at ho (decide_eq_true onf)),t',q⟩
theorem evsN_cons {e:Expr}{rest:List Expr}{Q:List PV→GHeap→Prop}(h:EvN C n sc e fr H fun x H1=>EvsOk C n sc rest fr H1 fun xs H2=>Q (x::xs) H2) (he:notStar e=true) :
  EvsN C n sc (e::rest) fr H Q:=⟨fun pos A kp env s hA S F=>by
 rw [starEach_cons he]
 show wpN _ _ (spliced ((false,eval e env)::backTo pos (starEach rest env))) _ _
 rw [spliced]
 exact wpN_bind (h.next hA S F fun u s1 a H1 S1 F1 t1 q1=>wpN_of_any (wpAny_bind (wpAny_pure (wpAny_bind (wpAny_holding (q1.nextK hA S1 F1 fun vs s2 xs H2 K S2 F2 t2 q2=>wpAny_pure ⟨a::xs,H2,S2,F2,.cons (t1.keep K) t2,q2⟩))))))⟩
end
end
theorem ends_calm {prog:Program}{w:World}{t:Sem Fin}{s:Shared}{R:Result→Shared→Prop}(hz:s.asleep)
  (h:wpN (model prog w) callerA t (fun fin s'=>∃f,fin=.done f∧R (.ok f) s'∧AllBare s'.gens) s) :
  ∀P:Prop,(∀n r s' s'',runN (denote table) prog w n s ⟨t,.builtin "claim.caller" {},default,[]⟩=.halted (outcomeOf r) s'' →
   schedN (denote table) prog w n (.single s ⟨t,.builtin "claim.caller" {},default,[]⟩)=.halted (outcomeOf r) s''→s''.forget=s'.forget→R r s'→P)→P:=by
 have run:Sem.wp (model prog w) ⟨.builtin "claim.caller" {},none,none,[],none⟩ t
   (Sem.finPost (model prog w) ⟨.builtin "claim.caller" {},none,none,[],none⟩ fun r s'=>R r s'∧leftWithCleanup s'.gens=false) (fun e _ s'=>R (.error e) s'∧leftWithCleanup s'.gens=false) default s:=by
  refine Sem.wp_mono _ _ _ (fun fin p s' x=>?_) (fun _ _ _ x=>x.elim) _ _ (h _ _ caller_in calm_caller)
  obtain ⟨f,rfl,hr,hb⟩:=x
  exact ⟨hr,leftWithCleanup_false_of_bare hb⟩
 intro P k
 obtain ⟨n,r,s',s'',a,b,c,d⟩:=wp_halts_full (M:=model prog w) hz run
 exact k n r s' s'' b a c d
theorem callFrom_calm {c:ClaimW}{tree:List Value→Sem Fin}{w:World}{s:Shared}{free:Addr→Prop}{gens:Prop}{kept:Heap→Prop}(hz:s.asleep) (hgens:s.gens=#[])
  (spec:∀args,c.pre args=true→WData.layableAll args=true→∀ord:List DictEntry→List DictEntry,(∀l,(ord l).Perm l) →
   ∃vs s₁,layAllW c.records (classAt s.heap) w.params ord args s=some (vs,s₁) ∧
    wpN (model c.prog w) callerA (tree vs) (fun fin s'=>∃f,fin=.done f∧(c.Ends s args vs s₁ (.ok f) s'∧s'.os=s.os∧kept s'.heap)∧AllBare s'.gens) s₁) :
  c.CallFrom (fun vs=>⟨tree vs,.builtin "claim.caller" {},default,[]⟩) w free gens kept s:=fun args hpre hlay ord hord=>by
 refine byP fun P k=>?_
 obtain ⟨vs,s₁,laid,code⟩:=spec args hpre hlay ord hord
 have rest:=layAllW_rest _ _ _ laid
 refine ends_calm (R:=fun r s'=>c.Ends s args vs s₁ r s'∧s'.os=s.os∧kept s'.heap) (Shared.asleep_of_life rest.2.2.2 hz) code P fun n r s' s'' hrun hsch hfo z=>?_
 have f:=Shared.forget_eq hfo
 have hends':=z.1.congr f.1
 refine k ⟨vs,s₁,laid,n,_,s'',hsch,?_,fun _ i x hx=>?_,f.1▸z.2.2,congrArg Life.seen ((runN_life _ _ _ hrun).trans rest.2.2.2),Shared.rest_eq (f.2.2.2.1.trans z.2.1)⟩
 ·exact hends'.imp (fun y=>y.imp fun v y=>⟨congrArg outcomeOf y.1,y.2.1,y.2.2.1,y.2.2.2.1,fun b o e _=>y.2.2.2.2.1 b o e,y.2.2.2.2.2⟩) fun y=>y.imp fun e y=>y.imp fun ob y=>y.imp fun cls y=>⟨congrArg outcomeOf y.1,y.2.1,y.2.2.1,y.2.2.2.1,y.2.2.2.2.1,fun b o e _=>y.2.2.2.2.2 b o e⟩
 ·rw [hgens] at hx; simp at hx
noncomputable abbrev CalmWalk (q:Program) (loose:List Str) (XP:(Str→Option Value)→Heap→Prop) (YP:World→Heap→Prop) (r:RowW) (d:DefRec) (kwd:List (Str×Expr)):Prop :=
 ∀(w:World) (s₀ s₁:Shared) (mg mb:Str→Option Value),Ground q loose r.records XP w s₀ mg mb s₁.heap→YP w s₁.heap→∀(a:Addr) (o:Obj) (pm cd doc dV kV:Value),s₁.heap.get? a=some o →
  o.data=.func {docDef d.name d.params d.body d.scope pm cd doc with defaults:=dV,kwdefaults:=kV}→s₁.heap.CodeRec cd d.name→Dflts mg s₁.heap d.params kwd dV kV→mg d.name=some (.ref a)→s₁.gens=#[] →
  ∀(args:List WData) (vals:List Value) (as:List Addr),r.claim.pre args=true→WData.layableAll args=true→ReadsAllW r.records (classAt s₀.heap) s₁.heap vals args as→WellAll w.params s₁.heap vals args→(∀a∈as,(a == sysModules)=false) →
   wpN (model r.prog w) callerA (PySem.call (.ref a) vals) (fun v s'=>GoodWG r.claim (classAt s₀.heap) (ExcName.means s₀.heap) args s₁ (.ok (.ret v)) s') s₁
theorem head_calm {r:OpenRow}{q:Program}{loose:List Str}{Xt:Shared→Bool}{XP:(Str→Option Value)→Heap→Prop}{α:Type}{Yf:Shared→α}{Ya:World→α}{YP:World→Heap→Prop}{d:DefRec}{kwd:List (Str×Expr)}{N:Nat}
  (left:LeftO r.prog q loose Xt Yf Ya N) (hY:∀w s,Yf s=Ya w→YP w s.heap) (hYk:∀w h h',YP w h→(∀b o,h.get? b=some o→h'.get? b=some o)→YP w h')
  (hX:∀s,Xt s=true→XP (s.heap.nsMap mainGlobals) s.heap) (hXk:∀mg h h',XP mg h→(∀b o,h.get? b=some o→h'.get? b=some o)→XP mg h')
  (hdef:defOf q r.name=some (d,kwd)) (hp:r.prog.theDef r.name=some (d.params,d.body,d.scope)) (hk:kwWritten? d.params.kwonlyargs d.params.kw_defaults=some kwd) (hRf:∀s,Xt s=true→RecFacts r.records s.heap) (hwr:(!r.writes||r.records.isEmpty)=true)
  (k1:r.wellSaid=true) (ok:(chainsOk q&&opensWell r.prog&&(frees r.toRowW&&r.within.isEmpty))=true) (hb:r.prog.bare) (hw:r.toRowW.promised)
  (walk:CalmWalk q loose XP YP r.toRowW d kwd):r.Holds:=by
 obtain ⟨ok,k5⟩:=Bool.and_eq_true_iff.mp ok
 obtain ⟨hch,o1⟩:=Bool.and_eq_true_iff.mp ok
 obtain ⟨k5,k6⟩:=Bool.and_eq_true_iff.mp k5
 obtain ⟨hsame,hu,ha,hap,hm⟩:=frees_parts k5
 refine ⟨k1,hw,⟨hb,o1,by show r.makers.map _=[]; rw [show r.makers=[] from hm]; rfl⟩,hw.witness,fun w=>⟨(left.behind hX hch w).1,fun s' hs'=>?_⟩⟩
 refine byP fun P kk=>?_
 obtain ⟨s₀,hf,hg0,s,T,hz,hgens,hg,G',y⟩:=(left.behind (XP:=fun mg h=>XP mg h∧RecFacts r.records h) (fun s hs=>⟨hX s hs,hRf s hs⟩) hch w).2 s' hs'
 have G0:Ground q loose [] XP w s (s.heap.nsMap mainGlobals) (s.heap.nsMap builtinsNs) s.heap:=⟨G'.T,G'.B,G'.D,G'.TE,G'.TD,G'.W,G'.X.1,G'.cls,G'.has,G'.apart,G'.once,G'.K⟩
 have RF:=G'.X.2
 have T':=T
 refine kk ⟨s₀,hf,hg0,s,T,fun n hn=>?_,RF.1,RF.2.1,?_⟩
 ·obtain rfl:n=r.name:=by split at hn<;>simp_all
  exact pinned_of_view hg G0 hdef hp hk
 have hgens:s.gens=#[]:=Array.eq_empty_of_size_eq_zero (beq_iff_eq.mp hgens)
 have G:Ground q loose r.records XP w s _ _ s.heap:=RF.ground G0
 refine callFrom_calm (c:=r.toRowW.claim) (tree:=fun vs=>do match ←nsGet mainNs r.name with
   | some f=>do ret (←PySem.call f vs)
   | none=>unsupported "claim.caller:no-such-global") hz hgens fun args hpre hlay ord hord=>byP fun P kk=>?_
 obtain ⟨⟨vs,s₁⟩,laid⟩:=Option.isSome_iff_exists.mp (layAllW_isSome (P:=w.params) (ord:=ord) G.has args r.args s (pre_splitW hpre).1)
 have keeps:=layAllW_keeps _ _ _ laid
 have rest:=layAllW_rest _ _ _ laid
 obtain ⟨as,hrd,hin,hold⟩:=reads_layAllW hord _ _ _ laid hlay s₁.heap (fun _ _ e=>e)
 have L:Laid r.records w s s₁ args vs as:=⟨⟨ord,hord,laid⟩,hrd,hin,hold,keeps,rest.1.trans hgens,rest.2.2.1⟩
 have G₁:=G.keeps hXk keeps
 obtain ⟨a,o,pm,cd,doc,dV,kV,h1,h2,h3,h4,h5⟩:=G₁.fn hdef
 have hname:r.name=d.name:=(defOf_name hdef).symm
 have go:=walk w s s₁ _ _ G₁ (hYk _ _ _ (hY w s y) keeps) a o pm cd doc dV kV h2 h3 h4 h5 (defOf_name hdef▸h1) L.gens args vs as hpre hlay L.reads L.well (L.low G.low)
 refine kk ⟨vs,s₁,laid,wpN_bindA (wpAny_nsGet G₁.T.g ?_)⟩
 rw [h1]
 refine wpN_bind (wpN_mono go fun v s2 g=>wpN_pure ?_)
 have z:=g.laid (c:=r.toRowW.claim) hsame (List.isEmpty_iff.mp k6) (ident_freeW hu ha hap) L
 exact ⟨_,rfl,⟨z.1,z.2.1,fun q=>⟨namesKept_of T' hg r.keeps keeps g.2.1.old,noTable hwr q⟩⟩,z.2.2⟩
end Mine
end
section
namespace Mine
noncomputable def topRunT (tb:String→Option Builtin) (p:Program) (w:World) (n₀:Nat) (ann:Option Value):Nat→SharedT→Thread→Option SharedT
 | 0,_,_=>none
 | n+1,s,t=>match through t with
  | true=>some s
  | false=>match stepOk n₀ ann t with
   | false=>none
   | true=>match stepT (denote tb) p w s t with
    | some (s',t')=>topRunT tb p w n₀ ann n s' t'
    | none=>none
noncomputable def treeOf:List Obj→BT→Nat→BT
 | [],t,_=>t
 | o::r,t,n=>treeOf r (t.ins n o) (n+1)
theorem topRunT_spec {tb:String→Option Builtin}{p:Program}{w:World}{n₀:Nat}{ann:Option Value}:∀{n:Nat}{s r:SharedT}{t:Thread},topRunT tb p w n₀ ann n s t=some r→topRun tb p w n₀ ann n s.abs t=some r.abs
 | 0,_,_,_,h=>by simp [topRunT] at h
 | n+1,s,r,t,h=>by
  unfold topRunT at h
  unfold topRun
  cases ht:through t with
  | true=>rw [ht] at h; cases h; rfl
  | false =>
   rw [ht] at h
   cases hk:stepOk n₀ ann t with
   | false=>rw [hk] at h; cases h
   | true =>
    rw [hk] at h
    cases hs:stepT (denote tb) p w s t with
    | none=>rw [hs] at h; cases h
    | some x =>
     obtain ⟨s',t'⟩:=x
     rw [hs] at h
     dsimp only at h ⊢
     rw [stepT_spec hs]
     exact topRunT_spec h
theorem left_tree2 {p q:Program}{loose:List Str}{Xt:Shared→Bool}{α:Type}{Yf:Shared→α}{Ya:World→α}{N m₀:Nat}{g0:Bool}{H₀:Params→Heap}{T₀:Params→BT}{life:Params→Life}{gs₀:Array GenState}{d₀:Drawn}{k₀:Nat}{ann:Option Value}
  (open_:∀w:World,(fencedOpening treeTable p w N).map (fun s=>(s.heap,s.gens,s.drawn,s.toks))=some (H₀ w.params,gs₀,d₀,k₀))
  (size:∀P,((H₀ P).isNs mainGlobals&&gs₀.size == 0,(H₀ P).objs.size,(H₀ P).nsMap mainGlobals "__annotations__")=(true,m₀,ann))
  (habs:∀P,absHeap (T₀ P) m₀ (life P)=H₀ P)
  (look:∀(w:World) (os:OsState),(topRunT treeTable p w m₀ ann N ⟨T₀ w.params,m₀,life w.params,gs₀,d₀,k₀,os⟩ (topStub p)).map (fun r =>
   ((staticsOk (importedModules p.main.body) (H₀ w.params) r.abs.heap&&namesBound p r.abs.heap&&gensDone r.abs&&laidKept (H₀ w.params) r.abs.heap),openSeen q loose (importedModules p.main.body) Xt g0 r.abs))=some (true,openGood q loose))
  (look2:∀(w:World) (os:OsState),(topRunT treeTable p w m₀ ann N ⟨T₀ w.params,m₀,life w.params,gs₀,d₀,k₀,os⟩ (topStub p)).map (fun r=>Yf r.abs)=some (Ya w)) :
  LeftO p q loose Xt Yf Ya N g0:=fun w=>by
 refine byP fun PG kG=>?_
 obtain ⟨⟨h,gs,d,k,os⟩,e,e'⟩:=Option.map_eq_some_iff.mp (open_ w)
 obtain ⟨rfl,rfl,rfl,rfl⟩:h=H₀ w.params∧gs=gs₀∧d=d₀∧k=k₀:=by simpa using e'
 obtain ⟨z1,z2,z3⟩:_∧_∧_:=by simpa only [Prod.mk.injEq] using size w.params
 obtain ⟨r,hr,l⟩:=Option.map_eq_some_iff.mp (look w os)
 obtain ⟨l1,l2⟩:_∧_:=by simpa only [Prod.mk.injEq] using l
 obtain ⟨r',hr',l3⟩:=Option.map_eq_some_iff.mp (look2 w os)
 refine kG ?_
 rw [show r'=r from Option.some.inj (hr'.symm.trans hr)] at l3
 have run:=topRunT_spec hr
 have ha:(⟨T₀ w.params,m₀,life w.params,gs,d,k,os⟩:SharedT).abs=⟨H₀ w.params,gs,d,k,os⟩:=by unfold SharedT.abs; dsimp only; rw [habs]
 rw [ha] at run
 have t:topFrom treeTable p w N ⟨H₀ w.params,gs,d,k,os⟩=some r.abs:=by
  unfold topFrom
  dsimp only
  rw [z1,z2,z3,run]
  show (match staticsOk (importedModules p.main.body) (H₀ w.params) r.abs.heap&&namesBound p r.abs.heap&&gensDone r.abs&&laidKept (H₀ w.params) r.abs.heap with | true=>_ | false=>_)=_
  rw [l1]
 unfold openEnds
 rw [e]
 show Option.map _ (topFrom treeTable p w N ⟨H₀ w.params,gs,d,k,os⟩)=_
 rw [t]
 show some (openSeen q loose (importedModules p.main.body) Xt g0 r.abs,Yf r.abs)=_
 rw [l2,l3]
end Mine
end
section
open PySem PySem.Spec PySem.Calls PyProof.Rows PySem.W
namespace Mine
section
section
variable {C:Cfg}{n:Nat}{sc:Scope}{fr:Vars}{H:GHeap}{Q:PV→GHeap→Prop}{A:Around}{kp:Kp}{env:Env}{s:Shared}
theorem ev_bytes {b:List UInt8}{k:Nat}{pos:Pos}(q:Q (.bytes b.toArray) H):EvOk C n sc (.Constant (.bytes b) k pos) fr H Q:=⟨fun _ _ _ s _ S F =>
 fun _ _ _=>Back.of (S.toks (s.toks+1)) F (.bytes b.toArray _) q⟩
structure PrsOk (C:Cfg) (n:Nat) (sc:Scope) (ks:List (Option Expr)) (vs:List Expr) (fr:Vars) (H:GHeap) (Q:List (PV×PV)→GHeap→Prop):Prop where
 run:∀pos A kp env s,Rm n A→St C kp H s→FrOk sc env kp H fr s.heap→wpAny (model C.prog C.w) A (evalPairs (pairTrees ks vs env pos)) (fun us s'=>∃ps H',St C kp H' s'∧FrOk sc env kp H' fr s'.heap ∧
  TellsL s'.heap (us.map (·.1)) (ps.map (·.1))∧TellsL s'.heap (us.map (·.2)) (ps.map (·.2))∧Q ps H') noE s
theorem prs_nil {Q:List (PV×PV)→GHeap→Prop}(q:Q [] H):PrsOk C n sc [] [] fr H Q:=⟨fun pos A kp env s hA S F=>evalPairs_nil ⟨[],H,S,F,.nil,.nil,q⟩⟩
theorem PrsOk.nextK {ks:List (Option Expr)}{vs:List Expr}{pos:Pos}{Q:List (PV×PV)→GHeap→Prop}(h:PrsOk C n sc ks vs fr H Q) (hA:Rm n A) (S:St C kp H s) (F:FrOk sc env kp H fr s.heap) {R:List (Value×Value)→Shared→Prop}
  (k:∀us s' ps H',Keep s.heap s'.heap→St C kp H' s'→FrOk sc env kp H' fr s'.heap→TellsL s'.heap (us.map (·.1)) (ps.map (·.1))→TellsL s'.heap (us.map (·.2)) (ps.map (·.2))→Q ps H'→R us s'):wpAny (model C.prog C.w) A (evalPairs (pairTrees ks vs env pos)) R noE s :=
 keepingF S F (P:=fun kp' us s'=>∃ps H',St C kp' H' s'∧FrOk sc env kp' H' fr s'.heap∧TellsL s'.heap (us.map (·.1)) (ps.map (·.1))∧TellsL s'.heap (us.map (·.2)) (ps.map (·.2))∧Q ps H') (fun kp' S' F'=>h.run pos A kp' env s hA S' F') fun kp' v s' hk hb K z =>
  z.elim fun x z=>z.elim fun H' z=>k v s' x H' (K _ z.1.kept) (z.1.lessK hk hb) (z.2.1.lessK hk) z.2.2.1 z.2.2.2.1 z.2.2.2.2
theorem prs_cons {k v:Expr}{ks:List (Option Expr)}{vs:List Expr}{Q:List (PV×PV)→GHeap→Prop}(h:EvOk C n sc k fr H fun kx H1=>EvOk C n sc v fr H1 fun vx H2=>PrsOk C n sc ks vs fr H2 fun ps H3=>Q ((kx,vx)::ps) H3) :
  PrsOk C n sc (some k::ks) (v::vs) fr H Q:=⟨fun pos A kp env s hA S F =>
 evalPairs_cons (h.next hA S F fun ku s1 kx H1 S1 F1 t1 q1=>wpAny_bind (q1.nextK hA S1 F1 fun vu s2 vx H2 K2 S2 F2 t2 q2=>wpAny_bind (wpAny_standAt (wpAny_pure
  (q2.nextK hA S2 F2 fun us s3 ps H3 K3 S3 F3 t3 t4 q3=>⟨(kx,vx)::ps,H3,S3,F3,.cons ((t1.keep K2).keep K3) t3,.cons (t2.keep K3) t4,q3⟩)))))⟩
theorem merged_append {K:Type} [DecidableEq K] (l:List (K×Value)):∀(acc:List (K×Value)),((acc++l).map (·.1)).Nodup→merged acc l=acc++l:=by
 induction l with
 | nil=>exact fun acc _=>(List.append_nil acc).symm
 | cons p r ih =>
  intro acc hn
  obtain ⟨k,v⟩:=p
  have hn':=hn
  rw [List.map_append,List.nodup_append] at hn'
  have e:acc++(k,v)::r=(acc++[(k,v)])++r:=by rw [List.append_assoc]; rfl
  show merged (stored acc k v) r=_
  simp -iota only [stored_eq k v acc hn'.1,putD_of_not_mem k v acc (fun hm=>hn'.2.2 k hm k (.head _) rfl),e]
  exact ih _ (e▸hn)
theorem carries_of {K:Type} [DecidableEq K] {knd:KeyKind C.prog C.w K}{h:Heap}(pk:K→PV) (hpk:∀k u,Tells h u (pk k)→knd.is k u=true) (kvs:List (K×PV)):∀{us:List (Value×Value)},
  TellsL h (us.map (·.1)) (kvs.map fun p=>pk p.1)→TellsL h (us.map (·.2)) (kvs.map (·.2))→∃vs,Carries knd us vs∧KV h vs kvs:=by
 induction kvs with
 | nil=>intro us t _; induction us using List.casesOn with | nil=>exact ⟨[],trivial,.nil⟩ | cons=>exact nomatch t.inv
 | cons p r ih =>
  intro us t1 t2
  induction us using List.casesOn with
  | nil=>exact t1.inv.elim fun _ z=>z.elim fun _ z=>nomatch z.1
  | cons u us =>
   refine byP fun PG kG=>?_
   obtain ⟨_,_,e,a1,l1⟩:=t1.inv
   obtain ⟨rfl,rfl⟩:=List.cons.inj e
   obtain ⟨_,_,e,a2,l2⟩:=t2.inv
   obtain ⟨rfl,rfl⟩:=List.cons.inj e
   refine kG ?_
   exact (ih l1 l2).elim fun vs z=>⟨(p.1,u.2)::vs,⟨hpk _ _ a1,rfl,z.1⟩,.cons a2 z.2⟩
theorem KV.nodup {K:Type}{h:Heap}{a:List (K×Value)}{b:List (K×PV)}(kv:KV h a b) (hn:(b.map (·.1)).Nodup):(a.map (·.1)).Nodup:=by rw [kv.keys]; exact hn
theorem ev_dict_any {K:Type} [DecidableEq K] (knd:KeyKind C.prog C.w K) (pk:K→PV) (obj:List (K×PV)→GObj) (hpk:∀h k u,Tells h u (pk k)→knd.is k u=true)
  (hobj:∀h a kvs,(∃vs,h.DictOf knd a vs∧KV h vs kvs)→Is C h a (obj kvs)) {keys:List (Option Expr)}{values:List Expr}{pos:Pos}
  (h:PrsOk C n sc keys values fr H fun ps H'=>∃kvs:List (K×PV),ps=kvs.map (fun p=>(pk p.1,p.2))∧(kvs.map (·.1)).Nodup∧kvs.length≤1000∧∀a,H' a=none→Q (.ref a) (H'.set a (obj kvs)))
  (hall:keys.all (·.isSome)=true) (hl:keys.length=values.length) (h0:keys≠[]) (hlen:keys.length≤15):EvOk C n sc (.Dict keys values pos) fr H Q:=⟨fun A kp env s hA S F=>by
 refine wpAny_Dict_any hall hl h0 hlen ?_
 have k1:=push_old (h:=s.heap) {cls:=.type "dict",data:=.dict #[]}
 have S1:St C kp H {s with heap:=s.heap.push {cls:=.type "dict",data:=.dict #[]},toks:=s.toks}:=S.grow k1
 have fresh:=S.fresh (Nat.le_refl s.heap.objs.size)
 have hf:=F.fresh (Nat.le_refl s.heap.objs.size)
 have hd:(s.heap.push {cls:=.type "dict",data:=.dict #[]}).get? s.heap.objs.size=some {cls:=.type "dict",data:=.dict #[]}:=Heap.get?_push_size _ rfl
 have hm:=moreK_at (kp:=kp) (x:=(· == s.heap.objs.size)) hd (beq_self_eq_true _)
 refine wpAny_mono (h.run pos A _ env _ hA (S1.moreI fresh.1) (FrOk.moreI (s:={s with heap:=s.heap.push {cls:=.type "dict",data:=.dict #[]},toks:=s.toks}) (F.grow k1) hf)) (fun us s2 z=>?_) fun _ _ x=>x
 refine byP fun PG kG=>?_
 obtain ⟨ps,H2,S2,F2,t1,t2,kvs,rfl,hn,hlk,q⟩:=z
 have hd2:s2.heap.get? s.heap.objs.size=some {cls:=.type "dict",data:=.dict #[]}:=S2.kept _ _ hm
 have S3:St C kp H2 s2:=S2.lessK (moreK_sub S1) S.base
 have hH2:H2 s.heap.objs.size=none:=S2.notHeld hm
 rw [List.map_map] at t1 t2
 obtain ⟨vs,c,kv⟩:=carries_of (C:=C) (knd:=knd) pk (hpk s2.heap) kvs t1 t2
 refine kG ?_
 have empty:s2.heap.DictOf knd s.heap.objs.size []:=⟨_,#[],0,hd2,⟨rfl,rfl,rfl⟩,rfl,fun e he=>absurd he (Array.not_mem_empty _),.nil,List.nodup_nil⟩
 refine wpAny_storeAll us vs [] s2 _ c empty (by rw [kv.length,List.length_nil,Nat.zero_add]; exact line_of hlk) fun h' hm hs=>?_
 rw [merged_append vs [] (kv.keys▸hn),List.nil_append] at hm
 have K:Keep s2.heap h':=Keep.sameBut hs hd2 rfl
 exact Back.of ((S3.change (t:=s2.toks+us.length) hs.extBut fresh.2 hH2 fun o e=>by rw [hd2] at e; cases e; rfl).adopt fresh.2 (hobj _ _ _ ⟨vs,hm,kv.keep K⟩)) (FrOk.adopt (s:={s2 with heap:=h',toks:=s2.toks+us.length}) ((F2.lessK (moreK_sub S1)).over hf hs.extBut K) hf) (.ref _) (q _ hH2)⟩
theorem ev_dict_str {keys:List (Option Expr)}{values:List Expr}{pos:Pos}
  (h:PrsOk C n sc keys values fr H fun ps H'=>∃kvs:List (Str×PV),ps=kvs.map (fun p=>(.str p.1,p.2))∧(kvs.map (·.1)).Nodup∧kvs.length≤1000∧∀a,H' a=none→Q (.ref a) (H'.set a (.sdict kvs)))
  (hall:keys.all (·.isSome)=true) (hl:keys.length=values.length) (h0:keys≠[]) (hlen:keys.length≤15):EvOk C n sc (.Dict keys values pos) fr H Q :=
 ev_dict_any (strKind C.prog C.w) PV.str .sdict (fun h k u t=>strKey (C:=C) t) (fun h a kvs x=>x) h hall hl h0 hlen
theorem ev_dict_int {keys:List (Option Expr)}{values:List Expr}{pos:Pos}
  (h:PrsOk C n sc keys values fr H fun ps H'=>∃kvs:List (Int×PV),ps=kvs.map (fun p=>(.int p.1,p.2))∧(kvs.map (·.1)).Nodup∧kvs.length≤1000∧∀a,H' a=none→Q (.ref a) (H'.set a (.idict kvs)))
  (hall:keys.all (·.isSome)=true) (hl:keys.length=values.length) (h0:keys≠[]) (hlen:keys.length≤15):EvOk C n sc (.Dict keys values pos) fr H Q :=
 ev_dict_any (intKind C.prog C.w) PV.int .idict (fun h k u t=>intKey (C:=C) t) (fun h a kvs x=>x) h hall hl h0 hlen
theorem ev_dict0 {g:GObj}{pos:Pos}(hg:g=.sdict []∨g=.idict []∨g=.tdict []) (q:∀a,H a=none→Q (.ref a) (H.set a g)):EvOk C n sc (.Dict [] [] pos) fr H Q:=⟨fun A kp env s hA S F=>by
 refine wpAny_Dict_empty ?_
 have hd:(s.heap.push {cls:=.type "dict",data:=.dict #[]}).get? s.heap.objs.size=some {cls:=.type "dict",data:=.dict #[]}:=Heap.get?_push_size _ rfl
 have de:∀{K:Type} [DecidableEq K] (knd:KeyKind C.prog C.w K),∃vs,(s.heap.push {cls:=.type "dict",data:=.dict #[]}).DictOf knd s.heap.objs.size vs∧KV (s.heap.push {cls:=.type "dict",data:=.dict #[]}) vs []:=fun knd =>
  ⟨[],⟨_,#[],0,hd,⟨rfl,rfl,rfl⟩,rfl,fun e he=>absurd he (Array.not_mem_empty _),.nil,List.nodup_nil⟩,.nil⟩
 have hi:Is C (s.heap.push {cls:=.type "dict",data:=.dict #[]}) s.heap.objs.size g:=by
  rcases hg with rfl | rfl | rfl
  ·exact de _
  ·exact de _
  ·exact ⟨[],0,hd,List.nodup_nil,fun x hx=>absurd hx List.not_mem_nil,.nil⟩
 have hf:=F.fresh (Nat.le_refl s.heap.objs.size)
 exact Back.of (S.new (t:=s.toks) (Nat.le_refl _) (push_old _) hi) (FrOk.adopt (s:={s with heap:=s.heap.push {cls:=.type "dict",data:=.dict #[]},toks:=s.toks}) (F.grow (push_old _)) hf) (.ref _) (q _ (S.fresh (Nat.le_refl _)).1)⟩
theorem freeze {kp:Kp}{a:Addr}{kvs:List (Int×PV)}(S:St C kp H s) (e:H a=some (.idict kvs)):∃ep,St C kp (H.set a (.fdict kvs ep)) s :=
 (S.own _ _ e).elim fun vs z=>z.1.dictAt.imp fun ep d=>by
  refine ⟨S.base,S.kept,fun b g e'=>?_,fun b g e'=>?_,S.gens,S.os⟩
  ·by_cases hb:b=a
   ·subst hb; rw [GHeap.set_same] at e'; cases e'; exact ⟨vs,d,z.2⟩
   ·rw [GHeap.set_other _ _ hb] at e'; exact S.own b g e'
  ·by_cases hb:b=a
   ·subst hb; exact S.apart _ _ e
   ·rw [GHeap.set_other _ _ hb] at e'; exact S.apart b g e'
theorem c_len {a:Addr}{xs:List PV}(l:LsAt C H a xs) (hz:xs.length≤1000000) (q:Q (.int xs.length) H):CallOk C n (.val (.builtin "len")) [.ref a] H Q:=.r1 fun A kp s hA S=>by
 obtain ⟨us,hL,t⟩:=l.isList S
 have e:us.toArray.size=xs.length:=t.length
 refine call_len_list hL (by rw [e]; omega) ?_
 rw [e]
 exact BackV.of (S.toks _) (.int _ _) q
theorem c_len_i {a:Addr}{kvs:List (Int×PV)}(e:H a=some (.idict kvs)) (hz:kvs.length≤1000) (q:Q (.int kvs.length) H):CallOk C n (.val (.builtin "len")) [.ref a] H Q:=.r1 fun A kp s hA S=>by
 obtain ⟨us,d,t⟩:=S.own _ _ e
 refine call_len_dict (S.notMods e) d (by rw [t.length]; omega) ?_
 rw [t.length]
 exact BackV.of (S.toks _) (.int _ _) q
theorem c_len_b {a:Addr}{b:Array UInt8}(e:H a=some (.barr b)) (hz:b.size≤1000) (q:Q (.int b.size) H):CallOk C n (.val (.builtin "len")) [.ref a] H Q:=.r1 fun A kp s hA S=>by
 have hT:s.TypeIs (.ref a) "bytearray" := ⟨_,S.own _ _ e,rfl⟩
 refine call_len_slot (n:=(b.size:Int)) hT slot_barr_len (fun Q' q'=>wpAny_call_entry slot_barr_len hT entry_barr_len ?_ (args_barr_len _)) (by exact Int.not_lt.mpr (Int.natCast_nonneg _)) (by lia) (BackV.of (S.toks _) (.int _ _) q)
 show wpAny _ _ (Builtin.Bytes.payload (.ref a)>>=_) _ _ _
 exact wpAny_bind (barr_payload (S.own _ _ e) (wpAny_ret_mkInt q'))
theorem c_min {a b:Int}(q:Q (.int (if b<a then b else a)) H):CallOk C n (.val (.builtin "min")) [.int a,.int b] H Q:=.v2 fun A kp s u v hA S t1 t2=>by
 obtain ⟨u,rfl⟩:=t1.inv
 obtain ⟨v,rfl⟩:=t2.inv
 refine min_two_ints hA.h fun h' tk hk=>?_
 by_cases hc:b<a
 ·rw [if_pos hc] at q ⊢; exact BackV.of (S.grow hk) (.int _ _) q
 ·rw [if_neg hc] at q ⊢; exact BackV.of (S.grow hk) (.int _ _) q
theorem c_range {k:Int}(q:Q (.rng k) H):CallOk C n (.val (.type "range")) [.int k] H Q:=.v1 fun A kp s u hA S t1=>by
 obtain ⟨u,rfl⟩:=t1.inv
 exact call_range_1 (BackV.of (S.grow (push_old _)) (.rng (IsRange.new ..)) q)
theorem intsAre_of {h:Heap}(ks:List Int):∀{vs:List Value},TellsL h vs (ks.map PV.int)→IntsAre vs ks:=by
 induction ks with
 | nil=>intro vs t; obtain rfl:=t.inv; exact .nil
 | cons k ks ih=>intro vs t; obtain ⟨v,ws,rfl,a,l⟩:=t.inv; obtain ⟨_,rfl⟩:=a.inv; exact .cons _ _ (ih l)
theorem preSum_list (ks:List Int):∀(m:Nat),preSum (fun i=>ks.getD i 0) m=(ks.take m).sum:=fun m=>by
 induction m with
 | zero=>rfl
 | succ m ih =>
  unfold preSum
  rw [ih,List.take_add_one,List.sum_append,List.getD_eq_getElem?_getD]
  cases ks[m]? with
  | none=>rfl
  | some x=>exact congrArg (_+·) (Int.add_zero x).symm
theorem c_sum {a:Addr}{ks:List Int}(l:LsAt C H a (ks.map PV.int)) (q:Q (.int ks.sum) H):CallOk C n (.val (.builtin "sum")) [.ref a] H Q:=.r1 fun A kp s hA S=>by
 refine byP fun PG kG=>?_
 obtain ⟨us,hL,t⟩:=l.isList S
 have hlen:us.toArray.size=ks.length:=t.length.trans (List.length_map _)
 obtain ⟨ol,hol,_⟩:=id hL
 refine kG ?_
 have hlt:=Heap.lt_size hol
 refine call_sum_walkG (wpAny_pyIter_list hL ⟨_,_,_,_,_,_,fun i=>ks.getD i 0,rfl,Walks.list (prog:=C.prog) (w:=C.w) (A:=A.in1) hA.h s.heap.objs.size a (Nat.ne_of_lt hlt) us.toArray,⟨⟨_,Heap.get?_push_size _ rfl,rfl,rfl⟩,hL.push _⟩,fun b hb=>?_,fun i v hv=>?_,fun h' tk t' hk=>?_⟩)
 ·rw [Heap.size_push]
  exact Nat.lt_succ_of_le ((List.mem_cons.mp hb).elim (fun e=>Nat.le_of_eq e) fun hb=>List.mem_singleton.mp hb▸Nat.le_of_lt hlt)
 ·have hv':us[i]?=some v:=List.getElem?_toArray.symm.trans hv
  have hi:i<ks.length:=hlen▸(List.getElem?_eq_some_iff.mp hv').1
  obtain ⟨w',hw,tw⟩:=t.get (i:=i) (x:=.int (ks.getD i 0)) (by rw [List.getElem?_map,List.getD_eq_getElem?_getD,List.getElem?_eq_getElem hi]; rfl)
  rw [Option.some.inj (hv'.symm.trans hw)]
  exact tw.inv
 ·simp -iota only [preSum_list,hlen,List.take_length]
  exact BackV.of (S.grow (t:=tk) fun b o eb=>hk b o (fun hm=>by rw [List.mem_singleton.mp hm] at eb; exact Nat.lt_irrefl _ (Heap.lt_size eb)) (push_old _ b o eb)) (.int _ _) q
theorem tells_at {h:Heap}{l:List Value}{xs:List PV}(hn:l.length=xs.length) (ht:∀(j:Nat) (v:Value) (x:PV),l[j]?=some v→xs[j]?=some x→Tells h v x):TellsL h l xs:=by
 induction l generalizing xs with
 | nil=>induction xs using List.casesOn with | nil=>exact .nil | cons=>cases hn
 | cons y r ih=>induction xs using List.casesOn with
  | nil=>cases hn
  | cons z xs=>exact .cons (ht 0 y z rfl rfl) (ih (Nat.succ.inj hn) fun j=>ht (j+1))
theorem c_list_i {a:Addr}{kvs:List (Int×PV)}(e:H a=some (.idict kvs)) (hz:kvs.length≤1000) (q:∀b,H b=none→Q (.ref b) (H.set b (.list (kvs.map fun kv=>PV.int kv.1)))):CallOk C n (.val (.type "list")) [.ref a] H Q:=.r1 fun A kp s hA S=>by
 refine byP fun PG kG=>?_
 obtain ⟨us,d,t⟩:=S.own _ _ e
 obtain ⟨ep,d'⟩:=d.dictAt
 refine kG ?_
 refine kdl_call (kdl_dict (S.notMods e)) hA.h d' (t.length▸line_of hz) fun h' tk acc c hk hl hacc=>?_
 have T:TellsL h' acc.toList (kvs.map fun kv=>PV.int kv.1):=by
  refine tells_at (by rw [Array.length_toList,hacc.1,t.length,List.length_map]) fun j v x hv hx=>?_
  obtain ⟨k,y,hy,hkk⟩:=hacc.2 j v (Array.getElem?_toList.symm.trans hv)
  obtain ⟨tk,rfl⟩:=Value.isInt_shape hkk
  have e1:(us.map (·.1))[j]?=some k:=by rw [List.getElem?_map,hy]; rfl
  rw [t.keys] at e1
  rw [show kvs.map (fun kv=>PV.int kv.1)=(kvs.map (·.1)).map PV.int from (List.map_map ..).symm,List.getElem?_map,e1] at hx
  obtain rfl:=Option.some.inj hx
  exact .int _ _
 exact BackV.of (S.new (t:=tk) (Nat.le_refl _) hk (g':=.list (kvs.map fun kv=>PV.int kv.1)) ⟨acc.toList,c,by rw [Array.toArray_toList]; exact hl,T⟩) (.ref _) (q _ (S.fresh (Nat.le_refl _)).1)
theorem c_bytes {a:Addr}{ks:List Int}(l:LsAt C H a (ks.map PV.int)) (hr:∀k∈ks,0≤k∧k<256) (hz:ks.length≤1000) (q:Q (.bytes (byteArr ks)) H):CallOk C n (.val (.type "bytes")) [.ref a] H Q:=.r1 fun A kp s hA S =>
 (l.isList S).elim fun us z=>call_bytes_ints z.1 (intsAre_of _ z.2) hr (z.2.fits ((List.length_map _).symm▸hz)) hA.h fun h' t' k hk=>BackV.of (S.grow hk) (.bytes _ _) q
theorem c_tuple {a:Addr}{xs:List PV}(l:LsAt C H a xs) (hz:xs.length≤1000) (q:Q (.tup xs) H):CallOk C n (.val (.type "tuple")) [.ref a] H Q:=.r1 fun A kp s hA S=>by
 obtain ⟨us,hL,t⟩:=l.isList S
 refine call_tuple_list hL (fun h' hk=>?_) (t.fits hz)
 have k2:∀b o,s.heap.get? b=some o→(h'.push {cls:=.type "tuple",data:=.seq us.toArray}).get? b=some o:=fun b o e=>push_old _ b o (hk b o e)
 exact BackV.of (S.grow (t:=s.toks) k2) (.tup (Heap.get?_push_size _ rfl) (t.keep (Keep.of_all k2))) q
end
end
section
section
variable {α:Type}{M:Model}{A:Around}{s:Shared}
theorem wpN_keep {vs:List Value}{m:Sem α}{Q:α→Shared→Prop}(h:wpN M A m Q s):wpN M A (m.keep vs) Q s:=fun Γ p hΓ hc=>by rw [Sem.wp_keep]; exact h Γ p hΓ hc
theorem wpN_callMarked {mk f:Value}{pos:List Value}{Q:Value→Shared→Prop}(h:wpN M A (PySem.call f pos) Q s):wpN M A (callMarked mk f pos []) Q s:=wpN_keep h
end
section
variable {C:Cfg}{n:Nat}{sc:Scope}{fr:Vars}{H:GHeap}{Q:PV→GHeap→Prop}{A:Around}{kp:Kp}{env:Env}{s:Shared}
theorem evN_call {f e:Expr}{args:List Expr}{pos:Pos}{Q:PV→GHeap→Prop}(h:EvOk C n sc f fr H fun g H1=>Callee C g∧EvsN C n sc (e::args) fr H1 fun xs H2=>CallN C n g xs H2 Q)
  (hf:notAttr f=true) (ha:(e::args).all notStar=true):EvN C n sc (.Call f (e::args) [] pos) fr H Q:=⟨fun A kp env s hA S F=>by
 rw [eval_Call_plain hf]
 refine wpN_bindA (h.next hA S F fun u s1 g H1 S1 F1 t1 q=>?_)
 have hcons:backTo pos (starEach (e::args) env)=(false,eval e env)::backTo pos (starEach args env):=by
  rw [List.all_cons,Bool.and_eq_true] at ha
  rw [starEach_cons ha.1]; rfl
 have hplain:=noStars ha env pos
 have hA':=fun {R}=>q.2.nextK (pos:=pos) (R:=R) hA S1 F1
 rw [hcons] at hplain hA' ⊢
 refine wpN_bind (wpN_holding ?_)
 refine wpN_bind (hA' fun vs s2 xs H2 K S2 F2 t2 q2=>wpN_bindA (wpAny_pure (wpN_holding ?_)))
 show wpN _ _ ((do let ks ←evalAll []; let ps ←pure vs; pure (⟨ps,[].zip ks⟩:Args))) _ _
 refine wpN_bindA (wpAny_evalAll_nil (wpN_bindA (wpAny_pure (wpN_pure (wpN_standAt ?_)))))
 rw [show (((false,eval e env)::backTo pos (starEach args env)).any (·.1)||(backToKw pos (keywordEach [] env)).any (·.1.isNone))=false from by rw [hplain]; rfl]
 obtain ⟨k2,hk2,hl⟩:=q.1.keeper (t1.keep K) s2.heap S2.K
 refine wpN_bindA (hl.here ?_)
 have core:wpN (model C.prog C.w) A (PySem.call u vs) (Back C sc kp env fr Q) s2:=opN_frame F2 S2 fun kp' S'=>q2.run A kp' s2 u vs hA S' (t1.keep K) t2
 have tail:∀{t:Sem Value},wpN (model C.prog C.w) A t (Back C sc kp env fr Q) s2→wpN (model C.prog C.w) A (t>>=fun r=>holding [r] point>>=fun _=>pure r) (Back C sc kp env fr Q) s2 :=
  fun ht=>wpN_bind (wpN_mono ht fun r s₂ hr=>wpN_of_any (wpAny_bind (wpAny_holding (wpAny_point (wpAny_pure hr)))))
 clear hA' hcons hplain q2 q hl
 rcases hk2 with rfl | rfl | rfl<;>dsimp only<;>first
  | exact tail core
  | (split<;>first | exact tail core | exact tail (wpN_callMarked core))⟩
theorem tsN_compare {l r:Expr}{op:CmpOp}{pos:Pos}{Q:Bool→GHeap→Prop}(h:EvN C n sc l fr H fun a H1=>EvOk C n sc r fr H1 fun b H2=>Op2Ok C n (compareOp op) a b H2 fun c H3=>∃q,c=.bool q∧Q q H3)
  (hm:behindInMarks op r=false):TsN C n sc (.Compare l [op] [r] pos) fr H Q:=⟨fun A kp env s hA S F=>by
 simp -iota only [isTrue_Compare1,markedBehindIn_of_false hm]
 exact wpN_bind (h.next hA S F fun u s1 a H1 S1 F1 t1 q1=>wpN_of_any (wpAny_bind (wpAny_holding (q1.nextK hA S1 F1 fun v s2 b H2 K S2 F2 t2 q2 =>
  wpAny_bind (wpAny_standAt (wpAny_bind (wpAny_operating (wpAny_mono (op_frame F2 S2 fun kp' S' _=>q2.run A kp' s2 u v hA S' (t1.keep K) t2) (fun c s3 z=>z.casesOn fun x H3 S3 F3 t3 q=>by
   obtain ⟨q,rfl,hq⟩:=q
   obtain rfl:=t3.inv
   exact wpAny_holding (wpAny_truthy_bool ⟨H3,S3,F3,hq⟩)) fun _ _ x=>x))))))))⟩
theorem stN_if {t:Expr}{b o:List Stmt}{pos:Pos}{Q:Fl→Vars→GHeap→Prop}(h:TsN C n sc t fr H fun c H1=>(c=true→ExOk C n sc b fr H1 Q)∧(c=false→ExOk C n sc o fr H1 Q)):SN C n sc (.If t b o pos) fr H Q:=⟨fun A kp env s hA S F=>by
 rw [exec_If]
 exact wpN_standAt (wpN_bind (wpN_mono (h.run A kp env s hA S F) fun c s1 b=>b.casesOn fun H1 S1 F1 q=>wpN_of_any (by
  cases c
  ·exact (q.2 rfl).run A kp env s1 hA S1 F1
  ·exact (q.1 rfl).run A kp env s1 hA S1 F1)))⟩
theorem stN_assign {t e:Expr}{pos:Pos}{Q:Fl→Vars→GHeap→Prop}(h:EvN C n sc e fr H fun v H'=>AsOk C n sc t v fr H' fun fr' H2=>Q .next fr' H2)
  (hc:noComp e=true) (hw:∀env,swappedStores [t] e env=pure none) (he:∀env,(assignEach [t] env).map (·.2)=[assign t env]):SN C n sc (.Assign [t] e pos) fr H Q:=⟨fun A kp env s hA S F=>by
 rw [exec_Assign_arm]
 refine wpN_standAt ?_
 rw [show swapsWithSole [t] e pos.line env=pure false from noComp_is hc _ _ env]
 refine wpN_bindA (wpAny_pure ?_)
 rw [if_neg (by decide)]
 refine wpN_bind (h.next hA S F fun v s1 x H1 S1 F1 t1 q=>wpN_of_any ?_)
 rw [hw env]
 refine wpAny_bind (wpAny_pure ?_)
 rw [he env]
 exact wpAny_bind (q.next hA S1 F1 t1 fun _ s2 fr' H2 S2 F2 q2=>wpAny_pure (.of S2 F2 .next q2))⟩
theorem exN_cons {st:Stmt}{rest:List Stmt}{Q:Fl→Vars→GHeap→Prop}(h:SN C n sc st fr H fun fl fr' H'=>thenF (ExN C n sc rest fr' H' Q) (Q fl fr' H') fl):ExN C n sc (st::rest) fr H Q:=⟨fun A kp env s hA S F=>by
 rw [execs_cons]
 exact wpN_bind (wpN_mono (h.run A kp env s hA S F) fun f s' b=>b.casesOn fun fl fr' H' S' F' t q=>by
  cases t with
  | next=>exact ExN.run q A kp env s' hA S' F'
  | brk=>exact wpN_pure (.of S' F' .brk q)
  | cont=>exact wpN_pure (.of S' F' .cont q)
  | ret t=>exact wpN_pure (.of S' F' (.ret t) q))⟩
structure ForN (C:Cfg) (n:Nat) (sc:Scope) (target:Expr) (body:List Stmt) (k:Sk) (pv:PV) (xs:List PV) (i:Nat) (fr:Vars) (H:GHeap) (Q:Fl→Vars→GHeap→Prop):Prop where
 run:∀A kp env s I,Rm n A→St C kp H s→FrOk sc env kp H fr s.heap→ItAt s.heap I xs.length i k→kp I=none→H I=none→¬onFrame env I →
  codeN (model C.prog C.w) A (.forLoop target (.ref I) body [] env) (fun r s'=>∃f,r=.ok f∧BackF C sc kp env Q f s') s
theorem forN_nil {target:Expr}{body:List Stmt}{k:Sk}{pv:PV}{xs:List PV}{i:Nat}{Q:Fl→Vars→GHeap→Prop}(sr:Src C H k pv xs) (hi:i=xs.length) (q:Q .next fr H):ForN C n sc target body k pv xs i fr H Q :=
 ⟨fun A kp env s I hA S F it hk hH hf=>codeN_of_any ((for_nil (n:=n) (sc:=sc) (target:=target) (body:=body) sr hi q).run A kp env s I hA S F it hk hH hf)⟩
theorem forLoopN_turn {target it body env} {R:Result→Shared→Prop}
  (h:wpAny (model C.prog C.w) A (pyNext it) (fun r s₁=>match r with
   | none=>R (.ok .next) s₁
   | some v=>wpAny (model C.prog C.w) A (letOwnedTupleGo target it v) (fun _ s₁' =>
     wpAny (model C.prog C.w) A (assign target env v) (fun _ s₂=>wpN (model C.prog C.w) A (execs body env) (fun f s₃=>match f with
      | .next | .cont=>codeN (model C.prog C.w) A (.forLoop target it body [] env) R s₃
      | .brk=>R (.ok .next) s₃
      | .ret v=>R (.ok (.ret v)) s₃) s₂) noE s₁') noE s₁) noE s):codeN (model C.prog C.w) A (.forLoop target it body [] env) R s:=by
 refine codeN_of_tree (fun _ _=>rfl) ?_
 show wpN _ A ((forTurn target it body [] env).onRaise (fun x=>do noteFrame x env; theTreesLotGoes x)) _ s
 refine wpN_onRaise ?_
 simp only [forTurn]
 refine wpN_standAt (wpN_bind (wpN_onRaise (wpN_of_any (wpAny_mono h (fun r s₁ h₁=>?_) fun _ _ h'=>h'))))
 induction r using Option.casesOn with
 | none=>exact wpN_pure ⟨rfl,codeN_of_any (codeAny_block (wpAny_execs_nil h₁))⟩
 | some v =>
  refine wpN_bindA (wpAny_mono h₁ (fun _ s₁' h₁'=>?_) fun _ _ h'=>h')
  refine wpN_bindA (wpAny_mono h₁' (fun _ s₂ h₂=>wpN_bind (wpN_mono h₂ fun f s₃ h₃=>?_)) fun _ _ h'=>h')
  induction f using PySem.Flow.casesOn with
  | next=>exact wpN_pure ⟨rfl,h₃⟩
  | cont=>exact wpN_pure ⟨rfl,h₃⟩
  | brk=>exact wpN_pure h₃
  | ret v=>exact wpN_pure h₃
theorem forN_cons {target:Expr}{body:List Stmt}{k:Sk}{pv:PV}{xs:List PV}{i:Nat}{x:PV}{Q:Fl→Vars→GHeap→Prop}(sr:Src C H k pv xs) (hx:xs[i]?=some x)
  (h:AsOk C n sc target x fr H fun fr1 H1=>ExN C n sc body fr1 H1 fun fl fr2 H2=>loopF (ForN C n sc target body k pv xs (i+1) fr2 H2 Q) (Q .next fr2 H2) (fun v=>Q (.ret v) fr2 H2) fl) :
  ForN C n sc target body k pv xs i fr H Q:=⟨fun A kp env s I hA S F it hk hH hf=>by
 refine forLoopN_turn (iter_item sr S it hk hH hx fun v s1 S1 K1 tx it1 e1=>owned_tuple it1 ?_)
 have S1':=S1.moreI hH
 refine h.next hA S1' (FrOk.moreI (F.over hf e1 K1) hf) tx fun _ s2 fr2 H2 S2 F2 q2=>wpN_mono (q2.run A _ env s2 hA S2 F2) fun f s3 b=>b.casesOn fun fl fr3 H3 S3 F3 t3 q3=>?_
 have S4:St C kp H3 s3:=S3.lessK (moreK_sub S1) S.base
 have F4:FrOk sc env kp H3 fr3 s3.heap:=F3.lessK (moreK_sub S1)
 obtain ⟨o,ho⟩:=it1.there
 have hkI:=moreK_at (kp:=kp) (x:=(· == I)) ho (beq_self_eq_true I)
 have go:=fun q3:ForN C n sc target body k pv xs (i+1) fr3 H3 Q=>ForN.run q3 A kp env s3 I hA S4 F4 (it1.keep (moreK_keep S3.kept) fun o' e=>S3.kept _ _ (moreK_at e (beq_self_eq_true I))) hk (S3.notHeld hkI) hf
 cases t3 with
 | brk=>exact ⟨_,rfl,.of S4 F4 .next q3⟩
 | ret t=>exact ⟨_,rfl,.of S4 F4 (.ret t) q3⟩
 | _=>exact go q3⟩
theorem stN_for {target iter:Expr}{body:List Stmt}{pos:Pos}{Q:Fl→Vars→GHeap→Prop}
  (h:EvOk C n sc iter fr H fun v H1=>∃k xs,Src C H1 k v xs∧xs.length<2^62∧ForN C n sc target body k v xs 0 fr H1 Q) (hs:∀env x,foldedSetIterable iter env x=pure x):SN C n sc (.For target iter body [] pos) fr H Q:=⟨fun A kp env s hA S F=>by
 rw [exec_For]
 exact wpN_standAt (wpN_bindA (h.next hA S F fun v s1 pv H1 S1 F1 t1 q=>q.elim fun k q=>q.elim fun xs q=>wpN_bindA (wpAny_of_eq (hs env v) (wpN_standAt (wpN_bindA (wpAny_holding (iter_start q.1 S1 t1 q.2.1 fun I h' hI hk it =>
  wpN_runOwn (codeN_mono (q.2.2.run A kp env _ I hA (S1.grow (t:=s1.toks) hk) (F1.grow hk) it (S1.fresh hI).2 (S1.fresh hI).1 (F1.fresh hI)) fun r s' z=>z)))))))) ⟩
end
end
section
noncomputable def fnScope (sc:Scope):Bool:=sc.names.all (fun x=>x.2 == .local||x.2 == .globalImplicit||x.2 == .cell)&&(sc.names.lookup ("__debug__" : Str)).isNone&&(sc.names.lookup ("__classdict__" : Str)).isNone&&(sc.names.lookup (".0" : Str)).isNone &&
 !sc.isCoroutine&&!sc.isGenerator&&sc.kind == .function
structure FnScope (sc:Scope):Prop where
 names:∀x∈sc.names,x.2=.local∨x.2=.globalImplicit∨x.2=.cell
 nd:sc.names.lookup ("__debug__" : Str)=none
 nc:sc.names.lookup ("__classdict__" : Str)=none
 nz:sc.names.lookup (".0" : Str)=none
 co:sc.isCoroutine=false
 gen:sc.isGenerator=false
 fn:sc.kind=.function
theorem fnScope_is {sc:Scope}(h:fnScope sc=true):FnScope sc:=by
 unfold fnScope at h
 simp only [Bool.and_eq_true,Bool.not_eq_true',List.all_eq_true,Bool.or_eq_true,beq_iff_eq,Option.isNone_iff_eq_none] at h
 obtain ⟨⟨⟨⟨⟨⟨h1,h2⟩,h3⟩,hz⟩,h4⟩,h5⟩,h6⟩:=h
 exact ⟨fun x hx=>(h1 x hx).elim (fun q=>q.elim .inl fun q=>.inr (.inl q)) fun q=>.inr (.inr q),h2,h3,hz,h4,h5,h6⟩
theorem cellsFrom_mono (names:List (Str×NameKind)):∀(n:Nat) (acc:List (Str×Addr)) {x:Str},(∃c,acc.lookup x=some c)→∃c,(cellsFrom n names acc).lookup x=some c:=by
 induction names with
 | nil=>exact fun _ _ _ h=>h
 | cons p r ih =>
  intro n acc x h
  unfold cellsFrom
  by_cases hc:(p.2 == .cell)=true
  ·rw [if_pos hc]
   refine ih _ _ ?_
   rw [List.lookup_cons]
   cases x == p.1 with
   | true=>exact ⟨n,rfl⟩
   | false=>exact h
  ·rw [if_neg hc]; exact ih _ _ h
theorem cellsFrom_has (names:List (Str×NameKind)):∀(n:Nat) (acc:List (Str×Addr)) {x:Str},(x,NameKind.cell)∈names→∃c,(cellsFrom n names acc).lookup x=some c:=by
 induction names with
 | nil=>exact fun _ _ _ h=>absurd h List.not_mem_nil
 | cons p r ih =>
  intro n acc x h
  unfold cellsFrom
  by_cases hc:(p.2 == .cell)=true
  ·rw [if_pos hc]
   exact (List.mem_cons.mp h).elim (fun e=>cellsFrom_mono r _ _ ⟨n,by rw [←e,List.lookup_cons,beq_self_eq_true]⟩) (ih _ _)
  ·rw [if_neg hc]
   exact (List.mem_cons.mp h).elim (fun e=>absurd (e▸(rfl:(NameKind.cell == NameKind.cell)=true)) hc) (ih _ _)
theorem bind_not (f:List (Str×Value)→(Str→Option Value)→Str→Option Value) (p:Str→Prop) [DecidablePred p] (h0:∀m,f [] m=m) (h1:∀y v r m,f ((y,v)::r) m=f r (if p y then fun x=>if x=y then some v else m x else m)) {x:Str}(l:List (Str×Value)):∀(m:Str→Option Value),x∉l.map (·.1)→f l m x=m x:=by
 induction l with
 | nil=>exact fun m _=>congrFun (h0 m) x
 | cons q r ih =>
  intro m h
  rw [List.map_cons,List.mem_cons,not_or] at h
  rw [h1,ih _ h.2]
  by_cases hp:p q.1
  ·rw [if_pos hp,if_neg h.1]
  ·rw [if_neg hp]
theorem bind_at (f:List (Str×Value)→(Str→Option Value)→Str→Option Value) (p:Str→Prop) [DecidablePred p] (h0:∀m,f [] m=m) (h1:∀y v r m,f ((y,v)::r) m=f r (if p y then fun x=>if x=y then some v else m x else m)) {x:Str}{v:Value}(hk:p x) (l:List (Str×Value)):∀(m:Str→Option Value),(l.map (·.1)).Nodup→l.lookup x=some v→f l m x=some v:=by
 induction l with
 | nil=>exact fun m _ h=>nomatch h
 | cons q r ih =>
  intro m hn h
  rw [List.map_cons,List.nodup_cons] at hn
  rw [List.lookup_cons] at h
  rw [h1]
  cases hb:x == q.1 with
  | true =>
   rw [hb] at h
   have e:=beq_iff_eq.mp hb
   rw [bind_not f p h0 h1 r _ (e▸hn.1),if_pos (e▸hk),if_pos e]
   exact h
  | false =>
   rw [hb] at h
   exact ih _ hn.2 h
theorem bindL_at (kindOf:Str→Option NameKind) (l:List (Str×Value)) (m:Str→Option Value) {x:Str}{v:Value}(hn:(l.map (·.1)).Nodup) (h:l.lookup x=some v) (hk:kindOf x=some .local):bindL kindOf l m x=some v :=
 bind_at (bindL kindOf) (fun y=>kindOf y=some .local) (fun _=>rfl) (fun _ _ _ _=>rfl) hk l m hn h
theorem bindC_at (kindOf:Str→Option NameKind) (l:List (Str×Value)) (m:Str→Option Value) {x:Str}{v:Value}(hn:(l.map (·.1)).Nodup) (h:l.lookup x=some v) (hk:kindOf x≠some .local):bindC kindOf l m x=some v :=
 bind_at (bindC kindOf) (fun y=>¬kindOf y=some .local) (fun _=>rfl) (fun y v r m=>congrArg (bindC kindOf r) (by by_cases h:kindOf y=some .local<;>simp [h])) hk l m hn h
section
variable {C:Cfg}{n:Nat}{H:GHeap}{Q:PV→GHeap→Prop}{args dx:List PV}{dv:List Value}{a:Addr}{oc:Value}{od:Option Addr}{osl:Array (Option Value)}{fd:FuncData}{body:List Stmt}{A:Around}{kp:Kp}{s:Shared}
theorem fn_frame (hK:C.K.lookup a=some ⟨oc,od,.func fd,osl⟩) (hcode:codeIn C.K fd.code fd.qualname=true) (hbody:fd.body=.stmts body) (hg:fd.globals=mainGlobals) (hbi:fd.builtins=builtinsNs) (hclo:fd.closure=[])
  (hsc:fnScope fd.scope=true) (hnd:(fd.params.args.map (·.arg)).Nodup) (hloc:(fd.params.args.map (·.arg)).all (fun x=>fd.scope.names.lookup x == some .local||fd.scope.names.lookup x == some .cell)=true)
  (hb:∀(s:Shared) (vs:List Value),C.K.In s.heap→vs.length=args.length→BindsTo s fd ⟨vs,[]⟩ ((fd.params.args.map (·.arg)).zip (vs++dv))) (hd:∀h,TellsL h dv dx)
  {vs:List Value}(hA:Rm (n+1) A) (S:St C kp H s) (ta:TellsL s.heap vs args) :
  wpAny (model C.prog C.w) A.in1 (callAny (.ref a) ⟨vs,[]⟩) (fun fin s'=>∃env,fin=.again (.func body env)∧St C kp H s'∧FrOk fd.scope env kp H ((fd.params.args.map (·.arg)).zip (args++dx)) s'.heap) noE s:=by
 have P:=fnScope_is hsc
 have ho:=S.K _ _ hK
 simp -iota only [callAny]
 refine wpAny_bind (wpAny_load ho ?_)
 refine byP fun PG kG=>?_
 obtain ⟨c,oc',vs',tq,hc,hoc,hdc,hq⟩:=codeRec_of S.K hcode
 refine kG ?_
 simp only [callFunction,P.co,P.gen,hbody]
 rw [hc]
 refine wpAny_bind (m:=field (.ref c) 1) (wpAny_field hoc hdc hq (wpAny_bind (wpAny_pure ?_)))
 refine wpAny_bind (hb s vs S.K ta.length _ _ _ _ ?_)
 rw [hclo]
 have hkind:∀x∈(fd.params.args.map (·.arg)).zip (vs++dv),fd.scope.names.lookup x.1=some .local∨(fd.scope.names.lookup x.1=some .cell∧((cellsFrom (s.heap.objs.size+1) fd.scope.names []).lookup x.1).isSome=true):=fun x hx=>by
  exact (Bool.or_eq_true_iff.mp (List.all_eq_true.mp hloc x.1 (List.of_mem_zip hx).1)).imp beq_iff_eq.mp fun q=>⟨beq_iff_eq.mp q,(cellsFrom_has fd.scope.names (s.heap.objs.size+1) [] (mem_of_lookup (beq_iff_eq.mp q))).elim fun c hc=>hc▸rfl⟩
 refine wpAny_bind (wpAny_newFunctionEnv_cells P.fn hkind fun env he s' x=>?_)
 refine byP fun PG kG=>?_
 obtain ⟨h',tk,es',hk⟩:=x.done
 refine kG ?_
 subst es'
 refine wpAny_bind (wpAny_enterFrame (S.nolim.keeps hk) (by have:=hA.d; show A.depth<recursionLimit; unfold recursionLimit; lia) (wpAny_pure ⟨env,rfl,S.grow hk,?_⟩))
 have T:TellsL h' (vs++dv) (args++dx):=(ta.keep (Keep.of_all hk)).append (hd h')
 have hL:env.locals=s.heap.objs.size:=by rw [he]; rfl
 have hscope:env.scope=fd.scope:=by rw [he]; rfl
 have hcells:env.cells=cellsFrom (s.heap.objs.size+1) fd.scope.names []:=by rw [he]; rfl
 have hcell:∀{y},fd.scope.names.lookup y=some .cell→∃c,env.cells.lookup y=some c:=fun l=>hcells▸cellsFrom_has fd.scope.names (s.heap.objs.size+1) [] (mem_of_lookup l)
 have hkindOf:∀y,env.kindOf y=fd.scope.names.lookup y:=fun y=>by unfold Env.kindOf; rw [hscope]
 have freshL:=S.fresh (a:=env.locals) (by rw [hL]; exact Nat.le_refl _)
 have above:∀y c,env.cells.lookup y=some c→s.heap.objs.size≤c∧c≠env.locals:=fun y c e=>by
  have:=x.above y c (mem_of_lookup e)
  exact ⟨by rw [←hL]; exact Nat.le_of_lt this,Nat.ne_of_gt this⟩
 refine ⟨hscope,by rw [he]; exact hg,by rw [he]; exact hbi,P.fn,P.nd,P.nc,⟨_,x.toInCall.ns,fun y v e l=>?_⟩,freshL.2,freshL.1,fun y v e l=>?_,fun y _ l=>?_,fun y c e=>⟨(S.fresh (above y c e).1).1,(above y c e).2,_,x.cell y c e⟩⟩
 ·obtain ⟨w,e',t⟩:=lookup_zip T e
  exact ⟨w,bindL_at _ _ _ (zip_names hnd) e' ((hkindOf y).trans l),t⟩
 ·have l':fd.scope.names.lookup y=some .cell:=l.elim id fun l=>(P.names _ (mem_of_lookup l)).elim (fun q=>nomatch q) fun q=>q.elim (fun q=>nomatch q) fun q=>nomatch q
  refine byP fun PG kG=>?_
  obtain ⟨w,e',t⟩:=lookup_zip T e
  obtain ⟨c,hc⟩:=hcell l'
  refine kG ?_
  have hi:=x.cell y c hc
  rw [bindC_at _ _ _ (zip_names hnd) e' (by rw [hkindOf,l']; exact fun z=>by cases z)] at hi
  exact ⟨c,w,hc,hi,t⟩
 ·obtain ⟨c,hc⟩:=hcell l
  exact ⟨c,_,hc,x.cell y c hc,(S.fresh (above y c hc).1).2,fun z hz=>name_of_addr x.apart (mem_of_lookup hz) (mem_of_lookup hc)⟩
theorem call_fc (hK:C.K.lookup a=some ⟨oc,od,.func fd,osl⟩) (hcode:codeIn C.K fd.code fd.qualname=true) (hbody:fd.body=.stmts body) (hg:fd.globals=mainGlobals) (hbi:fd.builtins=builtinsNs) (hclo:fd.closure=[])
  (hsc:fnScope fd.scope=true) (hnd:(fd.params.args.map (·.arg)).Nodup) (hloc:(fd.params.args.map (·.arg)).all (fun x=>fd.scope.names.lookup x == some .local||fd.scope.names.lookup x == some .cell)=true)
  (hb:∀(s:Shared) (vs:List Value),C.K.In s.heap→vs.length=args.length→BindsTo s fd ⟨vs,[]⟩ ((fd.params.args.map (·.arg)).zip (vs++dv))) (hd:∀h,TellsL h dv dx)
  (h:ExOk C n fd.scope body ((fd.params.args.map (·.arg)).zip (args++dx)) H fun fl _ H'=>Q (flv fl) H'):CodeOk C (n+1) (.ref a) args H Q:=⟨fun A kp s v vs hA S tv ta=>by
 obtain rfl:=tv.inv
 refine codeAny_of_tree ?_
 refine wpAny_mono (fn_frame hK hcode hbody hg hbi hclo hsc hnd hloc hb hd hA S ta) (fun fin s' z=>?_) fun _ _ x=>x.elim
 obtain ⟨env,rfl,S',F⟩:=z
 exact ⟨rfl,codeAny_func (wpAny_mono (h.run _ kp _ _ (hA.deeper _) S' F) (fun f s'' z=>z.casesOn fun fl fr' H' S'' F'' t q=>⟨_,rfl,_,H',S'',t.val,q⟩) fun _ _ x=>x.elim)⟩⟩
theorem call_fcN (hK:C.K.lookup a=some ⟨oc,od,.func fd,osl⟩) (hcode:codeIn C.K fd.code fd.qualname=true) (hbody:fd.body=.stmts body) (hg:fd.globals=mainGlobals) (hbi:fd.builtins=builtinsNs) (hclo:fd.closure=[])
  (hsc:fnScope fd.scope=true) (hnd:(fd.params.args.map (·.arg)).Nodup) (hloc:(fd.params.args.map (·.arg)).all (fun x=>fd.scope.names.lookup x == some .local||fd.scope.names.lookup x == some .cell)=true)
  (hb:∀(s:Shared) (vs:List Value),C.K.In s.heap→vs.length=args.length→BindsTo s fd ⟨vs,[]⟩ ((fd.params.args.map (·.arg)).zip (vs++dv))) (hd:∀h,TellsL h dv dx)
  (h:ExN C n fd.scope body ((fd.params.args.map (·.arg)).zip (args++dx)) H fun fl _ H'=>Q (flv fl) H'):CodeN C (n+1) (.ref a) args H Q:=⟨fun A kp s v vs hA S tv ta=>by
 obtain rfl:=tv.inv
 refine codeN_of_tree (fun _ _=>rfl) ?_
 refine wpN_of_any (wpAny_mono (fn_frame hK hcode hbody hg hbi hclo hsc hnd hloc hb hd hA S ta) (fun fin s' z=>?_) fun _ _ x=>x.elim)
 obtain ⟨env,rfl,S',F⟩:=z
 refine ⟨rfl,codeN_of_tree (fun _ _=>rfl) ?_⟩
 refine wpN_bindA (wpAny_point (wpN_bind (wpN_onRaise (wpN_mono (h.run _ kp _ _ (hA.deeper _) S' F) fun f s'' z=>z.casesOn fun fl fr' H' S'' F'' t q=>?_))))
 have fin:∃u,(Except.ok (Flow.ret (match (generalizing:=false) f with | .ret v=>v | _=>Value.none)):Result)=.ok (.ret u)∧BackV C kp Q u s'':=⟨_,rfl,_,H',S'',t.val,q⟩
 cases f<;>exact wpN_pure fin⟩
end
end
end Mine
end
section
set_option maxRecDepth 100000
set_option maxHeartbeats 4000000
open PySem PySem.Spec PySem.Calls PyProof.Rows PySem.W
namespace Mine
section
theorem den_builtin (prog:Program) (w:World) (id:String) (args:Args):(model prog w).den (.builtin id args)=(match entryFor table id with | some b=>b args | none=>unsupported ((withoutEnding? id "#data").getD id)):=rfl
theorem den_call (prog:Program) (w:World) (f:Value) (args:Args):(model prog w).den (.call f args)=callAny f args:=rfl
theorem callAny_builtin (id:String) (args:Args):callAny (.builtin id) args=(do checkBuiltinCall id args; again (.builtin id args)):=rfl
theorem calm_tc (a:Value) (r:List Value) (kw:List (Str×Value)):calmCode (.builtin "type.__call__" ⟨a::r,kw⟩):=fun v p=>by
 induction r using List.casesOn with
 | nil=>exact Bool.and_false _
 | cons b r=>cases r<;>exact Bool.and_false _
theorem wpN_ifF {α:Type}{M:Model}{A:Around}{s:Shared}{Q:α→Shared→Prop}{c:Prop} [Decidable c] {t e:Sem α}(h:¬c) (k:wpN M A e Q s):wpN M A (if c then t else e) Q s:=by rw [if_neg h]; exact k
theorem wpAny_ifF {α:Type}{M:Model}{A:Around}{s:Shared}{Q:α→Shared→Prop}{E:Value→Shared→Prop}{c:Prop} [Decidable c] {t e:Sem α}(h:¬c) (k:wpAny M A e Q E s):wpAny M A (if c then t else e) Q E s:=by rw [if_neg h]; exact k
section
variable {prog:Program}{w:World}{A:Around}{Cl:Addr}{R:Result→Shared→Prop}{h:Heap}{g:Array GenState}{d:Drawn}{t:Nat}{os:OsState}
theorem makeN_core {rest:List Value}{init:Value}(Y:Makes (model prog w) h Cl) (hi:Looks (model prog w) h (typeLookup (.ref Cl) "__init__") (some init))
  (hb:∀self,Looks (model prog w) h (bindSpecial init self) (init,[self])) (hne:(some init != some (Value.builtin "object.__init__"))=true)
  (hq:codeN (model prog w) (A.under (.builtin "type.__call__" ⟨.ref Cl::rest,[]⟩)) (.call init ⟨.ref (h.objs.size+1)::rest,[]⟩) (fun r s'=>∃v,r=.ok (.ret v)∧v=.none∧R (.ok (.ret (.ref (h.objs.size+1)))) s') ⟨(h.push emptyDict).push (instObj Cl h.objs.size),g,d,t,os⟩) :
  codeN (model prog w) A (.call (.ref Cl) ⟨rest,[]⟩) R ⟨h,g,d,t,os⟩:=by
 have Y':=Y
 refine byP fun PG kG=>?_
 obtain ⟨⟨oc,od,cd,sl,hC,e1,e2,e4⟩,made,base,self,top,call,typ⟩:=Y
 refine kG ?_
 refine codeN_of_tree (fun _ _=>rfl) ?_
 show wpN _ _ (callAny (.ref Cl) _) _ _
 refine wpN_of_any ?_
 refine nd_load hC ?_
 show wpAny _ _ (callAny.viaDunder (.ref Cl) _) _ _ _
 unfold callAny.viaDunder
 refine wpAny_bind (call.at ?_)
 dsimp only
 rw [tc_bind]
 refine wpAny_bind (wpAny_pure (wpAny_bind (wpAny_pure ?_)))
 refine wpAny_pure (a:=Fin.again (.call (.builtin "type.__call__") ⟨.ref Cl::rest,[]⟩)) (And.intro rfl ?_)
 refine codeN_of_tree (fun _ _=>rfl) ?_
 rw [den_call,callAny_builtin]
 refine wpN_of_any (wpAny_bind (check_slot tc_kind tc_split typ (tc_args _ _ _) (wpAny_pure ⟨Code.quiet_builtin _ (by decide +kernel),?_⟩)))
 refine codeN_of_tree (calm_tc _ _ _) ?_
 rw [den_builtin,entry_typeCall]
 dsimp only
 unfold Builtin.«type.__call__»
 dsimp only
 refine wpN_ifF (show ¬((Value.ref Cl == Value.type "type")=true) from Bool.false_ne_true) ?_
 have hm:Looks (model prog w) h (mroOf (.ref Cl)) cd.mro:=((Looks.ld (part:=none) hC).andThen .now).andThen .now
 with_reducible refine wpN_bindA (hm.at ?_)
 refine wpN_ifF (by rw [e4]; exact Bool.false_ne_true) ?_
 with_reducible refine wpN_bindA (made.at ?_)
 refine wpN_bindA (wpAny_pure ?_)
 with_reducible refine wpN_bindA (wpAny_holding (wpAny_call ?_))
 refine new_K Y' hi (.inl hne) ?_
 have k:∀b o,h.get? b=some o→((h.push emptyDict).push (instObj Cl h.objs.size)).get? b=some o:=fun b o e=>Heap.get?_push_of_some _ (Heap.get?_push_of_some _ e)
 have hx:((h.push emptyDict).push (instObj Cl h.objs.size)).get? (h.objs.size+1)=some (instObj Cl h.objs.size):=by heap_get
 have t1:Looks (model prog w) ((h.push emptyDict).push (instObj Cl h.objs.size)) (typeOf (.ref (h.objs.size+1))) (.ref Cl):=(Looks.ld hx).andThen .now
 have s1:=self.keeps k
 have i1:=hi.keeps k
 have b1:=(hb (.ref (h.objs.size+1))).keeps k
 have isi:Looks (model prog w) ((h.push emptyDict).push (instObj Cl h.objs.size)) (isInstance (.ref (h.objs.size+1)) (.ref Cl)) true:=t1.andThen s1
 have spec:Looks (model prog w) ((h.push emptyDict).push (instObj Cl h.objs.size)) (specialOf (.ref (h.objs.size+1)) "__init__") (some init):=t1.andThen i1
 with_reducible refine wpN_bindA (isi.at ?_)
 refine wpN_ifF Bool.false_ne_true ?_
 refine wpN_bind (wpN_holding ?_)
 unfold callSpecial?
 refine wpN_bindA (spec.at (wpN_holding (wpN_bindA (b1.at (wpN_bind (wpN_call (codeN_mono hq fun r s' z=>z.imp fun v z=>⟨z.1,wpN_pure ?_⟩)))))))
 rw [z.2.1]
 exact wpN_ifF Bool.false_ne_true (wpN_pure z.2.2)
end
section
variable {C:Cfg}{n:Nat}{H:GHeap}{Q:PV→GHeap→Prop}{A:Around}{kp:Kp}{s:Shared}
structure Makeable (C:Cfg) (cl fI:Addr):Prop where
 makes:makesIn C.K cl=true
 init:findIn C.K (.ref cl) "__init__" = some (some (.ref fI))
 fn:typeIn C.K (.ref fI)=some (.type "function")
theorem Rm.make {A:Around}(x:Rm (n+1) A) (cl:Addr) (vs:List Value):Rm n (A.under (.builtin "type.__call__" ⟨.ref cl::vs,[]⟩)):=by
 refine ⟨x.h,?_,?_⟩
 ·have:=x.d; show A.depth+1+10*n≤800; lia
 ·have:=x.u; show A.units+1+100*n≤9000; lia
theorem made_St (S:St C kp H s) (cl:Addr):H s.heap.objs.size=none∧(H.set s.heap.objs.size (.sdict [])) (s.heap.objs.size+1)=none ∧
  St C kp ((H.set s.heap.objs.size (.sdict [])).set (s.heap.objs.size+1) (.inst cl s.heap.objs.size)) {s with heap:=(s.heap.push emptyDict).push (instObj cl s.heap.objs.size),toks:=s.toks}:=by
 have S1:St C kp (H.set s.heap.objs.size (.sdict [])) {s with heap:=s.heap.push emptyDict,toks:=s.toks} :=
  S.new (Nat.le_refl _) (push_old _) (g':=.sdict []) ⟨[],⟨_,#[],0,Heap.get?_push_size _ rfl,⟨rfl,rfl,rfl⟩,rfl,fun e he=>absurd he (Array.not_mem_empty _),.nil,List.nodup_nil⟩,.nil⟩
 have sz:(s.heap.push emptyDict).objs.size=s.heap.objs.size+1:=Heap.size_push ..
 have S2:=S1.new (t:=s.toks) (a:=s.heap.objs.size+1) (h':=(s.heap.push emptyDict).push (instObj cl s.heap.objs.size)) (by rw [←sz]; exact Nat.le_refl _) (push_old _) (g':=.inst cl s.heap.objs.size) (by
  show ((s.heap.push emptyDict).push (instObj cl s.heap.objs.size)).get? (s.heap.objs.size+1)=_
  rw [←sz]; exact Heap.get?_push_size _ rfl)
 refine ⟨(S.fresh (Nat.le_refl _)).1,?_,S2⟩
 exact (S1.fresh (a:=s.heap.objs.size+1) (by rw [←sz]; exact Nat.le_refl _)).1
theorem call_class {cl fI:Addr}{args:List PV}(m:Makeable C cl fI)
  (h:∀x dx,H dx=none→(H.set dx (.sdict [])) x=none→CodeOk C n (.ref fI) (.ref x::args) ((H.set dx (.sdict [])).set x (.inst cl dx)) fun v H'=>v=.none∧Q (.ref x) H'):CodeOk C (n+1) (.ref cl) args H Q:=⟨fun A kp s v vs hA S tv ta=>by
 obtain rfl:=tv.inv
 obtain ⟨hh,g,d,t,os⟩:=s
 obtain ⟨f1,f2,S2⟩:=made_St S cl
 refine make_core (makes_of S.K m.makes) (looks_findIn S.K m.init) (fun self=>bind_fn S.K self m.fn) (.inl rfl) ?_
 refine codeAny_mono ((h _ _ f1 f2).run _ kp _ (.ref fI) (.ref (hh.objs.size+1)::vs) (hA.make cl vs) S2 (.ref _) (.cons (.ref _) (ta.keep (Keep.of_all fun b o e=>push_old _ b o (push_old _ b o e))))) fun r s' z=>?_
 obtain ⟨u,rfl,x,H',S',tx,rfl,q⟩:=z
 obtain rfl:=tx.inv
 exact ⟨rfl,_,rfl,_,H',S',.ref _,q⟩⟩
theorem call_classN {cl fI:Addr}{args:List PV}(m:Makeable C cl fI)
  (h:∀x dx,H dx=none→(H.set dx (.sdict [])) x=none→CodeN C n (.ref fI) (.ref x::args) ((H.set dx (.sdict [])).set x (.inst cl dx)) fun v H'=>v=.none∧Q (.ref x) H'):CodeN C (n+1) (.ref cl) args H Q:=⟨fun A kp s v vs hA S tv ta=>by
 obtain rfl:=tv.inv
 obtain ⟨hh,g,d,t,os⟩:=s
 obtain ⟨f1,f2,S2⟩:=made_St S cl
 refine makeN_core (makes_of S.K m.makes) (looks_findIn S.K m.init) (fun self=>bind_fn S.K self m.fn) rfl ?_
 refine codeN_mono ((h _ _ f1 f2).run _ kp _ (.ref fI) (.ref (hh.objs.size+1)::vs) (hA.make cl vs) S2 (.ref _) (.cons (.ref _) (ta.keep (Keep.of_all fun b o e=>push_old _ b o (push_old _ b o e))))) fun r s' z=>?_
 obtain ⟨u,rfl,x,H',S',tx,rfl,q⟩:=z
 obtain rfl:=tx.inv
 exact ⟨_,rfl,rfl,_,rfl,_,H',S',.ref _,q⟩⟩
end
end
section
theorem ba_mro:mroOf (.type "bytearray")=pure [.type "bytearray",.type "object"]:=by rw [mroOf_type]; kernel_rfl
theorem ba_lookup_new:typeLookup (.type "bytearray") "__new__" = pure (some (.builtin "bytearray.__new__")):=by rw [typeLookup_type,builtinLookup_eq_fast]; kernel_rfl
theorem ba_slot_init:Slot "bytearray" "__init__" "bytearray.__init__" :=
 .of (owner := "bytearray") (n := "__init__") (by rw [typeLookup_type,builtinLookup_eq_fast]; kernel_rfl) (by decide +kernel) (by decide +kernel) (by decide +kernel)
  (by first | exact .inl (by decide +kernel) | exact .inr (by decide +kernel)) (by rw [isSubtype_type]; kernel_rfl)
theorem ba_called:TypeCalled "bytearray" "bytearray.__new__" "bytearray.__init__" :=
 ⟨by decide +kernel,by decide +kernel,⟨_,_,ba_mro⟩,madeBy_type ba_mro ba_lookup_new (by decide +kernel),by decide +kernel,by rw [isSubtype_type]; kernel_rfl,ba_slot_init⟩
theorem ba_typeCall (a:Value):checkTypeCall "bytearray" ⟨[a],[]⟩=pure ():=by kernel_rfl
theorem ba_newCall (a:Value):checkBuiltinCall "bytearray.__new__" ⟨[.type "bytearray",a],[]⟩=pure ():=by kernel_rfl
theorem ba_entry_new:entryFor table "bytearray.__new__" = some Builtin.«list.__new__»:=entryFor_alias (id' := "list.__new__") (by kernel_rfl) rfl (by decide +kernel) (by kernel_rfl)
theorem ba_plain_new:plainId "bytearray.__new__" = true:=by decide +kernel
theorem ba_entry_init:entryFor table "bytearray.__init__" = some Builtin.«bytearray.__init__»:=by first | exact entryFor_of_fast (by kernel_rfl) | exact entryFor_of_tree (by kernel_rfl)
theorem ba_plain_init:plainId "bytearray.__init__" = true:=by decide +kernel
theorem ba_args_init (a b:Value):argsOk "bytearray.__init__" ⟨[a,b],[]⟩:=by unfold argsOk; kernel_rfl
theorem ba_bind (v:Value):Builtin.Bytes.bindOptional "bytearray.__init__" "bytearray" ["source", "encoding", "errors"] [v] []=pure [some v,none,none]:=by kernel_rfl
theorem ba_release:typeLookup (.type "bytearray") "__release_buffer__" = pure (some (.builtin "bytearray.__release_buffer__")):=by rw [typeLookup_type,builtinLookup_eq_fast]; kernel_rfl
theorem by_release:typeLookup (.type "bytes") "__release_buffer__" = pure none:=by rw [typeLookup_type,builtinLookup_eq_fast]; kernel_rfl
theorem by_buffer:typeLookup (.type "bytes") "__buffer__" = pure (some (.builtin "bytes.__buffer__")):=by rw [typeLookup_type,builtinLookup_eq_fast]; kernel_rfl
theorem by_index:typeLookup (.type "bytes") "__index__" = pure none:=by rw [typeLookup_type,builtinLookup_eq_fast]; kernel_rfl
theorem ba_sub:isSubtype (.type "bytearray") (.type "bytearray")=pure true:=by rw [isSubtype_type]; kernel_rfl
theorem by_sub:isSubtype (.type "bytes") (.type "bytes")=pure true:=by rw [isSubtype_type]; kernel_rfl
set_option maxRecDepth 1000000 in
theorem ba_owner:("bytearray.__new__".splitOn ".__new__").headD "" = "bytearray" := by rw [split_bytearray]; rfl
theorem ba_drop:("bytearray.__release_buffer__".dropRight ("__release_buffer__".length+1)) = "bytearray" := by decide +kernel
theorem ba_ends:("bytearray.__release_buffer__".endsWith ("." ++ "__release_buffer__"))=true:=by decide +kernel
theorem by_drop:("bytes.__buffer__".dropRight ("__buffer__".length+1)) = "bytes" := by decide +kernel
theorem by_ends:("bytes.__buffer__".endsWith ("." ++ "__buffer__"))=true:=by decide +kernel
section
variable {prog:Program}{w:World}{A:Around}{E:Value→Shared→Prop}{s:Shared}
theorem code_ba_new (a:Value) {Q₁:Value→Shared→Prop}
  (h:Q₁ (.ref s.heap.objs.size) {s with heap:=s.heap.push {cls:=.type "bytearray",data:=.bytearray #[]}}) :
  codeAny (model prog w) A (.call (.builtin "bytearray.__new__") ⟨[.type "bytearray",a],[]⟩) (wants Q₁ E) s:=by
 refine codeAny_of_tree ?_
 rw [den_call,callAny_builtin]
 have step:codeAny (model prog w) A (.builtin "bytearray.__new__" ⟨[.type "bytearray",a],[]⟩) (wants Q₁ E) s:=by
  refine codeAny_builtin_stack ba_entry_new rfl fun p st=>?_
  rw [Around.under_plainId ba_plain_new _]
  have hsub:=ba_sub
  have hown:=ba_owner
  obtain ⟨hp,g,d,tk,os⟩:=s
  simp only [hown]
  wp_walk
  exact h
 exact wpAny_bind (wpAny_of_eq (ba_newCall a) (wpAny_pure ⟨plainId_quiet ba_plain_new _,step⟩))
end
section
variable {prog:Program}{w:World}{A:Around}{s:Shared}
theorem ba_ownRelease {a:Addr}{Q:Bool→Shared→Prop}{E:Value→Shared→Prop}(hT:s.TypeIs (.ref a) "bytearray") (q:Q false s):wpAny (model prog w) A (Builtin.Bytes.ownRelease (.ref a)) Q E s:=by
 unfold Builtin.Bytes.ownRelease Builtin.Bytes.slotIsOwn
 refine wpAny_bind (wpAny_bind (wpAny_specialOf hT ba_release ?_))
 refine wpAny_ifF (by rw [ba_ends]; exact Bool.false_ne_true) ?_
 rw [ba_drop]
 exact wpAny_isInstance hT ba_sub (wpAny_pure q)
theorem by_ownRelease {b:Array UInt8}{t:Tok}{Q:Bool→Shared→Prop}{E:Value→Shared→Prop}(q:Q false s):wpAny (model prog w) A (Builtin.Bytes.ownRelease (.bytes b t)) Q E s:=by
 unfold Builtin.Bytes.ownRelease Builtin.Bytes.slotIsOwn
 refine wpAny_bind (wpAny_bind (wpAny_specialOf (typeIs_bytes _ _ _) by_release ?_))
 exact wpAny_pure (wpAny_pure q)
theorem by_buffer? {b:Array UInt8}{t:Tok}{Q:Option (Array UInt8)→Shared→Prop}{E:Value→Shared→Prop}(q:Q (some b) s):wpAny (model prog w) A (Builtin.Bytes.buffer? "bytearray.__init__" (.bytes b t) (full:=true)) Q E s:=by
 unfold Builtin.Bytes.buffer?
 refine wpAny_bind (wpAny_specialOf (typeIs_bytes _ _ _) by_buffer (wpAny_bind ?_))
 unfold Builtin.Bytes.slotIsOwn
 refine wpAny_bind (wpAny_specialOf (typeIs_bytes _ _ _) by_buffer ?_)
 refine wpAny_ifF (by rw [by_ends]; exact Bool.false_ne_true) ?_
 rw [by_drop]
 refine wpAny_isInstance (typeIs_bytes _ _ _) by_sub (wpAny_ifF Bool.false_ne_true (wpAny_bind (wpAny_specialOf (typeIs_bytes _ _ _) by_buffer (wpAny_bind (by_ownRelease (wpAny_ifF Bool.false_ne_true (wpAny_bind ?_)))))))
 exact wpAny_bind (wpAny_pure (wpAny_pure (wpAny_pure q)))
theorem exported_calm {a:Addr}{Q:Bool→Shared→Prop}(q:Q false s):wpN (model prog w) A (Builtin.Bytes.exported (.ref a)) Q s:=fun Γ p hΓ hc=>by
 rw [(heldF (.ref a)).2,Sem.wp_bind']
 unfold stack
 rw [Sem.wp_stack]
 have e:((Γ.code,p)::Γ.below).any (heldF (.ref a)).1=false:=List.any_eq_false.mpr fun x hx=>by
  rw [(List.mem_cons.mp hx).elim (fun e=>e▸hc.1 _ _) fun hx=>hc.2 x hx _ _]
  exact Bool.false_ne_true
 show Q _ _
 rw [e]
 exact q
end
end
section
section
variable {prog:Program}{w:World}{A:Around}{s:Shared}
theorem ba_write {a:Addr}{b₀:Array UInt8}{f:Array UInt8→Array UInt8}{Q:Unit→Shared→Prop}{E:Value→Shared→Prop}(hb:IsBarr s.heap a b₀) (hz:(f b₀).size≤1000)
  (q:∀h',IsBarr h' a (f b₀)→Heap.SameBut a s.heap h'→Q () {s with heap:=h'}):wpAny (model prog w) A (Builtin.Bytes.write (.ref a) f) Q E s:=by
 unfold Builtin.Bytes.write updateBytearray
 dsimp only
 refine wpAny_bind (wpAny_load hb ?_)
 dsimp only
 have hg:(s.heap.update a (Obj.mapBytearray f)).get? a=some {cls:=.type "bytearray",data:=.bytearray (f b₀)}:=Heap.get?_update_self _ hb rfl
 refine wpAny_bind (wpAny_update hb ?_)
 refine wpAny_lookBehind (s:={s with heap:=s.heap.update a (Obj.mapBytearray f)}) hg ?_ (q _ hg (Heap.SameBut.update ..))
 unfold Data.pastItsLine
 dsimp only
 rw [if_neg (by rw [sizeLine_eq]; lia)]
theorem codec_none (id fname which:String):Builtin.Bytes.checkCodecArg id fname which none=pure ():=rfl
theorem asStr_bytes (b:Array UInt8) (t:Tok):asStr? (.bytes b t)=pure none:=rfl
theorem ba_init {a:Addr}{b:Array UInt8}{t:Tok}{Q:Fin→Shared→Prop}(hb:IsBarr s.heap a #[]) (hz:b.size≤1000)
  (q:∀h',IsBarr h' a b→Heap.SameBut a s.heap h'→Q (.done (.ret .none)) {s with heap:=h'}):wpN (model prog w) A (Builtin.«bytearray.__init__» ⟨[.ref a,.bytes b t],[]⟩) Q s:=by
 have hT:s.TypeIs (.ref a) "bytearray" := ⟨_,hb,rfl⟩
 unfold Builtin.«bytearray.__init__»
 refine wpN_bindA (ba_ownRelease hT (wpN_ifF Bool.false_ne_true ?_))
 rw [ba_bind]
 refine wpN_bindA (wpAny_pure (wpN_bindA (wpAny_pure (wpN_bindA (wpAny_pure (wpN_bind ?_))))))
 unfold orM
 refine wpN_bind (exported_calm ?_)
 show wpN _ _ (Builtin.Bytes.exportsOf (.ref a)>>=fun n=>pure (decide (n>0))) _ _
 unfold Builtin.Bytes.exportsOf
 refine wpN_of_any (wpAny_bind (wpAny_bind (wpAny_load hb (wpAny_pure (wpAny_pure ?_)))))
 refine wpN_ifF Bool.false_ne_true (wpN_bindA (ba_write hb (Nat.zero_le _) fun h1 hb1 hs1=>wpN_bindA (wpAny_pure (wpN_ifF Bool.false_ne_true (wpN_bindA (wpAny_pure (wpN_bindA (wpAny_specialOf (typeIs_bytes _ _ _) by_index (wpN_ifF Bool.false_ne_true (wpN_bindA (by_buffer? ?_)))))))))))
 exact wpN_bindA (wpAny_rule (wpN_bindA (ba_write (s:={s with heap:=h1}) hb1 hz fun h2 hb2 hs2=>wpN_pure (q _ hb2 (hs1.trans hs2)))))
end
end
section
theorem callAny_type (T:String) (args:Args):callAny (.type T) args=again (.builtin "type.__call__" ⟨.type T::args.pos,args.kw⟩):=rfl
section
variable {prog:Program}{w:World}{A:Around}{s:Shared}
theorem callN_bytearray {b:Array UInt8}{t:Tok}{Q:Value→Shared→Prop}(hz:b.size≤1000)
  (q:∀h',IsBarr h' s.heap.objs.size b→(∀c o,s.heap.get? c=some o→h'.get? c=some o)→Q (.ref s.heap.objs.size) {s with heap:=h'}):wpN (model prog w) A (PySem.call (.type "bytearray") [.bytes b t]) Q s:=by
 refine wpN_call (codeN_of_tree (fun _ _=>rfl) ?_)
 rw [den_call,callAny_type]
 refine wpN_of_any (wpAny_pure ⟨Code.quiet_builtin _ (by decide +kernel),?_⟩)
 refine codeN_of_tree (calm_tc _ _ _) ?_
 rw [den_builtin,entry_typeCall]
 dsimp only
 rw [Around.under_plain (weight_type_call_type "bytearray" [.bytes b t] []) rfl]
 unfold Builtin.«type.__call__»
 refine wpN_ifF (by rw [ba_called.notType]; exact Bool.false_ne_true) (wpN_ifF (by rw [ba_called.canCreate]; exact Bool.false_ne_true) ?_)
 rw [ba_typeCall,ba_mro]
 refine wpN_bindA (wpAny_pure (wpN_bindA (wpAny_pure (wpN_ifF Bool.false_ne_true ?_))))
 rw [ba_called.made]
 refine wpN_bindA (wpAny_pure (wpN_bindA (wpAny_pure (wpN_bindA (wpAny_holding (wpAny_call ?_))))))
 have new:=code_ba_new (prog:=prog) (w:=w) (A:=A.in1) (s:=s) (E:=noE) (.bytes b t) (Q₁:=fun v s'=>v=.ref s.heap.objs.size∧s'={s with heap:=s.heap.push {cls:=.type "bytearray",data:=.bytearray #[]}}) ⟨rfl,rfl⟩
 refine codeAny_mono new fun r s1 hr=>?_
 rcases r with e | (v | _ | _ | _)
 ·exact hr.elim
 ·exact hr.elim
 ·exact hr.elim
 ·exact hr.elim
 obtain ⟨rfl,rfl⟩:=hr
 have hb:IsBarr (s.heap.push {cls:=.type "bytearray",data:=.bytearray #[]}) s.heap.objs.size #[]:=Heap.get?_push_size _ rfl
 have hT:({s with heap:=s.heap.push {cls:=.type "bytearray",data:=.bytearray #[]}}:Shared).TypeIs (.ref s.heap.objs.size) "bytearray" := ⟨_,hb,rfl⟩
 refine wpN_bindA (wpAny_isInstance hT ba_sub (wpN_ifF Bool.false_ne_true (wpN_bind (wpN_holding ?_))))
 unfold callSpecial?
 refine wpN_bindA (wpAny_specialOf hT ba_slot_init.lookup ?_)
 dsimp only
 rw [ba_slot_init.bind]
 refine wpN_holding (wpN_bindA (wpAny_pure (wpN_bind (wpN_call (codeN_of_tree (fun _ _=>rfl) ?_)))))
 rw [den_call,callAny_builtin]
 have chk:=ba_slot_init.check (model prog w) (A.in1.under (.call (.builtin "bytearray.__init__") ⟨[.ref s.heap.objs.size]++[.bytes b t],[]⟩)) noE _ (.ref s.heap.objs.size) [.bytes b t] []
  (fun _ s'=>s'={s with heap:=s.heap.push {cls:=.type "bytearray",data:=.bytearray #[]}}) hT (ba_args_init _ _) rfl
 refine wpN_bindA (wpAny_mono chk (fun _ s2 e2=>?_) fun _ _ x=>x)
 subst e2
 refine wpN_pure ⟨plainId_quiet ba_plain_init _,codeN_of_tree (fun _ _=>Bool.and_false _) ?_⟩
 rw [den_builtin,ba_entry_init]
 exact ba_init (s:={s with heap:=s.heap.push {cls:=.type "bytearray",data:=.bytearray #[]}}) hb hz fun h' hb' hs' =>
  ⟨_,rfl,wpN_pure (wpN_ifF Bool.false_ne_true (wpN_pure ⟨_,rfl,q h' hb' fun c o e=>(hs'.2 c (Nat.ne_of_lt (Heap.lt_size e))).trans (Heap.get?_push_of_some _ e)⟩))⟩
end
section
variable {C:Cfg}{n:Nat}{H:GHeap}{Q:PV→GHeap→Prop}
theorem c_bytearray {b:Array UInt8}(hz:b.size≤1000) (q:∀a,H a=none→Q (.ref a) (H.set a (.barr b))):CallN C n (.val (.type "bytearray")) [.bytes b] H Q:=⟨fun A kp s v vs hA S tv ta=>by
 obtain rfl:=tv.inv
 obtain ⟨v1,_,rfl,t1,ta⟩:=ta.inv
 obtain rfl:=ta.inv
 obtain ⟨_,rfl⟩:=t1.inv
 exact callN_bytearray hz fun h' hb hk=>BackV.of (S.new (t:=s.toks) (Nat.le_refl _) hk (g':=.barr b) hb) (.ref _) (q _ (S.fresh (Nat.le_refl _)).1)⟩
end
end
end Mine
end
section
set_option maxRecDepth 100000
namespace Mine
noncomputable def metAt (i j:Nat):Stmt:=match stAt i with
 | .ClassDef _ _ _ b _ _ _ _ _ _ _=>(b[j]?).getD (.Pass ⟨0,0,0,0⟩)
 | _=>.Pass ⟨0,0,0,0⟩
noncomputable def fnOf (st:Stmt) (q:Str) (dflt mod code:Value):FuncData:=match st with
 | .FunctionDef n ps b _ _ _ sc _ _ _=>{name:=n,qualname:=q,params:=ps,body:=.stmts b,scope:=sc,globals:=3,closure:=[],defaults:=dflt,kwdefaults:=.none,doc:=.none,pyModule:=mod,annotations:=none,code:=code,closureTuple:=.none,builtins:=0}
 | _=>default
noncomputable def cdO (nm qn:String) (t l n u:Nat) (a b c d e:Value):Obj:=⟨.type "code",none,.fields #[.str (Str.ofString nm) t,.str (Str.ofString qn) (t+1),.str (Str.ofString "/claim/cut.py") (t+2),.int (Int.ofNat l) 0,.int (Int.ofNat n) 0,.int 0 0,.int 0 0,.int 3 0,a,.bool true,.int 181 0,b,.none,c,d,e,.int (Int.ofNat u) 0,.int (Int.ofNat l) 0,.str (Str.ofString "/claim/cut.py") (u+1)],#[]⟩
noncomputable def cdA (k:Nat) (nm qn:String) (t l n u:Nat):Obj:=cdO nm qn t l n u (.ref (k-5)) (.ref (k-4)) (.ref (k-3)) (.ref (k-2)) (.ref (k-1))
noncomputable def cdB (k:Nat) (nm qn:String) (t l n u:Nat):Obj:=cdO nm qn t l n u (.ref (k-3)) (.ref (k-2)) .none .none (.ref (k-1))
noncomputable def fnE (st:Stmt) (q:String) (d m:Value) (k:Nat):Obj:=⟨.type "function",none,.func (fnOf st (Str.ofString q) d m (.ref k)),#[]⟩
noncomputable def md0:Value:=.str (Str.ofString "siftwall.octets") 187
noncomputable def md1:Value:=.str (Str.ofString "siftwall.ipv4") 198
noncomputable def md2:Value:=.str (Str.ofString "siftwall.ipv6") 209
noncomputable def md3:Value:=.str (Str.ofString "siftwall.packets") 250
noncomputable def md4:Value:=.str (Str.ofString "siftwall.tuples") 324
noncomputable def md5:Value:=.str (Str.ofString "siftwall.relate") 507
noncomputable def md6:Value:=.str (Str.ofString "siftwall.faults") 649
noncomputable def md7:Value:=.str (Str.ofString "siftwall.talks") 697
noncomputable def md8:Value:=.str (Str.ofString "siftwall.walk") 805
noncomputable def md9:Value:=.str (Str.ofString "law_pq1097_01") 859
noncomputable def de (P:Params) (x:String) (t:Nat) (v:Value):DictEntry:=⟨PyData.keyHash P (Str.ofString x),.str (Str.ofString x) t,v⟩
noncomputable def asL:List Nat:=[3,20,21,27,28,34,35,41,42,48,49,55,56,62,63,76,77,79,80,90,91,92,98,99,105,106,119,120,122,123,135,141,142,144,145,155,156,162,163,169,170,176,177,183,184,190,191,197,198,202,203,209,210,216,217,223,224,230,231,237,238,244,245,258,259,261,262,272,273,279,280,286,287,300,301,303,304,316,317,325,326,332,333,339,340,346,347,353,354,360,361,367,368,374,375,376,382,383,389,390,398,404,405,407,408,418,419,425,426,432,433,439,440,446,447,453,454,458,459,465,466,470,471,477,478,484,485,491,492,496,497,501,502,506,507,513,514,520,521,525,526,530,531,537,538,544,545,549,550,554,555]
noncomputable def KL (P:Params):Frag:=[
 (3,⟨.type "dict",none,.dict #[de P "__name__" 165 md9,de P "__doc__" 166 (.none),de P "__package__" 167 (.none),de P "__loader__" 168 (.builtin "__main__.__loader__#opaque"),de P "__spec__" 169 (.none),de P "__annotations__" 170 (.ref 6),de P "__builtins__" 171 (.ref 4),de P "__file__" 173 (.str (Str.ofString "/claim/cut.py") 172),de P "__cached__" 174 (.none),de P "number_of" 197 (.ref 21),de P "look4" 208 (.ref 28),de P "head_size" 218 (.ref 35),de P "size_at" 229 (.ref 42),de P "place_at" 237 (.ref 49),de P "look6" 249 (.ref 56),de P "new_meta" 259 (.ref 63),de P "Packet" 296 (.ref 80),de P "look" 304 (.ref 91),de P "packet_of" 316 (.ref 99),de P "family_of" 323 (.ref 106),de P "DYING_tuples" 327 (.int (512) 326),de P "Talk" 369 (.ref 123),de P "TalkBook" 412 (.ref 145),de P "is_icmp" 420 (.ref 156),de P "answer_kind" 431 (.ref 163),de P "ports_at" 443 (.ref 170),de P "tuple_at" 458 (.ref 177),de P "tuple_of" 466 (.ref 184),de P "invert" 480 (.ref 191),de P "side_of" 488 (.ref 198),de P "drop_talk" 494 (.ref 203),de P "look_up" 506 (.ref 210),de P "SEEN_REPLY" 510 (.int (2) 509),de P "ASSURED" 512 (.int (4) 511),de P "DYING_relate" 514 (.int (512) 513),de P "CONFIRMED" 516 (.int (8) 515),de P "UDP_SPAN" 518 (.int (30000) 517),de P "UDP_STREAM_SPAN" 520 (.int (120000) 519),de P "UDP_STREAM_FROM" 522 (.int (2000) 521),de P "PLAIN_SPAN" 524 (.int (600000) 523),de P "begin_any" 534 (.ref 217),de P "go_udp" 545 (.ref 224),de P "go_plain" 556 (.ref 231),de P "udp_trackers" 562 (.ref 238),de P "plain_trackers" 568 (.ref 245),de P "Expect" 603 (.ref 262),de P "add_expect" 622 (.ref 273),de P "does_fit" 636 (.ref 280),de P "take_expect" 648 (.ref 287),de P "WallFault" 680 (.ref 304),de P "Misused" 696 (.ref 317),de P "tracker_of" 706 (.ref 326),de P "sweep" 716 (.ref 333),de P "evict" 725 (.ref 340),de P "put_talk" 735 (.ref 347),de P "found_talk" 747 (.ref 354),de P "relate_talk" 757 (.ref 361),de P "begin_talk" 770 (.ref 368),de P "bring_on" 783 (.ref 375),de P "track" 794 (.ref 383),de P "confirm" 804 (.ref 390),de P "Scene" 858 (.ref 408),de P "_law_draw" 869 (.ref 419),de P "_law_digits" 879 (.ref 426),de P "_law_host" 886 (.ref 433),de P "_law_tuple" 898 (.ref 440),de P "_law_back" 905 (.ref 447),de P "_law_octets" 920 (.ref 454),de P "_law_is_stream" 926 (.ref 459),de P "_law_until" 934 (.ref 466),de P "_law_status" 940 (.ref 471),de P "_law_out" 949 (.ref 478),de P "_law_find" 960 (.ref 485),de P "_law_fits" 970 (.ref 492),de P "_law_new" 976 (.ref 497),de P "_law_meet" 982 (.ref 502),de P "_law_expect" 988 (.ref 507),de P "_law_any" 1000 (.ref 514),de P "_law_wire" 1021 (.ref 521),de P "_law_event" 1027 (.ref 526),de P "_law_left" 1033 (.ref 531),de P "_law_seen" 1042 (.ref 538),de P "_law_do" 1058 (.ref 545),de P "_law_book" 1064 (.ref 550),de P "law" 1070 (.ref 555)] 85,#[]⟩)
 ,(20,cdA 20 "number_of" "number_of" 189 2 1 195)
 ,(21,fnE (stAt 1) "number_of" (.none) md0 20)
 ,(27,cdA 27 "look4" "look4" 200 8 1 206)
 ,(28,fnE (stAt 3) "look4" (.none) md1 27)
 ,(34,cdA 34 "head_size" "head_size" 211 17 2 216)
 ,(35,fnE (stAt 5) "head_size" (.none) md2 34)
 ,(41,cdA 41 "size_at" "size_at" 219 25 4 227)
 ,(42,fnE (stAt 6) "size_at" (.none) md2 41)
 ,(48,cdA 48 "place_at" "place_at" 230 34 2 235)
 ,(49,fnE (stAt 7) "place_at" (.none) md2 48)
 ,(55,cdA 55 "look6" "look6" 238 36 1 247)
 ,(56,fnE (stAt 8) "look6" (.none) md2 55)
 ,(62,cdA 62 "new_meta" "new_meta" 252 56 0 257)
 ,(63,fnE (stAt 10) "new_meta" (.none) md3 62)
 ,(76,cdA 76 "__init__" "Packet.__init__" 272 65 4 279)
 ,(77,fnE (metAt 11 0) "Packet.__init__" (.none) md3 76)
 ,(79,⟨.type "dict",none,.dict #[de P "__module__" 267 (md3),de P "__firstlineno__" 271 (.int (63) 270),de P "__init__" 281 (.ref 77),de P "__static_attributes__" 289 (.ref 78),de P "__dict__" 291 (.ref 81),de P "__weakref__" 293 (.ref 82),de P "__doc__" 294 (.none)] 4,#[]⟩)
 ,(80,⟨.type "type",none,.cls {name:=Str.ofString "Packet",bases:=[.type "object"],mro:=[.ref 80,.type "object"],ns:=79,qualname:=Str.ofString "Packet",hasDict:=true,slotNames:=[],subclasses:=[],abstract:=false,collection:=none},#[none,none,some (.str (Str.ofString "Packet") 260),some (.str (Str.ofString "Packet") 268),some (.builtin "object.__new__"),some (.bool true)]⟩)
 ,(90,cdA 90 "look" "look" 297 73 1 302)
 ,(91,fnE (stAt 12) "look" (.none) md3 90)
 ,(92,⟨.type "tuple",none,.seq #[.int (2048) 305,.bytes (Array.mk []) 306] 0,#[]⟩)
 ,(98,cdA 98 "packet_of" "packet_of" 307 88 3 314)
 ,(99,fnE (stAt 13) "packet_of" (.ref 92) md3 98)
 ,(105,cdA 105 "family_of" "family_of" 317 92 1 321)
 ,(106,fnE (stAt 14) "family_of" (.none) md3 105)
 ,(119,cdA 119 "__init__" "Talk.__init__" 340 104 5 348)
 ,(120,fnE (metAt 17 0) "Talk.__init__" (.none) md4 119)
 ,(122,⟨.type "dict",none,.dict #[de P "__module__" 335 (md4),de P "__firstlineno__" 339 (.int (102) 338),de P "__init__" 350 (.ref 120),de P "__static_attributes__" 362 (.ref 121),de P "__dict__" 364 (.ref 124),de P "__weakref__" 366 (.ref 125),de P "__doc__" 367 (.none)] 4,#[]⟩)
 ,(123,⟨.type "type",none,.cls {name:=Str.ofString "Talk",bases:=[.type "object"],mro:=[.ref 123,.type "object"],ns:=122,qualname:=Str.ofString "Talk",hasDict:=true,slotNames:=[],subclasses:=[],abstract:=false,collection:=none},#[none,none,some (.str (Str.ofString "Talk") 328),some (.str (Str.ofString "Talk") 336),some (.builtin "object.__new__"),some (.bool true)]⟩)
 ,(135,⟨.type "tuple",none,.seq #[.int (64) 382,.int (0) 383,.int (128) 384] 0,#[]⟩)
 ,(141,cdA 141 "__init__" "TalkBook.__init__" 385 118 4 392)
 ,(142,fnE (metAt 18 0) "TalkBook.__init__" (.ref 135) md4 141)
 ,(144,⟨.type "dict",none,.dict #[de P "__module__" 377 (md4),de P "__firstlineno__" 381 (.int (116) 380),de P "__init__" 394 (.ref 142),de P "__static_attributes__" 405 (.ref 143),de P "__dict__" 407 (.ref 146),de P "__weakref__" 409 (.ref 147),de P "__doc__" 410 (.none)] 4,#[]⟩)
 ,(145,⟨.type "type",none,.cls {name:=Str.ofString "TalkBook",bases:=[.type "object"],mro:=[.ref 145,.type "object"],ns:=144,qualname:=Str.ofString "TalkBook",hasDict:=true,slotNames:=[],subclasses:=[],abstract:=false,collection:=none},#[none,none,some (.str (Str.ofString "TalkBook") 370),some (.str (Str.ofString "TalkBook") 378),some (.builtin "object.__new__"),some (.bool true)]⟩)
 ,(155,cdA 155 "is_icmp" "is_icmp" 413 129 2 418)
 ,(156,fnE (stAt 19) "is_icmp" (.none) md4 155)
 ,(162,cdA 162 "answer_kind" "answer_kind" 421 131 2 429)
 ,(163,fnE (stAt 20) "answer_kind" (.none) md4 162)
 ,(169,cdA 169 "ports_at" "ports_at" 432 139 4 441)
 ,(170,fnE (stAt 21) "ports_at" (.none) md4 169)
 ,(176,cdA 176 "tuple_at" "tuple_at" 444 153 4 456)
 ,(177,fnE (stAt 22) "tuple_at" (.none) md4 176)
 ,(183,cdA 183 "tuple_of" "tuple_of" 459 165 1 464)
 ,(184,fnE (stAt 23) "tuple_of" (.none) md4 183)
 ,(190,cdA 190 "invert" "invert" 467 170 1 478)
 ,(191,fnE (stAt 24) "invert" (.none) md4 190)
 ,(197,cdA 197 "side_of" "side_of" 481 178 2 486)
 ,(198,fnE (stAt 25) "side_of" (.none) md4 197)
 ,(202,cdB 202 "drop_talk" "drop_talk" 489 180 2 492)
 ,(203,fnE (stAt 26) "drop_talk" (.none) md4 202)
 ,(209,cdA 209 "look_up" "look_up" 495 192 4 504)
 ,(210,fnE (stAt 27) "look_up" (.none) md4 209)
 ,(216,cdA 216 "begin_any" "begin_any" 525 210 4 532)
 ,(217,fnE (stAt 37) "begin_any" (.none) md5 216)
 ,(223,cdA 223 "go_udp" "go_udp" 535 213 5 543)
 ,(224,fnE (stAt 38) "go_udp" (.none) md5 223)
 ,(230,cdA 230 "go_plain" "go_plain" 546 220 5 554)
 ,(231,fnE (stAt 39) "go_plain" (.none) md5 230)
 ,(237,cdA 237 "udp_trackers" "udp_trackers" 557 223 0 560)
 ,(238,fnE (stAt 40) "udp_trackers" (.none) md5 237)
 ,(244,cdA 244 "plain_trackers" "plain_trackers" 563 225 0 566)
 ,(245,fnE (stAt 41) "plain_trackers" (.none) md5 244)
 ,(258,cdA 258 "__init__" "Expect.__init__" 581 229 5 589)
 ,(259,fnE (metAt 42 0) "Expect.__init__" (.none) md5 258)
 ,(261,⟨.type "dict",none,.dict #[de P "__module__" 576 (md5),de P "__firstlineno__" 580 (.int (227) 579),de P "__init__" 591 (.ref 259),de P "__static_attributes__" 596 (.ref 260),de P "__dict__" 598 (.ref 263),de P "__weakref__" 600 (.ref 264),de P "__doc__" 601 (.none)] 4,#[]⟩)
 ,(262,⟨.type "type",none,.cls {name:=Str.ofString "Expect",bases:=[.type "object"],mro:=[.ref 262,.type "object"],ns:=261,qualname:=Str.ofString "Expect",hasDict:=true,slotNames:=[],subclasses:=[],abstract:=false,collection:=none},#[none,none,some (.str (Str.ofString "Expect") 569),some (.str (Str.ofString "Expect") 577),some (.builtin "object.__new__"),some (.bool true)]⟩)
 ,(272,cdA 272 "add_expect" "add_expect" 604 234 2 620)
 ,(273,fnE (stAt 43) "add_expect" (.none) md5 272)
 ,(279,cdA 279 "does_fit" "does_fit" 623 254 3 634)
 ,(280,fnE (stAt 44) "does_fit" (.none) md5 279)
 ,(286,cdA 286 "take_expect" "take_expect" 637 259 4 646)
 ,(287,fnE (stAt 45) "take_expect" (.none) md5 286)
 ,(300,cdA 300 "__init__" "WallFault.__init__" 663 269 2 668)
 ,(301,fnE (metAt 47 0) "WallFault.__init__" (.none) md6 300)
 ,(303,⟨.type "dict",none,.dict #[de P "__module__" 658 (md6),de P "__firstlineno__" 662 (.int (267) 661),de P "__init__" 670 (.ref 301),de P "__static_attributes__" 673 (.ref 302),de P "__weakref__" 675 (.ref 305),de P "__doc__" 676 (.none)] 3,#[]⟩)
 ,(304,⟨.type "type",none,.cls {name:=Str.ofString "WallFault",bases:=[.type "Exception"],mro:=[.ref 304,.type "Exception",.type "BaseException",.type "object"],ns:=303,qualname:=Str.ofString "WallFault",hasDict:=true,slotNames:=[],subclasses:=[.ref 317],abstract:=false,collection:=none},#[some (.ref 288),none,some (.str (Str.ofString "WallFault") 651),some (.str (Str.ofString "WallFault") 659),some (.builtin "Exception.__new__"),some (.bool true)]⟩)
 ,(316,⟨.type "dict",none,.dict #[de P "__module__" 688 (md6),de P "__firstlineno__" 692 (.int (273) 691),de P "__static_attributes__" 693 (.ref 315),de P "__doc__" 694 (.none)] 2,#[]⟩)
 ,(317,⟨.type "type",none,.cls {name:=Str.ofString "Misused",bases:=[.ref 304],mro:=[.ref 317,.ref 304,.type "Exception",.type "BaseException",.type "object"],ns:=316,qualname:=Str.ofString "Misused",hasDict:=true,slotNames:=[],subclasses:=[],abstract:=false,collection:=none},#[some (.ref 308),none,some (.str (Str.ofString "Misused") 681),some (.str (Str.ofString "Misused") 689),some (.builtin "Exception.__new__"),some (.bool true)]⟩)
 ,(325,cdA 325 "tracker_of" "tracker_of" 699 276 2 704)
 ,(326,fnE (stAt 50) "tracker_of" (.none) md7 325)
 ,(332,cdA 332 "sweep" "sweep" 707 282 2 714)
 ,(333,fnE (stAt 51) "sweep" (.none) md7 332)
 ,(339,cdA 339 "evict" "evict" 717 289 2 723)
 ,(340,fnE (stAt 52) "evict" (.none) md7 339)
 ,(346,cdA 346 "put_talk" "put_talk" 726 297 4 733)
 ,(347,fnE (stAt 53) "put_talk" (.none) md7 346)
 ,(353,cdA 353 "found_talk" "found_talk" 736 301 3 745)
 ,(354,fnE (stAt 54) "found_talk" (.none) md7 353)
 ,(360,cdA 360 "relate_talk" "relate_talk" 748 311 3 755)
 ,(361,fnE (stAt 55) "relate_talk" (.none) md7 360)
 ,(367,cdA 367 "begin_talk" "begin_talk" 758 320 4 768)
 ,(368,fnE (stAt 56) "begin_talk" (.none) md7 367)
 ,(374,cdA 374 "bring_on" "bring_on" 771 334 4 781)
 ,(375,fnE (stAt 57) "bring_on" (.none) md7 374)
 ,(376,⟨.type "tuple",none,.seq #[.int (0) 784] 0,#[]⟩)
 ,(382,cdA 382 "track" "track" 785 350 2 792)
 ,(383,fnE (stAt 58) "track" (.ref 376) md7 382)
 ,(389,cdA 389 "confirm" "confirm" 795 361 1 802)
 ,(390,fnE (stAt 59) "confirm" (.none) md7 389)
 ,(398,⟨.type "tuple",none,.seq #[.int (0) 819,.str (Str.ofString "input") 820] 0,#[]⟩)
 ,(404,cdA 404 "__init__" "Scene.__init__" 821 377 5 829)
 ,(405,fnE (metAt 61 0) "Scene.__init__" (.ref 398) md8 404)
 ,(407,⟨.type "dict",none,.dict #[de P "__module__" 814 (md8),de P "__firstlineno__" 818 (.int (375) 817),de P "__init__" 831 (.ref 405),de P "__static_attributes__" 851 (.ref 406),de P "__dict__" 853 (.ref 409),de P "__weakref__" 855 (.ref 410),de P "__doc__" 856 (.none)] 4,#[]⟩)
 ,(408,⟨.type "type",none,.cls {name:=Str.ofString "Scene",bases:=[.type "object"],mro:=[.ref 408,.type "object"],ns:=407,qualname:=Str.ofString "Scene",hasDict:=true,slotNames:=[],subclasses:=[],abstract:=false,collection:=none},#[none,none,some (.str (Str.ofString "Scene") 807),some (.str (Str.ofString "Scene") 815),some (.builtin "object.__new__"),some (.bool true)]⟩)
 ,(418,cdA 418 "_law_draw" "_law_draw" 861 398 2 867)
 ,(419,fnE (stAt 63) "_law_draw" (.none) md9 418)
 ,(425,cdA 425 "_law_digits" "_law_digits" 870 403 2 877)
 ,(426,fnE (stAt 64) "_law_digits" (.none) md9 425)
 ,(432,cdA 432 "_law_host" "_law_host" 880 409 1 884)
 ,(433,fnE (stAt 65) "_law_host" (.none) md9 432)
 ,(439,cdA 439 "_law_tuple" "_law_tuple" 887 411 1 896)
 ,(440,fnE (stAt 66) "_law_tuple" (.none) md9 439)
 ,(446,cdA 446 "_law_back" "_law_back" 899 416 1 903)
 ,(447,fnE (stAt 67) "_law_back" (.none) md9 446)
 ,(453,cdA 453 "_law_octets" "_law_octets" 906 418 2 918)
 ,(454,fnE (stAt 68) "_law_octets" (.none) md9 453)
 ,(458,cdB 458 "_law_is_stream" "_law_is_stream" 921 424 1 924)
 ,(459,fnE (stAt 69) "_law_is_stream" (.none) md9 458)
 ,(465,cdA 465 "_law_until" "_law_until" 927 426 1 932)
 ,(466,fnE (stAt 70) "_law_until" (.none) md9 465)
 ,(470,cdB 470 "_law_status" "_law_status" 935 431 1 938)
 ,(471,fnE (stAt 71) "_law_status" (.none) md9 470)
 ,(477,cdA 477 "_law_out" "_law_out" 941 439 2 947)
 ,(478,fnE (stAt 72) "_law_out" (.none) md9 477)
 ,(484,cdA 484 "_law_find" "_law_find" 950 445 4 958)
 ,(485,fnE (stAt 73) "_law_find" (.none) md9 484)
 ,(491,cdA 491 "_law_fits" "_law_fits" 961 453 4 968)
 ,(492,fnE (stAt 74) "_law_fits" (.none) md9 491)
 ,(496,cdB 496 "_law_new" "_law_new" 971 457 4 974)
 ,(497,fnE (stAt 75) "_law_new" (.none) md9 496)
 ,(501,cdB 501 "_law_meet" "_law_meet" 977 468 4 980)
 ,(502,fnE (stAt 76) "_law_meet" (.none) md9 501)
 ,(506,cdB 506 "_law_expect" "_law_expect" 983 481 5 986)
 ,(507,fnE (stAt 77) "_law_expect" (.none) md9 506)
 ,(513,cdA 513 "_law_any" "_law_any" 989 496 4 998)
 ,(514,fnE (stAt 78) "_law_any" (.none) md9 513)
 ,(520,cdA 520 "_law_wire" "_law_wire" 1001 500 4 1019)
 ,(521,fnE (stAt 79) "_law_wire" (.none) md9 520)
 ,(525,cdB 525 "_law_event" "_law_event" 1022 520 4 1025)
 ,(526,fnE (stAt 80) "_law_event" (.none) md9 525)
 ,(530,cdB 530 "_law_left" "_law_left" 1028 549 1 1031)
 ,(531,fnE (stAt 81) "_law_left" (.none) md9 530)
 ,(537,cdA 537 "_law_seen" "_law_seen" 1034 561 2 1040)
 ,(538,fnE (stAt 82) "_law_seen" (.none) md9 537)
 ,(544,cdA 544 "_law_do" "_law_do" 1043 566 2 1056)
 ,(545,fnE (stAt 83) "_law_do" (.none) md9 544)
 ,(549,cdB 549 "_law_book" "_law_book" 1059 585 1 1062)
 ,(550,fnE (stAt 84) "_law_book" (.none) md9 549)
 ,(554,cdB 554 "law" "law" 1065 589 1 1068)
 ,(555,fnE (stAt 85) "law" (.none) md9 554)
]
noncomputable def topRunQ (p:Program) (w:World) (n₀:Nat) (ann:Option Value):Nat→SharedT→Thread→Option SharedT
 | 0,_,_=>none
 | n+1,s,t=>match through t with
  | true=>some s
  | false=>match PySem.W.Fast.tw6613529449190102663 n₀ ann t with
   | false=>none
   | true=>match PySem.W.Fast.tw10156331382660048174 (PySem.W.Fast.tw11892475500146522536 PySem.W.Fast.tw14364793385576792824) p w s t with
    | some (s',t')=>topRunQ p w n₀ ann n s' t'
    | none=>none
theorem topRunQ_eq (p:Program) (w:World) (n₀:Nat) (ann:Option Value):∀n s t,topRunQ p w n₀ ann n s t=topRunT treeTable p w n₀ ann n s t
 | 0,_,_=>rfl
 | n+1,s,t=>by
  unfold topRunQ topRunT
  rw [PySem.W.Fast.te6613529449190102663,PySem.W.Fast.te10156331382660048174,PySem.W.Fast.te11892475500146522536,PySem.W.Fast.te14364793385576792824]
  cases through t with
  | true=>rfl
  | false =>
   cases PySem.W.Fast.tw6613529449190102663 n₀ ann t with
   | false=>rfl
   | true =>
    dsimp only
    cases PySem.W.Fast.tw10156331382660048174 (PySem.W.Fast.tw11892475500146522536 PySem.W.Fast.tw14364793385576792824) p w s t with
    | none=>rfl
    | some x=>rw [←PySem.W.Fast.te14364793385576792824]; exact topRunQ_eq p w n₀ ann n x.1 x.2
noncomputable abbrev looseL:List Str:=[Str.ofString "packet_of",Str.ofString "track"]
theorem h_e1:opening pw=plainProg pw.main.scope.names:=by kernel_rfl
theorem h_e2 (s:Shared):fenceModules? pw s=some s:=by
 have h:fenceModules? pw s=fenceModules? pw s:=rfl
 exact id (Eq.refl (some s))
noncomputable def bootT (P:Params):BT:=treeOf (boot_heap P).objs.toList .nil 0
theorem h_size (P:Params):((boot_heap P).isNs mainGlobals&&(Array.mk []:Array GenState).size == 0,(boot_heap P).objs.size,(boot_heap P).nsMap mainGlobals "__annotations__")=(true,11,some (Value.ref 6)):=by kernel_rfl
theorem h_abs (P:Params):absHeap (bootT P) 11 (boot_heap P).life=boot_heap P:=by kernel_rfl
theorem h_look12 (w:World) (os:OsState):(topRunT treeTable pw w 11 (some (.ref 6)) 7490 ⟨bootT w.params,11,(boot_heap w.params).life,Array.mk [],boot_drawn,boot_toks,os⟩ (topStub pw)).map (fun r=>((staticsOk (importedModules pw.main.body) (boot_heap w.params) r.abs.heap&&namesBound pw r.abs.heap&&gensDone r.abs&&laidKept (boot_heap w.params) r.abs.heap),(seen ((recsOf vw).map (·.name)) (ownsOf vw) [] {r.abs with gens:=#[]},r.abs.heap.bltView)))=some (true,(expectedOf vw,bltViewBooted)):=by
 rw [←topRunQ_eq]
 kernel_rfl
theorem h_look3 (w:World) (os:OsState):(topRunT treeTable pw w 11 (some (.ref 6)) 7490 ⟨bootT w.params,11,(boot_heap w.params).life,Array.mk [],boot_drawn,boot_toks,os⟩ (topStub pw)).map (fun r=>(r.abs.heap.keysOk (looseW vw looseL) ((recsOf vw).map (·.name)) ((litsOf vw).map (·.1)) ((clssOf vw (looseW vw looseL)).map (·.name))&&r.abs.heap.accountedOkI (importedModules pw.main.body)&&r.abs.heap.isNs mainGlobals&&r.abs.heap.isNs builtinsNs&&tablesOk vw r.abs.heap&&(xlAt vw [] r.abs&&recOk (rr.toRowW.records) r.abs)&&(if true then r.abs.gens.size == 0 else !leftWithCleanup r.abs.gens)))=some true:=by
 rw [←topRunQ_eq]
 kernel_rfl
theorem h_look4 (w:World) (os:OsState):(topRunT treeTable pw w 11 (some (.ref 6)) 7490 ⟨bootT w.params,11,(boot_heap w.params).life,Array.mk [],boot_drawn,boot_toks,os⟩ (topStub pw)).map (fun r=>(tabsOk vw r.abs,pinSeenD vw (drecsOf vw) r.abs,plainSeenE vw (looseW vw looseL) r.abs))=some (true,pinGoodD (drecsOf vw),plainGoodE vw (looseW vw looseL)):=by
 rw [←topRunQ_eq]
 kernel_rfl
theorem map_two {α β γ:Type _}{x:Option α}{f:α→β}{g:α→γ}{a b} (h:x.map f=some a) (k:x.map g=some b):x.map (fun r=>(f r,g r))=some (a,b):=by
 cases x with
 | none=>cases h
 | some x=>cases h; cases k; rfl
theorem map_two3 {α β γ δ ε:Type _}{x:Option α}{f:α→β}{f':α→γ}{f'':α→δ}{g:α→ε}{a a' a'' b} (h:x.map (fun r=>(f r,f' r,f'' r))=some (a,a',a'')) (k:x.map g=some b) :
  x.map (fun r=>(f r,f' r,f'' r,g r))=some (a,a',a'',b):=by
 cases x with
 | none=>cases h
 | some x=>cases h; cases k; rfl
theorem map_two2 {α β γ ε:Type _}{x:Option α}{f:α→β}{f':α→γ}{g:α→ε}{a a' b} (h:x.map (fun r=>(f r,f' r))=some (a,a')) (k:x.map g=some b) :
  x.map (fun r=>(f r,f' r,g r))=some (a,a',b):=by
 cases x with
 | none=>cases h
 | some x=>cases h; cases k; rfl
theorem map_l {α β γ:Type _}{x:Option α}{f:α→β}{g:α→γ}{a b} (h:x.map (fun r=>(f r,g r))=some (a,b)):x.map f=some a:=by
 cases x with
 | none=>cases h
 | some x=>cases h; rfl
theorem map_r {α β γ:Type _}{x:Option α}{f:α→β}{g:α→γ}{a b} (h:x.map (fun r=>(f r,g r))=some (a,b)):x.map g=some b:=by
 cases x with
 | none=>cases h
 | some x=>cases h; rfl
theorem h_as (P:Params):asL=(KL P).map (·.1):=by kernel_rfl
noncomputable abbrev hk:Hook:=kHook KL asL h_as
theorem h_look5B (w:World) (os:OsState):(topRunT treeTable pw w 11 (some (.ref 6)) 7490 ⟨bootT w.params,11,(boot_heap w.params).life,Array.mk [],boot_drawn,boot_toks,os⟩ (topStub pw)).map (fun r=>((plainSeenD vw looseL r.abs,wideSeen vw r.abs,clsSeenW vw looseL r.abs),Hook.obs hk r.abs))=some ((plainGoodD vw looseL,wideGood vw,clsGoodW vw looseL),(Hook.val hk w)):=by
 rw [←topRunQ_eq]
 kernel_rfl
theorem h_lookA (w:World) (os:OsState):(topRunT treeTable pw w 11 (some (.ref 6)) 7490 ⟨bootT w.params,11,(boot_heap w.params).life,Array.mk [],boot_drawn,boot_toks,os⟩ (topStub pw)).map (fun r =>
   ((staticsOk (importedModules pw.main.body) (boot_heap w.params) r.abs.heap&&namesBound pw r.abs.heap&&gensDone r.abs&&laidKept (boot_heap w.params) r.abs.heap),openSeen vw looseL (importedModules pw.main.body) (fun s=>xlAt vw [] s&&recOk (rr.toRowW.records) s) true r.abs))=some (true,openGood vw looseL):=by
 unfold openSeen openGood
 exact map_two (map_l (h_look12 w os)) (map_two2 (map_r (h_look12 w os)) (map_two (h_look3 w os) (map_two3 (h_look4 w os) (map_l (h_look5B w os)))))
theorem h_lookB (w:World) (os:OsState):(topRunT treeTable pw w 11 (some (.ref 6)) 7490 ⟨bootT w.params,11,(boot_heap w.params).life,Array.mk [],boot_drawn,boot_toks,os⟩ (topStub pw)).map (fun r=>Hook.obs hk r.abs)=some (Hook.val hk w):=map_r (h_look5B w os)
theorem h_left:LeftO pw vw looseL (fun s=>xlAt vw [] s&&recOk (rr.toRowW.records) s) (Hook.obs hk) (Hook.val hk) 7490 true :=
 left_tree2 (boot_open h_e1 (by decide +kernel) h_e2) h_size h_abs h_lookA h_lookB
end Mine
end
section
open PySem PySem.Spec PySem.Calls PyProof.Rows PySem.W
set_option maxRecDepth 10000
namespace Mine
noncomputable def cd (s:Str):Nat:=s.cps.toList.foldl (fun h c=>h*131+c) 0
noncomputable def gtn:List (Nat×Str×PV):=[
 (9618338395678213157,Str.ofString "number_of",.ref 21),
 (32057448509,Str.ofString "look4",.ref 28),
 (9087303601350432280,Str.ofString "head_size",.ref 35),
 (585287015696341,Str.ofString "size_at",.ref 42),
 (74700607867161815,Str.ofString "place_at",.ref 49),
 (32057448511,Str.ofString "look6",.ref 56),
 (73341952820213028,Str.ofString "new_meta",.ref 63),
 (3115150075000,Str.ofString "Packet",.ref 80),
 (244713347,Str.ofString "look",.ref 91),
 (9778507358266669650,Str.ofString "packet_of",.ref 99),
 (8911255787621810650,Str.ofString "family_of",.ref 106),
 (13391764277902072591680553,Str.ofString "DYING_tuples",.int 512),
 (190518516,Str.ofString "Talk",.ref 123),
 (56107688061330761,Str.ofString "TalkBook",.ref 145),
 (535125736714750,Str.ofString "is_icmp",.ref 156),
 (145632406613677592968973,Str.ofString "answer_kind",.ref 163),
 (74716430495890656,Str.ofString "ports_at",.ref 170),
 (77394924915907642,Str.ofString "tuple_at",.ref 177),
 (77394924915909462,Str.ofString "tuple_of",.ref 184),
 (4083508427714,Str.ofString "invert",.ref 191),
 (585280536699899,Str.ofString "side_of",.ref 198),
 (8749060819299122580,Str.ofString "drop_talk",.ref 203),
 (550137874616311,Str.ofString "look_up",.ref 210),
 (949047966573359710470,Str.ofString "SEEN_REPLY",.int 2),
 (331731088016785,Str.ofString "ASSURED",.int 4),
 (13391764277901990711523331,Str.ofString "DYING_relate",.int 512),
 (5863623507027279903,Str.ofString "CONFIRMED",.int 8),
 (56622103480017644,Str.ofString "UDP_SPAN",.int 30000),
 (37487378287566431583839373725279,Str.ofString "UDP_STREAM_SPAN",.int 120000),
 (37487378287566431583839344536251,Str.ofString "UDP_STREAM_FROM",.int 2000),
 (915567433862278623523,Str.ofString "PLAIN_SPAN",.int 600000),
 (8566952901285106930,Str.ofString "begin_any",.ref 217),
 (4006592514978,Str.ofString "go_udp",.ref 224),
 (68757132694779031,Str.ofString "go_plain",.ref 231),
 (22962473136547450264869357,Str.ofString "udp_trackers",.ref 238),
 (377530393018159386747321908180,Str.ofString "plain_trackers",.ref 245),
 (2697578308977,Str.ofString "Expect",.ref 262),
 (1110820406143623694091,Str.ofString "add_expect",.ref 273),
 (66771177160374895,Str.ofString "does_fit",.ref 280),
 (173763162700497996447505,Str.ofString "take_expect",.ref 287),
 (7610297786167467688,Str.ofString "WallFault",.ref 304),
 (393236291027400,Str.ofString "Misused",.ref 317),
 (1327904139680219024186,Str.ofString "tracker_of",.ref 326),
 (34136760348,Str.ofString "sweep",.ref 333),
 (30011581749,Str.ofString "evict",.ref 340),
 (74746824951521148,Str.ofString "put_talk",.ref 347),
 (1168594052481318265813,Str.ofString "found_talk",.ref 354),
 (170831939471730327373950,Str.ofString "relate_talk",.ref 361),
 (1122270830068391496870,Str.ofString "begin_talk",.ref 368),
 (65462366519330496,Str.ofString "bring_on",.ref 375),
 (34419950903,Str.ofString "track",.ref 383),
 (504652350748620,Str.ofString "confirm",.ref 390),
 (24667802224,Str.ofString "Scene",.ref 408),
 (8311366941459414984,Str.ofString "_law_draw",.ref 419),
 (142631368082382383304738,Str.ofString "_law_digits",.ref 426),
 (8311366941468358220,Str.ofString "_law_host",.ref 433),
 (1088789069335902361988,Str.ofString "_law_tuple",.ref 440),
 (8311366941454627315,Str.ofString "_law_back",.ref 447),
 (142631368082805019847912,Str.ofString "_law_octets",.ref 454),
 (320648294904131326063985034721,Str.ofString "_law_is_stream",.ref 459),
 (1088789069336181193530,Str.ofString "_law_until",.ref 466),
 (142631368082964301848990,Str.ofString "_law_status",.ref 471),
 (63445549171635098,Str.ofString "_law_out",.ref 478),
 (8311366941463758401,Str.ofString "_law_find",.ref 485),
 (8311366941463759202,Str.ofString "_law_fits",.ref 492),
 (63445549171615844,Str.ofString "_law_new",.ref 497),
 (8311366941479425231,Str.ofString "_law_meet",.ref 502),
 (142631368082425400455153,Str.ofString "_law_expect",.ref 507),
 (63445549171393932,Str.ofString "_law_any",.ref 514),
 (8311366941501976473,Str.ofString "_law_wire",.ref 521),
 (1088789069331486922770,Str.ofString "_law_event",.ref 526),
 (8311366941477177271,Str.ofString "_law_left",.ref 531),
 (8311366941492913771,Str.ofString "_law_seen",.ref 538),
 (484317169247675,Str.ofString "_law_do",.ref 545),
 (8311366941454869141,Str.ofString "_law_book",.ref 550),
 (1866214,Str.ofString "law",.ref 555),
 (1866729,Str.ofString "len",PV.val (Value.builtin "len")),
 (1884414,Str.ofString "min",PV.val (Value.builtin "min")),
 (1988951,Str.ofString "sum",PV.val (Value.builtin "sum")),
 (4469589087477,Str.ofString "sorted",PV.val (Value.builtin "sorted")),
 (33792957125,Str.ofString "range",PV.val (Value.type "range")),
 (244610914,Str.ofString "list",PV.val (Value.type "list")),
 (29135015291,Str.ofString "bytes",PV.val (Value.type "bytes")),
 (8580259696490544989,Str.ofString "bytearray",PV.val (Value.type "bytearray")),
 (34426953764,Str.ofString "tuple",PV.val (Value.type "tuple"))]
noncomputable def fnL:List Nat:=[21,28,35,42,49,56,63,80,91,99,106,123,145,156,163,170,177,184,191,198,203,210,217,224,231,238,245,262,273,280,287,304,317,326,333,340,347,354,361,368,375,383,390,408,419,426,433,440,447,454,459,466,471,478,485,492,497,502,507,514,521,526,531,538,545,550,555]
noncomputable def gfind {α:Type}(k:Nat):List (Nat×α)→Option α
 | []=>none
 | (c,p)::r=>bif Nat.beq k c then some p else gfind k r
noncomputable def pickN {α:Type}(x:Str) (l:List (Nat×Str×α)):Option α:=(gfind (cd x) l).bind fun p=>bif p.1 == x then some p.2 else none
noncomputable def gt (x:Str):Option PV:=pickN x gtn
theorem gfind_mem {α:Type}{k:Nat}{p:α}{l:List (Nat×α)}:gfind k l=some p→∃c,(c,p)∈l:=by
 induction l with
 | nil=>exact fun h=>nomatch h
 | cons q r ih =>
  unfold gfind
  cases Nat.beq k q.1 with
  | true=>exact fun h=>⟨q.1,Option.some.inj h▸.head _⟩
  | false=>exact fun h=>(ih h).imp fun _ h=>.tail _ h
theorem pickN_mem {α:Type}{x:Str}{l:List (Nat×Str×α)}{v:α}(h:pickN x l=some v):∃c,(c,x,v)∈l:=by
 refine byP fun PG kG=>?_
 obtain ⟨p,e,h⟩:=Option.bind_eq_some_iff.mp h
 refine kG ?_
 cases hb:p.1 == x with
 | true=>rw [hb] at h; exact (gfind_mem e).imp fun c hc=>by rw [←beq_iff_eq.mp hb,←Option.some.inj h]; exact hc
 | false=>rw [hb] at h; cases h
theorem gt_mem {x:Str}{v:PV}(h:gt x=some v):∃c,(c,x,v)∈gtn:=pickN_mem h
structure WOK (C:Cfg):Prop where
 g:∀p∈gtn,GlobIs C p.2.1 p.2.2
 f:∀a∈fnL,keepIn C.K (.ref a)=true
inductive HasA (C:Cfg) (H:GHeap):PV→Str→PV→Prop
 | mk {a cl dx:Addr}{kvs:List (Str×PV)}{name:Str}{w:PV}:H a=some (.inst cl dx)→H dx=some (.sdict kvs)→GetA C cl name→kvs.lookup name=some w→notVal w=true→HasA C H (.ref a) name w
noncomputable def ifT (b:Bool) (P:Prop):Prop:=match b with
 | true=>P
 | false=>False
theorem ifT_is {b:Bool}{P:Prop}(h:ifT b P):b=true∧P:=by
 cases b
 ·exact h.elim
 ·exact ⟨rfl,h⟩
noncomputable def optT {α:Type}(o:Option α) (P:α→Prop):Prop:=match o with
 | some x=>P x
 | none=>False
theorem optT_is {α:Type}{o:Option α}{P:α→Prop}(h:optT o P):∃x,o=some x∧P x:=by
 induction o using Option.casesOn with
 | none=>exact h.elim
 | some x=>exact ⟨x,rfl,h⟩
theorem ifT_of {b:Bool}{P:Prop}(h:b=true) (p:P):ifT b P:=by subst h; exact p
theorem and3 {p q r:Prop} [Decidable p] [Decidable q] [Decidable r] (h:(decide p&&decide q&&decide r)=true):p∧q∧r :=
 have z:=Bool.and_eq_true_iff.mp h
 have y:=Bool.and_eq_true_iff.mp z.1
 ⟨of_decide_eq_true y.1,of_decide_eq_true y.2,of_decide_eq_true z.2⟩
noncomputable def binW (C:Cfg) (n:Nat) (op:Operator) (a b:PV) (H:GHeap) (Q:PV→GHeap→Prop):Prop :=
 match a,b with
 | .int i,.int j=>(match op with
  | .Add=>Q (.int (i+j)) H
  | .Sub=>Q (.int (i-j)) H
  | .Mult=>ifT (decide (i.natAbs<2^64)) (Q (.int (i*j)) H)
  | .FloorDiv=>ifT (decide (0<j)&&decide (j.natAbs<1073741824)) (Q (.int (i/j)) H)
  | .Mod=>ifT (decide (0<j)) (Q (.int (i%j)) H)
  | .Pow=>ifT (decide (0≤j)&&decide (j≤1000000)&&decide (i.natAbs<2^64)) (Q (.int (i^j.toNat)) H)
  | .LShift=>ifT (decide (0≤j)&&decide (j≤1000000)&&decide (i.natAbs<2^64)) (Q (.int (i*2^j.toNat)) H)
  | .RShift=>ifT (decide (0≤j)) (Q (.int (i.fdiv (2^j.toNat))) H)
  | .BitAnd=>Q (.int (Builtin.bitAnd i j)) H
  | .BitOr=>Q (.int (Builtin.bitOr i j)) H
  | op=>Op2Ok C n (binaryOp op) (.int i) (.int j) H Q)
 | a,b=>Op2Ok C n (binaryOp op) a b H Q
theorem binW_ok {C:Cfg}{n:Nat}{op:Operator}{a b:PV}{H:GHeap}{Q:PV→GHeap→Prop}(h:binW C n op a b H Q):Op2Ok C n (binaryOp op) a b H Q:=by
 induction a using Mine.PV.casesOn with
 | int i=>induction b using Mine.PV.casesOn with
  | int j=>induction op using PySem.Operator.casesOn with
   | Add=>exact op_add h
   | Sub=>exact op_sub h
   | Mult=>exact op_mul (of_decide_eq_true (ifT_is h).1) (ifT_is h).2
   | FloorDiv=>exact op_fdiv (of_decide_eq_true (Bool.and_eq_true_iff.mp (ifT_is h).1).1) (of_decide_eq_true (Bool.and_eq_true_iff.mp (ifT_is h).1).2) (ifT_is h).2
   | Mod=>exact op_mod (of_decide_eq_true (ifT_is h).1) (ifT_is h).2
   | Pow=>exact op_pow (and3 (ifT_is h).1).1 (and3 (ifT_is h).1).2.1 (and3 (ifT_is h).1).2.2 (ifT_is h).2
   | LShift=>exact op_shl (and3 (ifT_is h).1).1 (and3 (ifT_is h).1).2.1 (and3 (ifT_is h).1).2.2 (ifT_is h).2
   | RShift=>exact op_shr (of_decide_eq_true (ifT_is h).1) (ifT_is h).2
   | BitAnd=>exact op_band h
   | BitOr=>exact op_bor h
   | _=>exact h
  | _=>exact h
 | _=>exact h
noncomputable def cmpW (C:Cfg) (n:Nat) (op:CmpOp) (a b:PV) (H:GHeap) (Q:PV→GHeap→Prop):Prop :=
 match b with
 | .int j=>(match a with
  | .int i=>(match op with
   | .Lt=>Q (.bool (decide (i<j))) H
   | .LtE=>Q (.bool (decide (i≤j))) H
   | .Gt=>Q (.bool (decide (j<i))) H
   | .GtE=>Q (.bool (decide (j≤i))) H
   | .Eq=>Q (.bool (decide (i=j))) H
   | .NotEq=>Q (.bool (decide (i≠j))) H
   | op=>Op2Ok C n (compareOp op) (.int i) (.int j) H Q)
  | a=>Op2Ok C n (compareOp op) a (.int j) H Q)
 | .none=>(match op with
  | .Is=>Q (.bool a.isNone) H
  | .IsNot=>Q (.bool (!a.isNone)) H
  | op=>Op2Ok C n (compareOp op) a .none H Q)
 | b=>Op2Ok C n (compareOp op) a b H Q
theorem cmpW_ok {C:Cfg}{n:Nat}{op:CmpOp}{a b:PV}{H:GHeap}{Q:PV→GHeap→Prop}(h:cmpW C n op a b H Q):Op2Ok C n (compareOp op) a b H Q:=by
 induction b using Mine.PV.casesOn with
 | int j=>induction a using Mine.PV.casesOn with
  | int i=>induction op using PySem.CmpOp.casesOn with
   | Lt=>exact op_lt h
   | LtE=>exact op_le h
   | Gt=>exact op_gt h
   | GtE=>exact op_ge h
   | Eq=>exact op_eq h
   | NotEq=>exact op_ne h
   | _=>exact h
  | _=>exact h
 | none=>induction op using PySem.CmpOp.casesOn with
  | Is=>exact op_is_none h
  | IsNot=>exact op_isnot_none h
  | _=>exact h
 | _=>exact h
noncomputable def boolQ (Q:Bool→GHeap→Prop):PV→GHeap→Prop:=fun c H=>∃q,c=.bool q∧Q q H
noncomputable def cmpT (C:Cfg) (n:Nat) (op:CmpOp) (a b:PV) (H:GHeap) (Q:Bool→GHeap→Prop):Prop :=
 match b with
 | .int j=>(match a with
  | .int i=>(match op with
   | .Lt=>(i<j→Q true H)∧(¬i<j→Q false H)
   | .LtE=>(i≤j→Q true H)∧(¬i≤j→Q false H)
   | .Gt=>(j<i→Q true H)∧(¬j<i→Q false H)
   | .GtE=>(j≤i→Q true H)∧(¬j≤i→Q false H)
   | .Eq=>(i=j→Q true H)∧(¬i=j→Q false H)
   | .NotEq=>(¬i=j→Q true H)∧(i=j→Q false H)
   | op=>Op2Ok C n (compareOp op) (.int i) (.int j) H (boolQ Q))
  | a=>Op2Ok C n (compareOp op) a (.int j) H (boolQ Q))
 | .none=>(match op with
  | .Is=>(match a.isNone with | true=>Q true H | false=>Q false H)
  | .IsNot=>(match a.isNone with | true=>Q false H | false=>Q true H)
  | op=>Op2Ok C n (compareOp op) a .none H (boolQ Q))
 | .str y=>(match a with
  | .str x=>(match op with
   | .Eq=>ifT (SeqAt.shaped (.str x)&&SeqAt.shaped (.str y)) (match x == y with | true=>Q true H | false=>Q false H)
   | op=>Op2Ok C n (compareOp op) (.str x) (.str y) H (boolQ Q))
  | a=>Op2Ok C n (compareOp op) a (.str y) H (boolQ Q))
 | b=>Op2Ok C n (compareOp op) a b H (boolQ Q)
theorem q_dec {p:Prop} [Decidable p] {H:GHeap}{Q:Bool→GHeap→Prop}(h1:p→Q true H) (h2:¬p→Q false H):boolQ Q (.bool (decide p)) H:=by
 by_cases h:p
 ·exact ⟨_,rfl,by rw [decide_eq_true h]; exact h1 h⟩
 ·exact ⟨_,rfl,by rw [decide_eq_false h]; exact h2 h⟩
theorem m_tf {b:Bool}{H:GHeap}{Q:Bool→GHeap→Prop}(h:match b with | true=>Q true H | false=>Q false H):Q b H:=by cases b<;>exact h
theorem m_ft {b:Bool}{H:GHeap}{Q:Bool→GHeap→Prop}(h:match b with | true=>Q false H | false=>Q true H):Q (!b) H:=by cases b<;>exact h
theorem cmpT_ok {C:Cfg}{n:Nat}{op:CmpOp}{a b:PV}{H:GHeap}{Q:Bool→GHeap→Prop}(h:cmpT C n op a b H Q):Op2Ok C n (compareOp op) a b H (boolQ Q):=by
 induction b using Mine.PV.casesOn with
 | int j=>induction a using Mine.PV.casesOn with
  | int i=>induction op using PySem.CmpOp.casesOn with
   | Lt=>exact op_lt (q_dec h.1 h.2)
   | LtE=>exact op_le (q_dec h.1 h.2)
   | Gt=>exact op_gt (q_dec h.1 h.2)
   | GtE=>exact op_ge (q_dec h.1 h.2)
   | Eq=>exact op_eq (q_dec h.1 h.2)
   | NotEq=>exact op_ne (q_dec h.1 fun z=>h.2 (Decidable.not_not.mp z))
   | _=>exact h
  | _=>exact h
 | none=>induction op using PySem.CmpOp.casesOn with
  | Is=>exact op_is_none ⟨_,rfl,m_tf h⟩
  | IsNot=>exact op_isnot_none ⟨_,rfl,m_ft h⟩
  | _=>exact h
 | str y=>induction a using Mine.PV.casesOn with
  | str x=>induction op using PySem.CmpOp.casesOn with
   | Eq =>
    have z:=ifT_is h
    have y:=Bool.and_eq_true_iff.mp z.1
    exact op_eq_deep (.str _) (.str _) y.1 y.2 ⟨_,rfl,m_tf z.2⟩
   | _=>exact h
  | _=>exact h
 | _=>exact h
noncomputable def truV (x:PV) (P:Bool→Prop):Prop:=match x with
 | .bool b=>(b=true→P true)∧(b=false→P false)
 | .int i=>(¬i=0→P true)∧(i=0→P false)
 | .none=>P false
 | _=>False
theorem truV_ok {x:PV}{P:Bool→Prop}(h:truV x P):∃b,Truth x b∧P b:=by
 induction x using Mine.PV.casesOn with
 | bool b =>
  refine ⟨b,.bool b,?_⟩
  cases b
  ·exact h.2 rfl
  ·exact h.1 rfl
 | int i =>
  refine ⟨_,.int i,?_⟩
  by_cases e:i=0
  ·subst e; exact h.2 rfl
  ·rw [bne_iff_ne.mpr e]; exact h.1 e
 | none=>exact ⟨_,.none,h⟩
 | _=>exact h.elim
noncomputable abbrev truT (x:PV) (H:GHeap) (Q:Bool→GHeap→Prop):Prop:=truV x fun b=>Q b H
theorem truT_ok {x:PV}{H:GHeap}{Q:Bool→GHeap→Prop}(h:truT x H Q):∃b,Truth x b∧Q b H:=truV_ok h
section
section
variable {sc:Scope}{env:Env}{kp:Kp}{H:GHeap}{fr fr':Vars}{h:Heap}
theorem FrOk.looks (F:FrOk sc env kp H fr h) (k:∀x v,fr'.lookup x=some v→fr.lookup x=some v):FrOk sc env kp H fr' h :=
 ⟨F.scope,F.glob,F.bi,F.fn,F.nd,F.nc,F.ns.imp fun m z=>⟨z.1,fun x v e=>z.2 x v (k x v e)⟩,F.kpL,F.HL,fun x v e=>F.cell x v (k x v e),F.own,F.Hc⟩
end
theorem putD_cons (x:Str) (v:PV) (fr:Vars):∀y w,List.lookup y ((x,v)::fr)=some w→(putD x v fr).lookup y=some w:=fun y w e=>by
 rw [List.lookup_cons] at e
 rw [lookup_putD]
 cases hy:y == x with
 | true=>rw [hy] at e; exact e
 | false=>rw [hy] at e; exact e
section
variable {C:Cfg}{n:Nat}{sc:Scope}{H:GHeap}{fr fr':Vars}
theorem ExOk.looks {ss:List Stmt}{Q:Fl→Vars→GHeap→Prop}(h:ExOk C n sc ss fr' H Q) (k:∀x v,fr'.lookup x=some v→fr.lookup x=some v):ExOk C n sc ss fr H Q:=⟨fun A kp env s hA S F=>h.run A kp env s hA S (F.looks k)⟩
theorem as_nameC {x:Str}{pos:Pos}{v:PV}{Q:Vars→GHeap→Prop}(hx:putName sc x=true) (q:Q ((x,v)::fr) H):AsOk C n sc (.Name x pos) v fr H Q:=⟨fun A kp env s u hA S F t =>
 wpAny_assign_Name (store_name S F t (putName_is hx) fun s' S' F'=>⟨_,H,S',F'.looks (putD_cons x v fr),q⟩)⟩
end
noncomputable def mthL:List (Nat×Str×String×String):=[(3775448021262,Str.ofString "append", "list", "list.append"),(3932130971598,Str.ofString "extend", "list", "list.extend"),(1780930,Str.ofString "get", "dict", "dict.get"),(31185017916,Str.ofString "items", "dict", "dict.items")]
noncomputable def methT (name:Str):Option (String×String):=pickN name mthL
theorem methT_is {name:Str}{T id:String}(h:methT name=some (T,id)):Meth T name id:=by
 have key:∀p∈mthL,Meth p.2.2.1 p.2.1 p.2.2.2:=List.forall_mem_cons.mpr ⟨m_append,List.forall_mem_cons.mpr ⟨m_extend,List.forall_mem_cons.mpr ⟨m_get,List.forall_mem_cons.mpr ⟨m_items,fun _ h=>nomatch h⟩⟩⟩⟩
 exact (pickN_mem h).elim fun c hc=>key _ hc
noncomputable def fnKnown:PV→Bool
 | .val _=>true
 | .ref a=>fnL.contains a
 | _=>false
theorem fnKnown_is {C:Cfg}(hW:WOK C) {g:PV}(h:fnKnown g=true):Callee C g:=by
 induction g using Mine.PV.casesOn with
 | val v=>trivial
 | ref a=>exact hW.f a (List.contains_iff_mem.mp h)
 | _=>cases h
noncomputable def foldOk:Expr→Bool
 | .Set ..=>false
 | _=>true
theorem foldOk_is {e:Expr}(h:foldOk e=true) (env:Env) (x:Value):foldedSetIterable e env x=pure x:=by
 cases e<;>first | rfl | cases h
theorem plainBase_is {o:Expr}(h:plainBase o=true) (name:Str) (env:Env) (w:Sem Value):attributeBase o name env w=w:=by
 cases plainBase_of h<;>rfl
noncomputable def tupTarget:Expr→Bool
 | .Tuple ..=>true
 | _=>false
noncomputable def plainValue:Expr→Bool
 | .Tuple ..=>false
 | _=>true
noncomputable def foldedTup:Expr→Bool
 | .Tuple vs _ _=>vs.all (foldedForSure 8)
 | _=>false
noncomputable def okAssign (t e:Expr):Bool:=(plainBase t||(tupTarget t&&(plainValue e||foldedTup e)))&&notStar t&&noComp e
theorem ite_both {α:Type}{c:Prop} [Decidable c] {a b x:α}(h1:a=x) (h2:b=x):(if c then a else b)=x:=by
 by_cases h:c
 ·rw [if_pos h]; exact h1
 ·rw [if_neg h]; exact h2
theorem swap_folded {ts vs:List Expr}{k k':Nat}{p p':Pos}(h:vs.all (foldedForSure 8)=true) (env:Env):swappedStores [.Tuple ts k p] (.Tuple vs k' p') env=pure none:=by
 unfold swappedStores
 refine ite_both rfl (ite_both rfl (ite_both rfl ?_))
 first | exact if_pos h | (rw [if_pos h])
theorem okAssign_swap {t e:Expr}(h:(plainBase t||(tupTarget t&&(plainValue e||foldedTup e)))=true) (env:Env):swappedStores [t] e env=pure none:=by
 cases hp:plainBase t with
 | true=>cases plainBase_of hp<;>rfl
 | false =>
  rw [hp,Bool.false_or] at h
  have z:=Bool.and_eq_true_iff.mp h
  clear h hp
  induction t using PySem.Expr.casesOn with
  | Tuple ts k p =>
   induction e using PySem.Expr.casesOn with
   | Tuple vs k' p'=>exact swap_folded ((Bool.or_eq_true_iff.mp z.2).elim (fun h=>absurd h Bool.false_ne_true) id) env
   | _=>rfl
  | _=>exact absurd z.1 Bool.false_ne_true
theorem okAssign_each {t:Expr}(h:notStar t=true) (env:Env):(assignEach [t] env).map (·.2)=[assign t env]:=by
 cases t<;>first | rfl | cases h
noncomputable def captW (fr:Vars):List (Str×NameKind)→Option Vars
 | []=>some []
 | (x,k)::r=>bif k == .free then (fr.lookup x).bind fun v=>(captW fr r).bind fun q=>some ((x,v)::q) else captW fr r
theorem captW_is {fr:Vars}{l:List (Str×NameKind)}:∀{q:Vars},captW fr l=some q→Capt fr l q:=by
 induction l with
 | nil=>intro q h; obtain rfl:=Option.some.inj h; exact .nil
 | cons p r ih =>
  obtain ⟨x,k⟩:=p
  intro q h
  unfold captW at h
  cases hk:k == .free with
  | true =>
   rw [hk] at h
   obtain ⟨v,e,h⟩:=Option.bind_eq_some_iff.mp h
   obtain ⟨q',e2,h⟩:=Option.bind_eq_some_iff.mp h
   obtain rfl:=Option.some.inj h
   obtain rfl:=beq_iff_eq.mp hk
   exact .take e (ih e2)
  | false=>rw [hk] at h; exact .skip hk (ih h)
noncomputable def pvStr:PV→Option Str
 | .str x=>some x
 | _=>none
noncomputable def pvInt:PV→Option Int
 | .int x=>some x
 | _=>none
noncomputable def keysV {K:Type}(g:PV→Option K):List (PV×PV)→Option (List (K×PV))
 | []=>some []
 | (k,v)::r=>(g k).bind fun x=>(keysV g r).bind fun q=>some ((x,v)::q)
theorem keysV_is {K:Type}{g:PV→Option K}{c:K→PV}(hg:∀{k x},g k=some x→k=c x) {l:List (PV×PV)}:∀{q:List (K×PV)},keysV g l=some q→l=q.map fun p=>(c p.1,p.2):=by
 induction l with
 | nil=>intro q h; obtain rfl:=Option.some.inj h; rfl
 | cons p r ih =>
  intro q h
  unfold keysV at h
  obtain ⟨x,e,h⟩:=Option.bind_eq_some_iff.mp h
  obtain ⟨q',e2,h⟩:=Option.bind_eq_some_iff.mp h
  obtain rfl:=Option.some.inj h
  rw [ih e2]
  exact congrArg (·::_) (congrArg (·,p.2) (hg e))
noncomputable abbrev strKs:=keysV pvStr
noncomputable abbrev intKs:=keysV pvInt
theorem strKs_is {l:List (PV×PV)}{q:List (Str×PV)}(h:strKs l=some q):l=q.map fun p=>(.str p.1,p.2):=keysV_is (fun {k x} e=>by cases k<;>first | exact congrArg _ (Option.some.inj e) | cases e) h
theorem intKs_is {l:List (PV×PV)}{q:List (Int×PV)}(h:intKs l=some q):l=q.map fun p=>(.int p.1,p.2):=keysV_is (fun {k x} e=>by cases k<;>first | exact congrArg _ (Option.some.inj e) | cases e) h
noncomputable def freshIn {K:Type} [BEq K] (x:K):List K→Bool
 | []=>true
 | y::r=>!(x == y)&&freshIn x r
noncomputable def nodupB {K:Type} [BEq K]:List K→Bool
 | []=>true
 | x::r=>freshIn x r&&nodupB r
theorem freshIn_is {K:Type} [BEq K] [LawfulBEq K] {x:K}{l:List K}(h:freshIn x l=true):x∉l:=by
 induction l with
 | nil=>exact List.not_mem_nil
 | cons y r ih =>
  have z:=Bool.and_eq_true_iff.mp h
  exact fun m=>(List.mem_cons.mp m).elim (fun e=>by have y:=z.1; rw [e,beq_self_eq_true] at y; cases y) (ih z.2)
theorem nodupB_is {K:Type} [BEq K] [LawfulBEq K] {l:List K}(h:nodupB l=true):l.Nodup:=by
 induction l with
 | nil=>exact List.nodup_nil
 | cons x r ih =>
  have z:=Bool.and_eq_true_iff.mp h
  exact List.nodup_cons.mpr ⟨freshIn_is z.1,ih z.2⟩
noncomputable def subW (C:Cfg) (n:Nat) (o i:PV) (H:GHeap) (Q:PV→GHeap→Prop):Prop:=match o,i with
 | .tup xs,.int k=>optT (seqIndex? k xs.length) fun j=>optT xs[j]? fun x=>ifT (decide (-(2^63)≤k)&&decide (k<2^63)) (Q x H)
 | o,i=>SubOf C H o∧Op2Ok C n getItem o i H Q
theorem subW_ok {C:Cfg}{n:Nat}{o i:PV}{H:GHeap}{Q:PV→GHeap→Prop}(h:subW C n o i H Q):SubOf C H o∧Op2Ok C n getItem o i H Q:=by
 induction o using Mine.PV.casesOn with
 | tup xs=>induction i using Mine.PV.casesOn with
  | int k =>
   refine byP fun PG kG=>?_
   obtain ⟨j,hj,h⟩:=optT_is h
   obtain ⟨x,hx,h⟩:=optT_is h
   refine kG ?_
   have z:=ifT_is h
   have y:=Bool.and_eq_true_iff.mp z.1
   exact ⟨.tup _,gi_tup (of_decide_eq_true y.1) (of_decide_eq_true y.2) hj hx z.2⟩
  | _=>exact h
 | _=>exact h
noncomputable def noneW (v:PV) (P:Prop):Prop:=match v with
 | .none=>P
 | _=>False
noncomputable def strKeys (keys:List (Option Expr)):Bool:=keys.all fun k=>match k with
 | some (.Constant (.str _) _ _)=>true
 | _=>false
noncomputable def dictS (Q:PV→GHeap→Prop) (ps:List (PV×PV)) (H:GHeap):Prop:=optT (strKs ps) fun kvs=>ifT (nodupB (kvs.map (·.1))) (∀a,H a=none→Q (.ref a) (H.set a (.sdict kvs)))
noncomputable def dictI (Q:PV→GHeap→Prop) (ps:List (PV×PV)) (H:GHeap):Prop:=optT (intKs ps) fun kvs=>ifT (nodupB (kvs.map (·.1))) (∀a,H a=none→Q (.ref a) (H.set a (.idict kvs)))
noncomputable def newL (Q:PV→GHeap→Prop) (zs:List PV) (H:GHeap):Prop:=∀a,H a=none→Q (.ref a) (H.set a (.list zs))
noncomputable def isSmall {α:Type}:Nat→List α→Bool
 | _,[]=>true
 | 0,_=>false
 | n+1,_::r=>isSmall n r
theorem isSmall_is {α:Type}{l:List α}:∀{n:Nat},isSmall n l=true→l.length≤n:=by
 induction l with
 | nil=>exact fun _=>Nat.zero_le _
 | cons _ r ih=>exact fun {n}=>Nat.casesOn n (fun h=>nomatch h) fun n h=>Nat.succ_le_succ (ih h)
noncomputable def swapB (sc:Scope) (y:Str) (py pos:Pos) (scope:Scope):Bool:=sc.kind == .function&&sc.names.lookup y == some .local&&py.line == pos.line&&!(scope.names.any fun (n,k)=>n == y&&(k == .local||k == .cell))
theorem swapB_is {sc:Scope}{y:Str}{py pos:Pos}{scope:Scope}(h:swapB sc y py pos scope=true) (elt:Expr) (gs:List Comprehension) (l:Nat) (env:Env) (he:env.scope=sc):swapsWith (.ListComp elt gs scope pos) (some (.Name y py)) l env=pure true:=by
 unfold swapB at h
 simp only [Bool.and_eq_true,beq_iff_eq] at h
 refine byP fun PG kG=>?_
 obtain ⟨⟨⟨h1,h2⟩,h3⟩,h4⟩:=h
 refine kG ?_
 have e1:(env.blockKind == .function)=true:=by unfold Env.blockKind; rw [he,h1]; rfl
 have e2:(env.kindOf y == some .local)=true:=by unfold Env.kindOf; rw [he,h2]; rfl
 have e3:(py.line == (Expr.ListComp elt gs scope pos).pos.line)=true:=beq_iff_eq.mpr h3
 unfold swapsWith
 dsimp only
 rw [e1,e2,e3,h4]
 rfl
section
variable {C:Cfg}{n:Nat}{sc:Scope}{H:GHeap}{fr:Vars}
theorem SOk.weaken {st:Stmt}{Q:Fl→Vars→GHeap→Prop}(h:SOk C n sc st fr H fun fl fr' H'=>∃fr2,(∀x v,fr2.lookup x=some v→fr'.lookup x=some v)∧Q fl fr2 H'):SOk C n sc st fr H Q:=⟨fun A kp env s hA S F =>
 h.next hA S F fun _ _ x fr' H' a b c q=>q.elim fun fr2 q=>⟨x,fr2,H',a,b.looks q.1,c,q.2⟩⟩
end
end
section
set_option genCtorIdx false in
inductive OpI where
 | bin (op:Operator) | cmp (op:CmpOp) | cmpt (op:CmpOp) | neg | isInt | tup (n:Nat) | lst (n:Nat)
 | brE (b o:Expr) | brS (b o:List Stmt) | brV (s:Bool) (e:Expr) | brT (s:Bool) (e:Expr) | nt | tru
 | attr (x:Str) | sub | slc | dic (s:Bool) (n:Nat) | comp (e:Expr) | compAs (y:Str) (e:Expr)
 | meth (name:Str) (args:List Expr) | callm (id:String) (n:Nat) | callf (args:List Expr) | calln (n:Nat)
 | ret | retB | retL (n:Nat) | pop | forI (target:Expr) (body:List Stmt) | setA (x:Str) | setI | del
set_option genCtorIdx false in
inductive Ins where
 | ev (e:Expr) | evs (es:List Expr) | ts (e:Expr) | tf (b:Bool) | st (s:Stmt) | ex (ss:List Stmt) | exn (m:Nat) (ss:List Stmt)
 | as (t:Expr) | asl (ts:List Expr) | prs (ks:List (Option Expr)) (vs:List Expr) | prt (e:Option Expr) | op (o:OpI)
noncomputable abbrev RT:=List Ins→List PV→Vars→GHeap→Prop
noncomputable abbrev QT:=Fl→Vars→GHeap→Prop
noncomputable def one? {α:Type}(l:List α):Option α:=match l with
 | []=>none
 | x::r=>(match r with | []=>some x | _::_=>none)
theorem one?_is {α:Type}{l:List α}{x:α}(h:one? l=some x):l=[x]:=by
 induction l using List.casesOn with
 | nil=>cases h
 | cons y r=>induction r using List.casesOn with
  | nil=>cases h; rfl
  | cons _ _=>cases h
noncomputable def oneT {α:Type}(l:List α) (P:α→Prop):Prop:=optT (one? l) P
theorem oneT_is {α:Type}{l:List α}{P:α→Prop}(h:oneT l P):∃x,l=[x]∧P x:=by
 obtain ⟨x,e,p⟩:=optT_is h
 exact ⟨x,one?_is e,p⟩
noncomputable def pop1 (vs:List PV) (P:PV→List PV→Prop):Prop:=match vs with
 | []=>False
 | v::vs=>P v vs
noncomputable def pop2 (vs:List PV) (P:PV→PV→List PV→Prop):Prop:=pop1 vs fun b vs=>pop1 vs fun a vs=>P a b vs
noncomputable def popN:Nat→List PV→List PV→(List PV→List PV→Prop)→Prop
 | 0,acc,vs,P=>P acc vs
 | n+1,acc,vs,P=>pop1 vs fun v vs=>popN n (v::acc) vs P
theorem popN_rev {P:List PV→List PV→Prop}:∀{xs:List PV}{m:Nat}{acc vs:List PV},popN (xs.length+m) acc (xs.reverseAux vs) P→popN m (xs++acc) vs P
 | [],m,acc,vs,h=>by rw [List.length_nil,Nat.zero_add] at h; exact h
 | x::xs,m,acc,vs,h=>by
  rw [List.length_cons,Nat.succ_add_eq_add_succ] at h
  exact popN_rev (xs:=xs) (m:=m+1) (vs:=x::vs) h
theorem popN_all {P:List PV→List PV→Prop}{xs vs:List PV}{n:Nat}(hn:xs.length=n) (h:popN n [] (xs.reverseAux vs) P):P xs vs:=by
 have z:=popN_rev (m:=0) (by rw [Nat.add_zero,hn]; exact h)
 rw [List.append_nil] at z
 exact z
noncomputable def intT (v:PV) (P:Int→Prop):Prop:=match v with
 | .int i=>P i
 | _=>False
theorem intT_is {v:PV}{P:Int→Prop}(h:intT v P):∃i,v=.int i∧P i:=by
 cases v<;>first | exact ⟨_,rfl,h⟩ | exact h.elim
noncomputable def partT (v:PV) (P:Option Int→Prop):Prop:=match v with
 | .none=>P none
 | .int i=>P (some i)
 | _=>False
noncomputable def partPV:Option Int→PV
 | none=>.none
 | some i=>.int i
noncomputable def constPV:Const→Option PV
 | .int i=>some (.int i)
 | .str x=>some (.str x)
 | .none=>some .none
 | .bool b=>some (.bool b)
 | .bytes b=>some (.bytes b.toArray)
 | _=>none
noncomputable def isAnd:BoolOp→Bool
 | .And=>true
 | .Or=>false
noncomputable def isUSub:UnaryOp→Bool
 | .USub=>true
 | _=>false
noncomputable def isNot:UnaryOp→Bool
 | .Not=>true
 | _=>false
noncomputable def pairUp:List PV→List (PV×PV)
 | k::v::r=>(k,v)::pairUp r
 | _=>[]
noncomputable def flat2:List (PV×PV)→List PV
 | []=>[]
 | (k,v)::r=>k::v::flat2 r
theorem pair_flat:∀l:List (PV×PV),pairUp (flat2 l)=l
 | []=>rfl
 | (k,v)::r=>congrArg ((k,v)::·) (pair_flat r)
theorem flat_len:∀l:List (PV×PV),(flat2 l).length=2*l.length
 | []=>rfl
 | _::r=>by show (flat2 r).length+1+1=_; rw [flat_len r]; rfl
noncomputable def contF (r:Vars→GHeap→Prop) (Q:QT):QT:=fun fl fr H=>match fl with
 | .next=>r fr H
 | fl=>Q fl fr H
noncomputable def contG (r:Vars→GHeap→Prop) (Q:QT) (fr:Vars) (H:GHeap) (fl:Fl):Prop:=match fl with
 | .next=>r fr H
 | fl=>Q fl fr H
noncomputable def compT (e:Expr) (P:Expr→Expr→Expr→List Expr→Scope→Pos→Prop):Prop:=match e with
 | .ListComp elt gs scope pos=>oneT gs fun g=>P elt g.target g.iter g.ifs scope pos
 | _=>False
noncomputable def methP:Expr→Option (Expr×Str×Pos)
 | .Attribute o name apos=>some (o,name,apos)
 | _=>none
noncomputable def dicW (s:Bool) (Q:PV→GHeap→Prop) (ps:List (PV×PV)) (H:GHeap):Prop:=match s with
 | true=>dictS Q ps H
 | false=>dictI Q ps H
section
variable (C:Cfg) (n:Nat) (sc:Scope) (Q:QT) (R:RT)
noncomputable def opI (o:OpI) (K:List Ins) (vs:List PV) (fr:Vars) (H:GHeap):Prop:=match o with
 | .bin op=>pop2 vs fun a b vs=>binW C n op a b H fun v H1=>R K (v::vs) fr H1
 | .cmp op=>pop2 vs fun a b vs=>cmpW C n op a b H fun v H1=>R K (v::vs) fr H1
 | .cmpt op=>pop2 vs fun a b vs=>cmpT C n op a b H fun q H1=>R (.tf q::K) vs fr H1
 | .neg=>pop1 vs fun v vs=>intT v fun i=>R K (.int (-i)::vs) fr H
 | .isInt=>pop1 vs fun v vs=>intT v fun i=>R K (.int i::vs) fr H
 | .tup ln=>popN ln [] vs fun xs vs=>ifT (isSmall 1000 xs) (R K (.tup xs::vs) fr H)
 | .lst ln=>popN ln [] vs fun xs vs=>ifT (isSmall 1000 xs) (∀a,H a=none→R K (.ref a::vs) fr (H.set a (.list xs)))
 | .brV s e=>pop1 vs fun a vs=>truV a fun b=>match b == s with | true=>R (.ev e::K) vs fr H | false=>R K (a::vs) fr H
 | .tru=>pop1 vs fun x vs=>truT x H fun b H1=>R (.tf b::K) vs fr H1
 | .attr x=>pop1 vs fun o vs=>∃w,HasA C H o x w∧R K (w::vs) fr H
 | .sub=>pop2 vs fun o i vs=>subW C n o i H fun v H1=>R K (v::vs) fr H1
 | .slc=>pop2 vs fun l u vs=>partT l fun lo=>partT u fun hi=>R K (.slc lo hi::vs) fr H
 | .dic s ln=>popN (2*ln) [] vs fun xs vs=>ifT (isSmall 1000 (pairUp xs)) (dicW s (fun v H1=>R K (v::vs) fr H1) (pairUp xs) H)
 | .comp e=>pop1 vs fun pv vs=>compT e fun elt target iter ifs scope pos=>optT (captW fr scope.names) fun frC=>∃kk xs,Src C H kk pv xs∧notBarr kk=true∧xs.length≤1000 ∧
   CpOk C n (relC scope) elt target iter ifs scope pos kk pv xs 0 [] frC H (newL fun v H1=>R K (v::vs) fr H1)
 | .compAs y e=>pop1 vs fun pv vs=>compT e fun elt target iter ifs scope pos=>optT (captW fr scope.names) fun frC=>∃kk xs,Src C H kk pv xs∧notBarr kk=true∧xs.length≤1000 ∧
   CpOk C n (relC scope) elt target iter ifs scope pos kk pv xs 0 [] frC H (newL fun v H1=>R K vs ((y,v)::fr) H1)
 | .meth name args=>pop1 vs fun ov _=>optT (methT name) fun t=>(∃T,methT name=some (T,t.2)∧MethOf C H ov T)∧R (.evs args::.op (.callm t.2 args.length)::K) vs fr H
 | .callm id ln=>popN ln [] vs fun xs vs=>pop1 vs fun ov vs=>CallOk C n (.val (.builtin id)) (ov::xs) H fun v H1=>R K (v::vs) fr H1
 | .callf args=>pop1 vs fun g _=>ifT (fnKnown g) (R (.evs args::.op (.calln args.length)::K) vs fr H)
 | .calln ln=>popN ln [] vs fun xs vs=>pop1 vs fun g vs=>CallOk C n g xs H fun v H1=>R K (v::vs) fr H1
 | .ret=>pop1 vs fun v _=>Q (.ret v) fr H
 | .retL ln=>popN ln [] vs fun xs _=>Q (.ret (.tup xs)) fr H
 | .pop=>pop1 vs fun v vs=>noneW v (R K vs fr H)
 | .forI target body=>pop1 vs fun v vs=>∃kk xs,Src C H kk v xs∧xs.length<2^62∧ForOk C n sc target body kk v xs 0 fr H fun fl fr1 H1=>contG (R K vs) Q fr1 H1 fl
 | .setA x=>pop2 vs fun v o vs=>∃H2,PutA C H o x v H2∧R K vs fr H2
 | .setI=>pop1 vs fun i vs=>pop2 vs fun v o vs=>SetOk C n o i v H fun H2=>R K vs fr H2
 | .del=>pop2 vs fun o i vs=>DelOk C n o i H fun H2=>R K vs fr H2
 | _=>False
noncomputable def tfI (b:Bool) (K:List Ins) (vs:List PV) (fr:Vars) (H:GHeap):Prop:=match K with
 | []=>False
 | i::K=>(match i with
  | .op o=>(match o with
   | .brE x y=>(match b with | true=>R (.ev x::K) vs fr H | false=>R (.ev y::K) vs fr H)
   | .brS x y=>(match b with | true=>R (.ex x::K) vs fr H | false=>R (.ex y::K) vs fr H)
   | .brT s e=>(match b == s with | true=>R (.ts e::K) vs fr H | false=>R (.tf b::K) vs fr H)
   | .nt=>R (.tf (!b)::K) vs fr H
   | .retB=>Q (.ret (.bool b)) fr H
   | _=>False)
  | _=>False)
noncomputable def nameI (x:Str) (K:List Ins) (vs:List PV) (fr:Vars) (H:GHeap) (o:Option PV):Prop:=match o with
 | some v=>ifT (ownName sc x) (R K (v::vs) fr H)
 | none=>ifT (sc.names.lookup x == some .globalImplicit) (optT (gt x) fun v=>R K (v::vs) fr H)
noncomputable def callI (f:Expr) (args:List Expr) (pos:Pos) (K:List Ins) (vs:List PV) (fr:Vars) (H:GHeap):Prop:=match methP f with
 | some t=>ifT (plainBase t.1&&(t.2.2.endLine == pos.line)&&isSmall 29 args&&(methT t.2.1).isSome) (R (.ev t.1::.op (.meth t.2.1 args)::K) vs fr H)
 | none=>R (.ev f::.op (.callf args)::K) vs fr H
noncomputable def evI (e:Expr) (K:List Ins) (vs:List PV) (fr:Vars) (H:GHeap):Prop:=match e with
 | .Constant c _ _=>optT (constPV c) fun v=>R K (v::vs) fr H
 | .Name x _=>nameI sc R x K vs fr H (fr.lookup x)
 | .BinOp l op r _=>R (.ev l::.ev r::.op (.bin op)::K) vs fr H
 | .Compare l ops rs _=>oneT ops fun op=>oneT rs fun r=>ifT (!behindInMarks op r) (R (.ev l::.ev r::.op (.cmp op)::K) vs fr H)
 | .UnaryOp op x _=>ifT (isUSub op) (R (.ev x::.op .neg::K) vs fr H)
 | .Tuple es _ _=>R (.evs es::.op (.tup es.length)::K) vs fr H
 | .List es _=>R (.evs es::.op (.lst es.length)::K) vs fr H
 | .IfExp t b o _=>R (.ts t::.op (.brE b o)::K) vs fr H
 | .BoolOp op es pos=>(match es with
  | []=>False
  | x::rest=>(match rest with
   | []=>R (.ev x::K) vs fr H
   | _::_=>R (.ev x::.op (.brV (isAnd op) (.BoolOp op rest pos))::K) vs fr H))
 | .Attribute o x _=>ifT (plainBase o) (R (.ev o::.op (.attr x)::K) vs fr H)
 | .Subscript o i _=>R (.ev o::.ev i::.op .sub::K) vs fr H
 | .Slice lo hi st _=>(match st with
  | none=>R (.prt lo::.prt hi::.op .slc::K) vs fr H
  | some _=>False)
 | .Dict keys values _=>(match keys with
  | []=>EvOk C n sc e fr H fun v H1=>R K (v::vs) fr H1
  | _::_=>ifT (keys.all (·.isSome)&&(keys.length == values.length)&&isSmall 15 keys) (R (.prs keys values::.op (.dic (strKeys keys) keys.length)::K) vs fr H))
 | .ListComp _ gs scope _=>oneT gs fun g=>ifT ((g.is_async == 0)&&compScope sc scope&&foldOk g.iter&&(captW fr scope.names).isSome) (R (.ev g.iter::.op (.comp e)::K) vs fr H)
 | .Call f args kws pos=>ifT (kws.isEmpty&&args.all notStar) (callI R f args pos K vs fr H)
 | _=>EvOk C n sc e fr H fun v H1=>R K (v::vs) fr H1
noncomputable def tsI (e:Expr) (K:List Ins) (vs:List PV) (fr:Vars) (H:GHeap):Prop:=match e with
 | .Compare l ops rs _=>oneT ops fun op=>oneT rs fun r=>ifT (!behindInMarks op r) (R (.ev l::.ev r::.op (.cmpt op)::K) vs fr H)
 | .UnaryOp op x _=>ifT (isNot op) (R (.ts x::.op .nt::K) vs fr H)
 | .BoolOp op es pos=>(match es with
  | []=>R (.tf (isAnd op)::K) vs fr H
  | x::rest=>R (.ts x::.op (.brT (isAnd op) (.BoolOp op rest pos))::K) vs fr H)
 | e=>ifT (plainTest e) (R (.ev e::.op .tru::K) vs fr H)
noncomputable def asgI (t e:Expr) (K:List Ins) (vs:List PV) (fr:Vars) (H:GHeap):Prop:=match e with
 | .ListComp _ gs scope pos=>(match t with
  | .Name y py=>oneT gs fun g=>ifT ((g.is_async == 0)&&compScope sc scope&&foldOk g.iter&&putName sc y&&swapB sc y py pos scope&&(captW fr scope.names).isSome) (R (.ev g.iter::.op (.compAs y e)::K) vs fr H)
  | .Attribute _ _ _=>R (.ev e::.as t::K) vs fr H
  | _=>False)
 | e=>ifT (okAssign t e) (R (.ev e::.as t::K) vs fr H)
noncomputable def stI (s:Stmt) (K:List Ins) (vs:List PV) (fr:Vars) (H:GHeap):Prop:=match s with
 | .Assign ts e _=>oneT ts fun t=>asgI sc R t e K vs fr H
 | .Return v _=>(match v with
  | some e=>R [.ev e,.op .ret] vs fr H
  | none=>Q (.ret .none) fr H)
 | .If t b o _=>R (.ts t::.op (.brS b o)::K) vs fr H
 | .Expr e _=>ifT (noComp e) (R (.ev e::.op .pop::K) vs fr H)
 | .Break _=>Q .brk fr H
 | .For target iter body els _=>ifT (els.isEmpty&&foldOk iter) (R (.ev iter::.op (.forI target body)::K) vs fr H)
 | .While test body els _=>ifT els.isEmpty (WhOk C n sc test body fr H fun fl fr1 H1=>contG (R K vs) Q fr1 H1 fl)
 | .Delete ts _=>oneT ts fun t=>(match t with
  | .Subscript o i _=>R (.ev o::.ev i::.op .del::K) vs fr H
  | _=>False)
 | s=>SOk C n sc s fr H fun fl fr1 H1=>contG (R K vs) Q fr1 H1 fl
noncomputable def asI (t:Expr) (K:List Ins) (vs:List PV) (fr:Vars) (H:GHeap):Prop:=pop1 vs fun v vs=>match t with
 | .Name x _=>ifT (putName sc x) (R K vs ((x,v)::fr) H)
 | .Tuple ts _ _=>(match v with
  | .tup xs=>ifT ((xs.length == ts.length)&&ts.all notStar&&isSmall 900 ts) (R (.asl ts::K) (xs++vs) fr H)
  | .ref a=>∃xs,LsAt C H a xs∧ifT ((xs.length == ts.length)&&ts.all notStar&&isSmall 900 ts) (R (.asl ts::K) (xs++vs) fr H)
  | _=>False)
 | .Attribute o x _=>R (.ev o::.op (.setA x)::K) (v::vs) fr H
 | .Subscript o i _=>R (.ev o::.ev i::.op .setI::K) (v::vs) fr H
 | _=>False
noncomputable def insI (i:Ins) (K:List Ins) (vs:List PV) (fr:Vars) (H:GHeap):Prop:=match i with
 | .ev e=>evI C n sc R e K vs fr H
 | .evs es=>(match es with
  | []=>R K vs fr H
  | e::es=>ifT (notStar e) (R (.ev e::.evs es::K) vs fr H))
 | .ts e=>tsI R e K vs fr H
 | .tf b=>tfI Q R b K vs fr H
 | .st s=>stI C n sc Q R s K vs fr H
 | .ex ss=>(match ss with
  | []=>R K vs fr H
  | s::ss=>R (.st s::.ex ss::K) vs fr H)
 | .exn m ss=>(match m with
  | 0=>ExOk C n sc ss fr H Q
  | m+1=>(match ss with
   | []=>Q .next fr H
   | s::ss=>R [.st s,.exn m ss] vs fr H))
 | .as t=>asI C sc R t K vs fr H
 | .asl ts=>(match ts with
  | []=>R K vs fr H
  | t::ts=>ifT (notStar t) (R (.as t::.asl ts::K) vs fr H))
 | .prs ks es=>(match ks,es with
  | [],[]=>R K vs fr H
  | some k::ks,e::es=>R (.ev k::.ev e::.prs ks es::K) vs fr H
  | _,_=>False)
 | .prt e=>(match e with
  | none=>R K (.none::vs) fr H
  | some e=>R (.ev e::.op .isInt::K) vs fr H)
 | .op o=>opI C n sc Q R o K vs fr H
noncomputable def goI (K:List Ins) (vs:List PV) (fr:Vars) (H:GHeap):Prop:=match K with
 | []=>Q .next fr H
 | i::K=>insI C n sc Q R i K vs fr H
end
noncomputable def go (C:Cfg) (n:Nat) (sc:Scope) (Q:QT):Nat→RT
 | 0,_,_,_,_=>False
 | k+1,K,vs,fr,H=>goI C n sc Q (go C n sc Q k) K vs fr H
end
section
section
variable {C:Cfg}{n:Nat}{sc:Scope}{H:GHeap}{fr:Vars}
theorem Op2Ok.mono {f:Value→Value→Sem Value}{a b:PV}{Q Q':PV→GHeap→Prop}(h:Op2Ok C n f a b H Q) (q:∀x H',Q x H'→Q' x H'):Op2Ok C n f a b H Q':=⟨fun A kp s u v hA S t1 t2 =>
 wpAny_mono (h.run A kp s u v hA S t1 t2) (fun _ _ b=>b.casesOn fun x H' S' t z=>⟨x,H',S',t,q _ _ z⟩) fun _ _ x=>x⟩
theorem EvsOk.mono {es:List Expr}{Q Q':List PV→GHeap→Prop}(h:EvsOk C n sc es fr H Q) (q:∀x H',Q x H'→Q' x H'):EvsOk C n sc es fr H Q':=⟨fun pos A kp env s hA S F =>
 wpAny_mono (h.run pos A kp env s hA S F) (fun _ _ b=>b.casesOn fun x H' S F t z=>⟨x,H',S,F,t,q _ _ z⟩) fun _ _ x=>x⟩
theorem TsOk.mono {e:Expr}{Q Q':Bool→GHeap→Prop}(h:TsOk C n sc e fr H Q) (q:∀x H',Q x H'→Q' x H'):TsOk C n sc e fr H Q':=⟨fun A kp env s hA S F =>
 wpAny_mono (h.run A kp env s hA S F) (fun _ _ b=>b.casesOn fun H' S F z=>⟨H',S,F,q _ _ z⟩) fun _ _ x=>x⟩
theorem SOk.mono {st:Stmt}{Q Q':QT}(h:SOk C n sc st fr H Q) (q:∀x fr' H',Q x fr' H'→Q' x fr' H'):SOk C n sc st fr H Q':=⟨fun A kp env s hA S F =>
 wpAny_mono (h.run A kp env s hA S F) (fun _ _ b=>b.casesOn fun x fr' H' S F t z=>⟨x,fr',H',S,F,t,q _ _ _ z⟩) fun _ _ x=>x⟩
theorem AsOk.mono {t:Expr}{v:PV}{Q Q':Vars→GHeap→Prop}(h:AsOk C n sc t v fr H Q) (q:∀fr' H',Q fr' H'→Q' fr' H'):AsOk C n sc t v fr H Q':=⟨fun A kp env s u hA S F T =>
 wpAny_mono (h.run A kp env s u hA S F T) (fun _ _ b=>b.imp fun _ b=>b.imp fun _ b=>⟨b.1,b.2.1,q _ _ b.2.2⟩) fun _ _ x=>x⟩
theorem AssOk.mono {t:List Expr}{v:List PV}{Q Q':Vars→GHeap→Prop}(h:AssOk C n sc t v fr H Q) (q:∀fr' H',Q fr' H'→Q' fr' H'):AssOk C n sc t v fr H Q':=⟨fun A kp env s u hA S F T =>
 wpAny_mono (h.run A kp env s u hA S F T) (fun _ _ b=>b.imp fun _ b=>b.imp fun _ b=>⟨b.1,b.2.1,q _ _ b.2.2⟩) fun _ _ x=>x⟩
theorem PrsOk.mono {ks:List (Option Expr)}{vs:List Expr}{Q Q':List (PV×PV)→GHeap→Prop}(h:PrsOk C n sc ks vs fr H Q) (q:∀x H',Q x H'→Q' x H'):PrsOk C n sc ks vs fr H Q':=⟨fun pos A kp env s hA S F =>
 wpAny_mono (h.run pos A kp env s hA S F) (fun _ _ b=>b.imp fun _ b=>b.imp fun _ b=>⟨b.1,b.2.1,b.2.2.1,b.2.2.2.1,q _ _ b.2.2.2.2⟩) fun _ _ x=>x⟩
theorem PartOk.mono {e:Option Expr}{Q Q':Option Int→GHeap→Prop}(h:PartOk C n sc e fr H Q) (q:∀x H',Q x H'→Q' x H'):PartOk C n sc e fr H Q':=⟨fun A kp env s hA S F =>
 wpAny_mono (h.run A kp env s hA S F) (fun _ _ b=>b.imp fun _ b=>b.imp fun _ b=>⟨b.1,b.2.1,b.2.2.1,q _ _ b.2.2.2⟩) fun _ _ x=>x⟩
theorem SetOk.mono {o i v:PV}{Q Q':GHeap→Prop}(h:SetOk C n o i v H Q) (q:∀H',Q H'→Q' H'):SetOk C n o i v H Q':=⟨fun A kp s uo ui uv hA S t1 t2 t3 =>
 wpAny_mono (h.run A kp s uo ui uv hA S t1 t2 t3) (fun _ _ b=>b.imp fun _ b=>⟨b.1,q _ b.2⟩) fun _ _ x=>x⟩
theorem DelOk.mono {o i:PV}{Q Q':GHeap→Prop}(h:DelOk C n o i H Q) (q:∀H',Q H'→Q' H'):DelOk C n o i H Q':=⟨fun A kp s uo ui hA S t1 t2 =>
 wpAny_mono (h.run A kp s uo ui hA S t1 t2) (fun _ _ b=>b.imp fun _ b=>⟨b.1,q _ b.2⟩) fun _ _ x=>x⟩
theorem BackF.mono {kp:Kp}{env:Env}{Q Q':QT}{f:Flow}{s':Shared}(b:BackF C sc kp env Q f s') (q:∀x fr' H',Q x fr' H'→Q' x fr' H'):BackF C sc kp env Q' f s' :=
 b.casesOn fun x fr' H' S F t z=>⟨x,fr',H',S,F,t,q _ _ _ z⟩
theorem ForOk.mono {target:Expr}{body:List Stmt}{k:Sk}{pv:PV}{xs:List PV}{i:Nat}{Q Q':QT}(h:ForOk C n sc target body k pv xs i fr H Q) (q:∀x fr' H',Q x fr' H'→Q' x fr' H'):ForOk C n sc target body k pv xs i fr H Q' :=
 ⟨fun A kp env s I hA S F z1 z2 z3 z4=>codeAny_mono (h.run A kp env s I hA S F z1 z2 z3 z4) fun _ _ b=>b.imp fun _ b=>⟨b.1,b.2.mono q⟩⟩
theorem WhOk.mono {test:Expr}{body:List Stmt}{Q Q':QT}(h:WhOk C n sc test body fr H Q) (q:∀x fr' H',Q x fr' H'→Q' x fr' H'):WhOk C n sc test body fr H Q' :=
 ⟨fun A kp env s hA S F=>codeAny_mono (h.run A kp env s hA S F) fun _ _ b=>b.imp fun _ b=>⟨b.1,b.2.mono q⟩⟩
theorem CpOk.mono {elt target iter:Expr}{ifs:List Expr}{scope:Scope}{pos:Pos}{k:Sk}{pv:PV}{xs:List PV}{i:Nat}{ys:List PV}{Q Q':List PV→GHeap→Prop}(h:CpOk C n sc elt target iter ifs scope pos k pv xs i ys fr H Q) (q:∀x H',Q x H'→Q' x H'):CpOk C n sc elt target iter ifs scope pos k pv xs i ys fr H Q' :=
 ⟨fun A kp env s I D hA S F z1 z2 z3 z4 z5 z6 z7 z8 z9=>codeAny_mono (h.run A kp env s I D hA S F z1 z2 z3 z4 z5 z6 z7 z8 z9) fun _ _ b=>⟨b.1,b.2.imp fun _ b=>b.imp fun _ b=>b.imp fun _ b=>⟨b.1,b.2.1,b.2.2.1,b.2.2.2.1,q _ _ b.2.2.2.2⟩⟩⟩
theorem contF_mono {r r':Vars→GHeap→Prop}{Q:QT}(h:∀fr H,r fr H→r' fr H):∀fl fr H,contF r Q fl fr H→contF r' Q fl fr H:=fun fl fr H z=>by
 induction fl using Mine.Fl.casesOn with
 | next=>exact h _ _ z
 | _=>exact z
theorem optT_mono {α:Type}{o:Option α}{P P':α→Prop}(h:optT o P) (k:∀x,P x→P' x):optT o P':=by
 induction o using Option.casesOn with
 | none=>exact h
 | some x=>exact k _ h
theorem ifT_mono {b:Bool}{P P':Prop}(h:ifT b P) (k:P→P'):ifT b P':=by
 induction b using Bool.casesOn with
 | true=>exact k h
 | false=>exact h
theorem dictS_ok {keys:List (Option Expr)}{values:List Expr}{pos:Pos}{Q:PV→GHeap→Prop}(h:PrsOk C n sc keys values fr H fun ps H1=>ps.length≤1000∧dictS Q ps H1)
  (hall:keys.all (·.isSome)=true) (hl:keys.length=values.length) (h0:keys≠[]) (hlen:keys.length≤15):EvOk C n sc (.Dict keys values pos) fr H Q :=
 ev_dict_str (h.mono fun ps H1 h=>by
  have hz:=h.1
  obtain ⟨kvs,e,h⟩:=optT_is h.2
  obtain ⟨e2,h⟩:=ifT_is h
  have e':=strKs_is e
  exact ⟨kvs,e',nodupB_is e2,by rw [e',List.length_map] at hz; exact hz,h⟩) hall hl h0 hlen
theorem dictI_ok {keys:List (Option Expr)}{values:List Expr}{pos:Pos}{Q:PV→GHeap→Prop}(h:PrsOk C n sc keys values fr H fun ps H1=>ps.length≤1000∧dictI Q ps H1)
  (hall:keys.all (·.isSome)=true) (hl:keys.length=values.length) (h0:keys≠[]) (hlen:keys.length≤15):EvOk C n sc (.Dict keys values pos) fr H Q :=
 ev_dict_int (h.mono fun ps H1 h=>by
  have hz:=h.1
  obtain ⟨kvs,e,h⟩:=optT_is h.2
  obtain ⟨e2,h⟩:=ifT_is h
  have e':=intKs_is e
  exact ⟨kvs,e',nodupB_is e2,by rw [e',List.length_map] at hz; exact hz,h⟩) hall hl h0 hlen
end
structure Snd (C:Cfg) (n:Nat) (sc:Scope) (Q:QT) (G:RT):Prop where
 nil:∀{vs fr H},G [] vs fr H→Q .next fr H
 un:∀{i K vs fr H},G (i::K) vs fr H→∃R:RT,(∀{K vs fr H},R K vs fr H→G K vs fr H)∧insI C n sc Q R i K vs fr H
 ev:∀{e K vs fr H},G (.ev e::K) vs fr H→EvOk C n sc e fr H fun v H1=>G K (v::vs) fr H1
 evs:∀{es K vs fr H},G (.evs es::K) vs fr H→EvsOk C n sc es fr H fun xs H1=>xs.length=es.length∧G K (xs.reverseAux vs) fr H1
 ts:∀{e K vs fr H},G (.ts e::K) vs fr H→TsOk C n sc e fr H fun b H1=>G (.tf b::K) vs fr H1
 st:∀{s K vs fr H},G (.st s::K) vs fr H→SOk C n sc s fr H (contF (G K vs) Q)
 ex:∀{ss K vs fr H},G (.ex ss::K) vs fr H→ExOk C n sc ss fr H (contF (G K vs) Q)
 exn:∀{m ss vs fr H},G [.exn m ss] vs fr H→ExOk C n sc ss fr H Q
 as:∀{t v K vs fr H},G (.as t::K) (v::vs) fr H→AsOk C n sc t v fr H (G K vs)
 asl:∀{ts xs K vs fr H},xs.length=ts.length→G (.asl ts::K) (xs++vs) fr H→AssOk C n sc ts xs fr H (G K vs)
 prs:∀{ks es K vs fr H},G (.prs ks es::K) vs fr H→PrsOk C n sc ks es fr H fun ps H1=>ps.length=ks.length∧G K ((flat2 ps).reverseAux vs) fr H1
 prt:∀{e K vs fr H},G (.prt e::K) vs fr H→PartOk C n sc e fr H fun o H1=>G K (partPV o::vs) fr H1
section
variable {C:Cfg}{n:Nat}{sc:Scope}{Q:QT}{G R:RT}(S:Snd C n sc Q G) (hR:∀{K vs fr H},R K vs fr H→G K vs fr H) {K:List Ins}{vs:List PV}{fr:Vars}{H:GHeap}
include S
theorem op_at {P:Prop}{o:OpI}(h:G (.op o::K) vs fr H) (k:∀R:RT,(∀{K vs fr H},R K vs fr H→G K vs fr H)→opI C n sc Q R o K vs fr H→P):P:=by
 obtain ⟨R,a,b⟩:=S.un h
 exact k R a b
theorem tf_at {P:Prop}{b:Bool}(h:G (.tf b::K) vs fr H) (k:∀R:RT,(∀{K vs fr H},R K vs fr H→G K vs fr H)→tfI Q R b K vs fr H→P):P:=by
 obtain ⟨R,a,b⟩:=S.un h
 exact k R a b
include hR
theorem evI_ok (hW:WOK C) {e:Expr}(h:evI C n sc R e K vs fr H):EvOk C n sc e fr H fun v H1=>G K (v::vs) fr H1:=by
 induction e using PySem.Expr.casesOn with
 | Constant c k pos =>
  obtain ⟨v,e,q⟩:=optT_is h
  cases c<;>cases e
  ·exact ev_none (hR q)
  ·exact ev_bool (hR q)
  ·exact ev_int (hR q)
  ·exact ev_str (hR q)
  ·exact ev_bytes (hR q)
 | Name x pos =>
  have h:nameI sc R x K vs fr H (fr.lookup x):=h
  cases e:fr.lookup x with
  | some v =>
   rw [e] at h
   obtain ⟨e1,q⟩:=ifT_is h
   exact ev_name e1 e (hR q)
  | none =>
   rw [e] at h
   refine byP fun PG kG=>?_
   obtain ⟨e1,h⟩:=ifT_is h
   obtain ⟨v,e2,q⟩:=optT_is h
   obtain ⟨c,hc⟩:=gt_mem e2
   refine kG ?_
   exact ev_glob (by simpa using e1) (hW.g _ hc) (hR q)
 | BinOp l op r pos=>exact ev_binop ((S.ev (hR h)).mono fun a H1 h=>(S.ev h).mono fun b H2 h=>op_at S h fun R hR h=>(binW_ok (show binW C n op a b H2 fun v H1=>R K (v::vs) fr H1 from h)).mono fun _ _=>hR)
 | Compare l ops rs pos =>
  refine byP fun PG kG=>?_
  obtain ⟨op,e1,h1⟩:=oneT_is h
  obtain ⟨r,e2,h2⟩:=oneT_is h1
  obtain ⟨e,h3⟩:=ifT_is h2
  refine kG ?_
  subst e1
  subst e2
  exact ev_compare ((S.ev (hR h3)).mono fun a H1 h=>(S.ev h).mono fun b H2 h=>op_at S h fun R hR h=>(cmpW_ok (show cmpW C n op a b H2 fun v H1=>R K (v::vs) fr H1 from h)).mono fun _ _=>hR) (by simpa using e)
 | UnaryOp op x pos =>
  obtain ⟨e,h⟩:=ifT_is h
  induction op using PySem.UnaryOp.casesOn with
  | USub =>
   refine ev_neg (i:=0) ((S.ev (hR h)).mono fun a H1 h=>op_at S h fun R hR h=>?_)
   obtain ⟨i,e,h⟩:=intT_is h
   exact ⟨i,e,hR h⟩
  | _=>cases e
 | Tuple es k pos =>
  refine ev_tuple ((S.evs (hR h)).mono fun xs H1 h=>op_at S h.2 fun R hR z=>?_)
  obtain ⟨e,z⟩:=ifT_is (popN_all h.1 z)
  exact ⟨isSmall_is e,hR z⟩
 | List es pos =>
  refine ev_list ((S.evs (hR h)).mono fun xs H1 h=>op_at S h.2 fun R hR z=>?_)
  obtain ⟨e,z⟩:=ifT_is (popN_all h.1 z)
  exact ⟨isSmall_is e,fun a ha=>hR (z a ha)⟩
 | IfExp t b o pos =>
  refine ev_ifexp ((S.ts (hR h)).mono fun c H1 h=>tf_at S h fun R hR h=>⟨fun e=>?_,fun e=>?_⟩)<;>subst e
  ·exact S.ev (hR h)
  ·exact S.ev (hR h)
 | BoolOp op es pos =>
  induction es using List.casesOn with
  | nil=>exact h.elim
  | cons x rest =>
   induction rest using List.casesOn with
   | nil=>exact ev_bool1 (S.ev (hR h))
   | cons y rest =>
    induction op using PySem.BoolOp.casesOn with
    | And =>
     refine ev_and ((S.ev (hR h)).mono fun a H1 h=>op_at S h fun R hR h=>?_)
     obtain ⟨b,tb,q⟩:=truV_ok (show truV a fun b=>match b == true with | true=>R (.ev (.BoolOp .And (y::rest) pos)::K) vs fr H1 | false=>R K (a::vs) fr H1 from h)
     exact ⟨b,tb,fun e=>by subst e; exact S.ev (hR q),fun e=>by subst e; exact hR q⟩
    | Or =>
     refine ev_or ((S.ev (hR h)).mono fun a H1 h=>op_at S h fun R hR h=>?_)
     obtain ⟨b,tb,q⟩:=truV_ok (show truV a fun b=>match b == false with | true=>R (.ev (.BoolOp .Or (y::rest) pos)::K) vs fr H1 | false=>R K (a::vs) fr H1 from h)
     exact ⟨b,tb,fun e=>by subst e; exact hR q,fun e=>by subst e; exact S.ev (hR q)⟩
 | Attribute o x pos =>
  obtain ⟨e,h⟩:=ifT_is h
  refine ev_attr ((S.ev (hR h)).mono fun a H1 h=>op_at S h fun R hR h=>?_) e
  obtain ⟨w,p,q⟩:=h
  cases p with | mk a b c d e=>exact ga_inst a b c d e (hR q)
 | Subscript o i pos=>exact ev_sub ((S.ev (hR h)).mono fun a H1 h=>(S.ev h).mono fun b H2 h=>op_at S h fun R hR h=>have z:=subW_ok (show subW C n a b H2 fun v H1=>R K (v::vs) fr H1 from h); ⟨z.1,z.2.mono fun _ _=>hR⟩)
 | Slice lo hi st pos =>
  induction st using Option.casesOn with
  | none =>
   refine ev_slice ((S.prt (hR h)).mono fun l H1 h=>(S.prt h).mono fun u H2 h=>op_at S h fun R hR h=>?_)
   cases l<;>cases u<;>exact hR h
  | some _=>exact h.elim
 | Dict keys values pos =>
  induction keys using List.casesOn with
  | nil=>exact h.mono fun _ _=>hR
  | cons k0 keys =>
   refine byP fun PG kG=>?_
   obtain ⟨e,h⟩:=ifT_is h
   obtain ⟨e,e3⟩:=Bool.and_eq_true_iff.mp e
   obtain ⟨e1,e2⟩:=Bool.and_eq_true_iff.mp e
   refine kG ?_
   have key:∀{ps:List (PV×PV)}(s:Bool) {H1:GHeap},ps.length=(k0::keys).length→G (.op (.dic s (k0::keys).length)::K) ((flat2 ps).reverseAux vs) fr H1 →
     ps.length≤1000∧dicW s (fun v H1=>G K (v::vs) fr H1) ps H1:=fun {ps} s {H1} hl h=>op_at S h fun R hR z=>by
    obtain ⟨e,z⟩:=ifT_is (popN_all (P:=fun xs vs=>ifT (isSmall 1000 (pairUp xs)) (dicW s (fun v H1=>R K (v::vs) fr H1) (pairUp xs) H1)) (by rw [flat_len,hl]) z)
    rw [pair_flat] at e z
    refine ⟨isSmall_is e,?_⟩
    induction s using Bool.casesOn with
    | true=>exact optT_mono z fun kvs z=>ifT_mono z fun z a ha=>hR (z a ha)
    | false=>exact optT_mono z fun kvs z=>ifT_mono z fun z a ha=>hR (z a ha)
   have e2:=beq_iff_eq.mp e2
   cases hs:strKeys (k0::keys) with
   | true =>
    rw [hs] at h
    exact dictS_ok ((S.prs (hR h)).mono fun ps H1 h=>key _ h.1 h.2) e1 e2 (fun z=>nomatch z) (isSmall_is e3)
   | false =>
    rw [hs] at h
    exact dictI_ok ((S.prs (hR h)).mono fun ps H1 h=>key _ h.1 h.2) e1 e2 (fun z=>nomatch z) (isSmall_is e3)
 | ListComp elt gs scope pos =>
  refine byP fun PG kG=>?_
  obtain ⟨g,rfl,h⟩:=oneT_is h
  obtain ⟨e,h⟩:=ifT_is h
  obtain ⟨e,ec⟩:=Bool.and_eq_true_iff.mp e
  obtain ⟨e,e4⟩:=Bool.and_eq_true_iff.mp e
  obtain ⟨e1,e3⟩:=Bool.and_eq_true_iff.mp e
  obtain ⟨frC,ec⟩:=Option.isSome_iff_exists.mp ec
  obtain ⟨target,iter,ifs,ia⟩:=g
  refine kG ?_
  have e1:ia=0:=beq_iff_eq.mp e1
  subst e1
  refine ev_listcomp e3 (captW_is ec) ((S.ev (hR h)).mono fun pv H1 h=>op_at S h fun R hR h=>?_) (foldOk_is e4)
  refine byP fun PG kG=>?_
  obtain ⟨frC',e,kk,xs,a,b,c,d⟩:=optT_is h
  refine kG ?_
  rw [ec] at e
  cases e
  exact ⟨kk,xs,a,b,c,d.mono fun _ _ z a ha=>hR (z a ha)⟩
 | Call f args kws pos =>
  obtain ⟨e,hc⟩:=ifT_is h
  obtain ⟨e0,e2⟩:=Bool.and_eq_true_iff.mp e
  clear h
  induction kws using List.casesOn with
  | cons _ _=>cases e0
  | nil =>
   clear e e0
   have h:callI R f args pos K vs fr H:=hc
   clear hc
   have plain:notAttr f=true→R (.ev f::.op (.callf args)::K) vs fr H→EvOk C n sc (.Call f args [] pos) fr H fun v H1=>G K (v::vs) fr H1:=fun hf h=>by
    refine ev_call ((S.ev (hR h)).mono fun g H1 h=>op_at S h fun R hR h=>?_) hf e2
    obtain ⟨e,h⟩:=ifT_is h
    exact ⟨fnKnown_is hW e,(S.evs (hR h)).mono fun xs H2 h=>op_at S h.2 fun R hR z=>CallOk.mono (popN_all h.1 z) fun _ _=>hR⟩
   induction f using PySem.Expr.casesOn with
   | Attribute o name apos =>
    refine byP fun PG kG=>?_
    obtain ⟨e,h⟩:=ifT_is h
    obtain ⟨e,em⟩:=Bool.and_eq_true_iff.mp e
    obtain ⟨e,e5⟩:=Bool.and_eq_true_iff.mp e
    obtain ⟨e3,e4⟩:=Bool.and_eq_true_iff.mp e
    obtain ⟨t,em⟩:=Option.isSome_iff_exists.mp em
    refine kG ?_
    refine ev_method (methT_is (T:=t.1) (id:=t.2) em) ((S.ev (hR h)).mono fun ov H1 h=>op_at S h fun R hR h=>?_) e2 (Nat.lt_succ_of_le (isSmall_is e5)) e4 (plainBase_is e3 _)
    refine byP fun PG kG=>?_
    obtain ⟨t',e,⟨T,e',m⟩,h⟩:=optT_is h
    refine kG ?_
    rw [em] at e e'
    cases e
    obtain rfl:t.1=T:=congrArg Prod.fst (Option.some.inj e')
    exact ⟨m,(S.evs (hR h)).mono fun xs H2 h=>op_at S h.2 fun R hR z=>CallOk.mono (popN_all h.1 z) fun _ _=>hR⟩
   | _=>exact plain rfl h
 | _=>exact h.mono fun _ _=>hR
end
end
section
section
variable {C:Cfg}{n:Nat}{sc:Scope}{Q:QT}{G R:RT}(S:Snd C n sc Q G) (hR:∀{K vs fr H},R K vs fr H→G K vs fr H) {K:List Ins}{vs:List PV}{fr:Vars}{H:GHeap}
include S hR
theorem tsI_ok {e:Expr}(h:tsI R e K vs fr H):TsOk C n sc e fr H fun b H1=>G (.tf b::K) vs fr H1:=by
 have val:∀{e:Expr},ifT (plainTest e) (R (.ev e::.op .tru::K) vs fr H)→TsOk C n sc e fr H fun b H1=>G (.tf b::K) vs fr H1:=fun h=>by
  obtain ⟨e1,h⟩:=ifT_is h
  refine ts_value ((S.ev (hR h)).mono fun x H1 h=>op_at S h fun R hR h=>?_) e1
  obtain ⟨b,tb,q⟩:=truT_ok (Q:=fun b H1=>R (.tf b::K) vs fr H1) h
  exact ⟨b,tb,hR q⟩
 induction e using PySem.Expr.casesOn with
 | Compare l ops rs pos =>
  obtain ⟨op,e1,h1⟩:=oneT_is h
  obtain ⟨r,e2,h2⟩:=oneT_is h1
  obtain ⟨e,h3⟩:=ifT_is h2
  subst e1
  subst e2
  exact ts_compare ((S.ev (hR h3)).mono fun a H1 h=>(S.ev h).mono fun b H2 h=>op_at S h fun R hR h=>(cmpT_ok (show cmpT C n op a b H2 fun b H1=>R (.tf b::K) vs fr H1 from h)).mono fun c H3 z=>z.imp fun q z=>⟨z.1,hR z.2⟩) (by simpa using e)
 | UnaryOp op x pos =>
  obtain ⟨e,h⟩:=ifT_is h
  induction op using PySem.UnaryOp.casesOn with
  | Not=>exact ts_not ((S.ts (hR h)).mono fun b H1 h=>tf_at S h fun R hR h=>hR h)
  | _=>cases e
 | BoolOp op es pos =>
  induction es using List.casesOn with
  | nil=>induction op using PySem.BoolOp.casesOn with
   | And=>exact ts_and_nil (hR h)
   | Or=>exact ts_or_nil (hR h)
  | cons x rest=>induction op using PySem.BoolOp.casesOn with
   | And=>exact ts_and ((S.ts (hR h)).mono fun b H1 h=>tf_at S h fun R hR h=>⟨fun e=>by subst e; exact S.ts (hR h),fun e=>by subst e; exact hR h⟩)
   | Or=>exact ts_or ((S.ts (hR h)).mono fun b H1 h=>tf_at S h fun R hR h=>⟨fun e=>by subst e; exact hR h,fun e=>by subst e; exact S.ts (hR h)⟩)
 | _=>exact val h
theorem asgI_ok {t e:Expr}{pos:Pos}(h:asgI sc R t e K vs fr H):SOk C n sc (.Assign [t] e pos) fr H (contF (G K vs) Q):=by
 have val:∀{e:Expr},ifT (okAssign t e) (R (.ev e::.as t::K) vs fr H)→SOk C n sc (.Assign [t] e pos) fr H (contF (G K vs) Q):=fun h=>by
  obtain ⟨e,h⟩:=ifT_is h
  unfold okAssign at e
  obtain ⟨e,e3⟩:=Bool.and_eq_true_iff.mp e
  obtain ⟨e1,e2⟩:=Bool.and_eq_true_iff.mp e
  exact st_assign ((S.ev (hR h)).mono fun v H1 h=>S.as h) e3 (okAssign_swap e1) (okAssign_each e2)
 induction e using PySem.Expr.casesOn with
 | ListComp elt gs scope cpos =>
  induction t using PySem.Expr.casesOn with
  | Name y py =>
   refine byP fun PG kG=>?_
   obtain ⟨g,e1,h⟩:=oneT_is h
   obtain ⟨e,h⟩:=ifT_is h
   obtain ⟨e,ec⟩:=Bool.and_eq_true_iff.mp e
   obtain ⟨e,e6⟩:=Bool.and_eq_true_iff.mp e
   obtain ⟨e,e5⟩:=Bool.and_eq_true_iff.mp e
   obtain ⟨e,e4⟩:=Bool.and_eq_true_iff.mp e
   obtain ⟨e0,e3⟩:=Bool.and_eq_true_iff.mp e
   obtain ⟨frC,ec⟩:=Option.isSome_iff_exists.mp ec
   obtain ⟨target,iter,ifs,ia⟩:=g
   refine kG ?_
   have e0:ia=0:=beq_iff_eq.mp e0
   subst e0
   subst e1
   refine SOk.weaken (st_comp e3 (captW_is ec) e5 (fun env he=>swapB_is e6 _ _ _ env he) ((S.ev (hR h)).mono fun pv H1 h=>op_at S h fun R hR h=>?_) (foldOk_is e4))
   refine byP fun PG kG=>?_
   obtain ⟨frC',e,kk,xs,a,b,c,d⟩:=optT_is h
   refine kG ?_
   rw [ec] at e
   cases e
   exact ⟨kk,xs,a,b,c,d.mono fun zs H2 u a ha=>⟨_,rfl,_,putD_cons _ _ _,hR (u a ha)⟩⟩
  | Attribute o x p=>exact st_assign_comp ((S.ev (hR h)).mono fun v H1 h=>S.as h) (fun _ _=>rfl) (fun _=>by with_unfolding_all rfl) (fun _=>by with_unfolding_all rfl)
  | _=>exact h.elim
 | _=>exact val h
theorem stI_ok {s:Stmt}(h:stI C n sc Q R s K vs fr H):SOk C n sc s fr H (contF (G K vs) Q):=by
 induction s using PySem.Stmt.casesOn with
 | Assign ts e pos =>
  obtain ⟨t,e1,h⟩:=oneT_is h
  subst e1
  exact asgI_ok S hR h
 | Return v pos =>
  induction v using Option.casesOn with
  | none=>exact st_return0 h
  | some e=>exact st_return ((S.ev (hR h)).mono fun v H1 h=>op_at S h fun R hR h=>h)
 | If t b o pos=>exact st_if ((S.ts (hR h)).mono fun c H1 h=>tf_at S h fun R hR h=>⟨fun e=>by subst e; exact S.ex (hR h),fun e=>by subst e; exact S.ex (hR h)⟩)
 | Expr e pos =>
  obtain ⟨e,h⟩:=ifT_is h
  refine st_expr ((S.ev (hR h)).mono fun v H1 h=>op_at S h fun R hR h=>?_) e
  have h:noneW v (R K vs fr H1):=h
  induction v using Mine.PV.casesOn with
  | none=>exact ⟨rfl,hR h⟩
  | _=>exact h.elim
 | Break pos=>exact st_break h
 | For target iter body els pos =>
  obtain ⟨e,h1⟩:=ifT_is h
  obtain ⟨e0,e⟩:=Bool.and_eq_true_iff.mp e
  induction els using List.casesOn with
  | cons _ _=>cases e0
  | nil =>
   refine st_for ((S.ev (hR h1)).mono fun v H1 h=>op_at S h fun R hR h=>?_) (foldOk_is e)
   refine byP fun PG kG=>?_
   obtain ⟨kk,xs,a,b,c⟩:=h
   refine kG ?_
   exact ⟨kk,xs,a,b,c.mono (contF_mono fun _ _=>hR)⟩
 | While test body els pos =>
  obtain ⟨e0,h1⟩:=ifT_is h
  induction els using List.casesOn with
  | cons _ _=>cases e0
  | nil=>exact st_while (h1.mono (contF_mono fun _ _=>hR))
 | Delete ts pos =>
  obtain ⟨t,e1,h⟩:=oneT_is h
  subst e1
  induction t using PySem.Expr.casesOn with
  | Subscript o i p=>exact st_del ((S.ev (hR h)).mono fun a H1 h=>(S.ev h).mono fun b H2 h=>op_at S h fun R hR h=>DelOk.mono h fun _=>hR)
  | _=>exact h.elim
 | _=>exact SOk.mono h (contF_mono fun _ _=>hR)
theorem asI_ok {t:Expr}{v:PV}(h:asI C sc R t K (v::vs) fr H):AsOk C n sc t v fr H (G K vs):=by
 induction t using PySem.Expr.casesOn with
 | Name x pos =>
  obtain ⟨e,h⟩:=ifT_is h
  exact as_nameC e (hR h)
 | Tuple ts k pos =>
  have key:∀{xs:List PV},Unp C H v xs→ifT ((xs.length == ts.length)&&ts.all notStar&&isSmall 900 ts) (R (.asl ts::K) (xs++vs) fr H)→AsOk C n sc (.Tuple ts k pos) v fr H (G K vs):=fun hu h=>by
   obtain ⟨e,h⟩:=ifT_is h
   obtain ⟨e,e3⟩:=Bool.and_eq_true_iff.mp e
   obtain ⟨e1,e2⟩:=Bool.and_eq_true_iff.mp e
   have e1:=beq_iff_eq.mp e1
   exact as_tuple hu e1 (S.asl e1 (hR h)) e2 (Nat.lt_of_le_of_lt (isSmall_is e3) (by decide))
  induction v using Mine.PV.casesOn with
  | tup xs=>exact key (.tup _) h
  | ref a=>obtain ⟨xs,l,h⟩:=h; exact key (.list l) h
  | _=>exact h.elim
 | Attribute o x pos=>exact as_attr ((S.ev (hR h)).mono fun ov H1 h=>op_at S h fun R hR h=>h.imp fun H2 z=>⟨z.1,hR z.2⟩)
 | Subscript o i pos=>exact as_sub ((S.ev (hR h)).mono fun a H1 h=>(S.ev h).mono fun b H2 h=>op_at S h fun R hR h=>SetOk.mono h fun _=>hR)
 | _=>exact h.elim
end
noncomputable def Fut (C:Cfg) (n:Nat) (sc:Scope) (Q:QT) (k:Nat):RT:=fun K vs fr H=>∃k',k'<k∧go C n sc Q k' K vs fr H
theorem Fut.le {C:Cfg}{n:Nat}{sc:Scope}{Q:QT}{k m:Nat}(h:k≤m) {K:List Ins}{vs:List PV}{fr:Vars}{H:GHeap}(f:Fut C n sc Q k K vs fr H):Fut C n sc Q m K vs fr H:=f.imp fun _ f=>⟨Nat.lt_of_lt_of_le f.1 h,f.2⟩
theorem fut0 {C:Cfg}{n:Nat}{sc:Scope}{Q:QT}{K:List Ins}{vs:List PV}{fr:Vars}{H:GHeap}{P:Prop}(h:Fut C n sc Q 0 K vs fr H):P:=h.elim fun k h=>absurd h.1 (Nat.not_lt_zero k)
theorem snd {C:Cfg}{n:Nat}{sc:Scope}{Q:QT}(hW:WOK C) (k:Nat):Snd C n sc Q (Fut C n sc Q k):=by
 induction k with
 | zero=>exact ⟨fut0,fut0,fut0,fut0,fut0,fut0,fut0,fut0,fut0,fun _=>fut0,fut0,fut0⟩
 | succ k S =>
  have up:∀{K vs fr H},Fut C n sc Q k K vs fr H→Fut C n sc Q (k+1) K vs fr H:=Fut.le (Nat.le_succ k)
  have at_:∀{P:Prop}{i K vs fr H},Fut C n sc Q (k+1) (i::K) vs fr H→(∀R:RT,(∀{K vs fr H},R K vs fr H→Fut C n sc Q k K vs fr H)→insI C n sc Q R i K vs fr H→P)→P:=fun h q=>by
   obtain ⟨k',hk,h⟩:=h
   induction k' using Nat.casesOn with
   | zero=>exact h.elim
   | succ k'=>exact q (go C n sc Q k') (fun z=>⟨k',Nat.lt_of_succ_lt_succ hk,z⟩) h
  refine ⟨fun h=>?_,fun h=>at_ h fun R hR h=>⟨R,fun z=>up (hR z),h⟩,fun h=>at_ h fun R hR h=>(evI_ok S hR hW h).mono fun _ _=>up,fun {es K vs fr H} h=>at_ h fun R hR h=>?_,fun h=>at_ h fun R hR h=>(tsI_ok S hR h).mono fun _ _=>up,
   fun h=>at_ h fun R hR h=>(stI_ok S hR h).mono (contF_mono fun _ _=>up),fun {ss K vs fr H} h=>at_ h fun R hR h=>?_,fun {m ss vs fr H} h=>at_ h fun R hR h=>?_,fun h=>at_ h fun R hR h=>(asI_ok S hR h).mono fun _ _=>up,
   fun {ts xs K vs fr H} hl h=>at_ h fun R hR h=>?_,fun {ks es K vs fr H} h=>at_ h fun R hR h=>?_,fun {e K vs fr H} h=>at_ h fun R hR h=>?_⟩
  ·obtain ⟨k',_,h⟩:=h
   induction k' using Nat.casesOn with
   | zero=>exact h.elim
   | succ k'=>exact h
  ·induction es using List.casesOn with
   | nil=>exact evs_nil ⟨rfl,up (hR h)⟩
   | cons e es =>
    obtain ⟨e1,h⟩:=ifT_is h
    exact evs_cons ((S.ev (hR h)).mono fun x H1 h=>(S.evs h).mono fun xs H2 h=>⟨congrArg (·+1) h.1,up h.2⟩) e1
  ·induction ss using List.casesOn with
   | nil=>exact ex_nil (up (hR h))
   | cons s ss =>
    refine ex_cons ((S.st (hR h)).mono fun fl fr' H' h=>?_)
    induction fl using Mine.Fl.casesOn with
    | next=>exact (S.ex h).mono (contF_mono fun _ _=>up)
    | _=>exact h
  ·induction m using Nat.casesOn with
   | zero=>exact h
   | succ m=>induction ss using List.casesOn with
    | nil=>exact ex_nil h
    | cons s ss =>
     refine ex_cons ((S.st (hR h)).mono fun fl fr' H' h=>?_)
     induction fl using Mine.Fl.casesOn with
     | next=>exact S.exn h
     | _=>exact h
  ·induction ts using List.casesOn with
   | nil=>induction xs using List.casesOn with
    | nil=>exact ass_nil (up (hR h))
    | cons _ _=>cases hl
   | cons t ts=>induction xs using List.casesOn with
    | nil=>cases hl
    | cons x xs =>
     obtain ⟨e1,h⟩:=ifT_is h
     exact ass_cons ((S.as (hR h)).mono fun fr1 H1 h=>(S.asl (Nat.succ.inj hl) h).mono fun _ _=>up) e1
  ·induction ks using List.casesOn with
   | nil=>induction es using List.casesOn with
    | nil=>exact prs_nil ⟨rfl,up (hR h)⟩
    | cons _ _=>exact h.elim
   | cons k0 ks=>induction k0 using Option.casesOn with
    | none=>exact h.elim
    | some k0=>induction es using List.casesOn with
     | nil=>exact h.elim
     | cons e es=>exact prs_cons ((S.ev (hR h)).mono fun x H1 h=>(S.ev h).mono fun y H2 h=>(S.prs h).mono fun ps H3 h=>⟨congrArg (·+1) h.1,up h.2⟩)
  ·induction e using Option.casesOn with
   | none=>exact part_none (up (hR h))
   | some e =>
    refine part_some ((S.ev (hR h)).mono fun v H1 h=>op_at S h fun R hR h=>?_)
    obtain ⟨i,e,h⟩:=intT_is h
    exact ⟨i,e,up (hR h)⟩
set_option genCtorIdx false in
inductive J where
 | ev (e:Expr) (fr:Vars) (H:GHeap) (Q:PV→GHeap→Prop)
 | evs (es:List Expr) (fr:Vars) (H:GHeap) (Q:List PV→GHeap→Prop)
 | ts (e:Expr) (fr:Vars) (H:GHeap) (Q:Bool→GHeap→Prop)
 | st (s:Stmt) (fr:Vars) (H:GHeap) (Q:QT)
 | ex (ss:List Stmt) (fr:Vars) (H:GHeap) (Q:QT)
 | exn (m:Nat) (ss:List Stmt) (fr:Vars) (H:GHeap) (Q:QT)
 | as (t:Expr) (v:PV) (fr:Vars) (H:GHeap) (Q:Vars→GHeap→Prop)
noncomputable def J.Ok (C:Cfg) (n:Nat) (sc:Scope):J→Prop
 | .ev e fr H Q=>EvOk C n sc e fr H Q
 | .evs e fr H Q=>EvsOk C n sc e fr H Q
 | .ts e fr H Q=>TsOk C n sc e fr H Q
 | .st e fr H Q=>SOk C n sc e fr H Q
 | .ex e fr H Q=>ExOk C n sc e fr H Q
 | .exn _ e fr H Q=>ExOk C n sc e fr H Q
 | .as t v fr H Q=>AsOk C n sc t v fr H Q
noncomputable def retQ (Q:PV→GHeap→Prop):QT:=fun fl _ H=>match fl with | .ret v=>Q v H | _=>False
noncomputable def retL (Q:List PV→GHeap→Prop):QT:=fun fl _ H=>match fl with | .ret v=>(match v with | .tup xs=>Q xs H | _=>False) | _=>False
noncomputable def retB (Q:Bool→GHeap→Prop):QT:=fun fl _ H=>match fl with | .ret v=>(match v with | .bool b=>Q b H | _=>False) | _=>False
noncomputable def nextQ (Q:Vars→GHeap→Prop):QT:=fun fl fr H=>match fl with | .next=>Q fr H | _=>False
noncomputable def XP (Q Q':QT):Prop:=∀fl fr H,Q fl fr H→Q' fl fr H
theorem XP.go {Q Q':QT}(h:XP Q Q') {fl:Fl}{fr:Vars}{H:GHeap}(q:Q fl fr H):Q' fl fr H:=h _ _ _ q
theorem XP.ex {C:Cfg}{n:Nat}{sc:Scope}{Q Q':QT}(h:XP Q Q') {ss:List Stmt}{fr:Vars}{H:GHeap}(q:ExOk C n sc ss fr H Q):ExOk C n sc ss fr H Q':=q.mono h
noncomputable def wp (C:Cfg) (n:Nat) (sc:Scope) (k:Nat) (j:J):Prop:=match j with
 | .ev e fr H Q=>go C n sc (retQ Q) k [.ev e,.op .ret] [] fr H
 | .evs es fr H Q=>go C n sc (retL Q) k [.evs es,.op (.retL es.length)] [] fr H
 | .ts e fr H Q=>go C n sc (retB Q) k [.ts e,.op .retB] [] fr H
 | .st s fr H Q=>∀Q':QT,XP Q Q'→go C n sc Q' k [.st s] [] fr H
 | .ex ss fr H Q=>∀Q':QT,XP Q Q'→go C n sc Q' k [.ex ss] [] fr H
 | .exn m ss fr H Q=>∀Q':QT,XP Q Q'→go C n sc Q' k [.exn m ss] [] fr H
 | .as t v fr H Q=>go C n sc (nextQ Q) k [.as t] [v] fr H
theorem cont_end {Q:QT}{r:Vars→GHeap→Prop}(h:∀fr H,r fr H→Q .next fr H):∀fl fr H,contF r Q fl fr H→Q fl fr H:=fun fl fr H z=>by
 induction fl using Mine.Fl.casesOn with
 | next=>exact h _ _ z
 | _=>exact z
theorem wp_ok {C:Cfg}{n:Nat}{sc:Scope}(hW:WOK C) (k:Nat) (j:J) (h:wp C n sc k j):j.Ok C n sc:=by
 have f:∀{Q:QT}{K vs fr H},go C n sc Q k K vs fr H→Fut C n sc Q (k+1) K vs fr H:=fun h=>⟨k,Nat.lt_succ_self k,h⟩
 induction j using Mine.J.casesOn with
 | ev e fr H Q=>exact ((snd hW _).ev (f h)).mono fun v H1 h=>op_at (snd hW _) h fun R hR h=>h
 | evs es fr H Q=>exact ((snd hW _).evs (f h)).mono fun v H1 h=>op_at (snd hW _) h.2 fun R hR z=>popN_all h.1 z
 | ts e fr H Q=>exact ((snd hW _).ts (f h)).mono fun v H1 h=>tf_at (snd hW _) h fun R hR h=>h
 | st e fr H Q=>exact ((snd hW _).st (f (h _ fun _ _ _ x=>x))).mono (cont_end fun _ _=>(snd hW _).nil)
 | ex e fr H Q=>exact ((snd hW _).ex (f (h _ fun _ _ _ x=>x))).mono (cont_end fun _ _=>(snd hW _).nil)
 | exn m e fr H Q=>exact (snd hW _).exn (f (h _ fun _ _ _ x=>x))
 | as t v fr H Q=>exact ((snd hW _).as (f h)).mono fun _ _=>(snd hW _).nil
end
end Mine
end
local macro_rules | `(tactic| walk_at "g") => `(tactic| repeat (first | refine fun (Q' : Mine.QT) h => ?_ | walk_at "t" | refine Mine.XP.go (by assumption) ?_ | refine Mine.XP.ex (by assumption) ?_))
section
open PySem
namespace Mine

end Mine
end
section
open PySem PySem.Spec PySem.Calls PyProof.Rows PySem.W
set_option maxRecDepth 100000
namespace Mine
structure CK (C:Cfg):Prop where
 k:C.K=KL C.w.params
 mb:∀x:Str,x ≠ "__name__" → C.mb x=bootBuiltins x
noncomputable def esOf (K:Frag):Array DictEntry:=match K.lookup 3 with
 | some ⟨_,_,.dict es _,_⟩=>es
 | _=>#[]
noncomputable def tellB:Value→PV→Bool
 | .ref a,.ref b=>Nat.beq a b
 | .int i _,.int j=>decide (i=j)
 | _,_=>false
theorem tellB_is {v:Value}{x:PV}(h:tellB v x=true) (hp:Heap):Tells hp v x:=by
 induction v using PySem.Value.casesOn with
 | ref a=>induction x using Mine.PV.casesOn with
  | ref b=>rw [Nat.eq_of_beq_eq_true h]; exact .ref _
  | _=>cases h
 | int i t=>induction x using Mine.PV.casesOn with
  | int j=>rw [of_decide_eq_true h]; exact .int _ _
  | _=>cases h
 | _=>exact absurd h Bool.false_ne_true
noncomputable def tyB:Value→Bool
 | .builtin _=>true
 | .type _=>true
 | _=>false
theorem tyB_is {w:Value}(h:tyB w=true) (hp:Heap):Tells hp w (.val w):=by
 induction w using PySem.Value.casesOn with
 | builtin b=>exact .bi b
 | type b=>exact .ty b
 | _=>cases h
noncomputable def globB (es:Array DictEntry) (x:Str) (v:PV):Bool:=match v with
 | .val w=>tyB w&&(nsFind es x).isNone&&(bootBuiltins x == some w)&&!(x == ("__name__" : Str))
 | v=>(nsFind es x).elim false fun w=>tellB w v
theorem esOf_is {C:Cfg}(ne:(esOf C.K).isEmpty=false) (x:Str):C.mg x=nsFind (esOf C.K) x:=by
 obtain ⟨o,es,ep,ho,hd,_,hf⟩:=C.okG
 cases hl:C.K.lookup 3 with
 | none=>unfold esOf at ne; rw [hl] at ne; cases ne
 | some o' =>
  have q:=C.okK _ _ hl
  rw [show (3:Nat)=mainGlobals from rfl] at q
  rw [ho] at q
  cases q
  unfold esOf
  rw [hl]
  obtain ⟨c,d,dt,sl⟩:=o
  cases hd
  exact (hf x).symm
theorem globB_is {C:Cfg}(hC:CK C) (ne:(esOf C.K).isEmpty=false) {x:Str}{v:PV}(h:globB (esOf C.K) x v=true):GlobIs C x v:=by
 have mg:=esOf_is ne x
 have own:(nsFind (esOf C.K) x).elim false (fun w=>tellB w v)=true→GlobIs C x v:=fun h=>by
  cases e:nsFind (esOf C.K) x with
  | none=>rw [e] at h; cases h
  | some w=>rw [e] at h; exact ⟨w,.inl (mg.trans e),fun hp=>tellB_is h hp⟩
 induction v using Mine.PV.casesOn with
 | val w =>
  clear own
  have z:=Bool.and_eq_true_iff.mp h
  have y:=Bool.and_eq_true_iff.mp z.1
  have x':=Bool.and_eq_true_iff.mp y.1
  exact ⟨w,.inr ⟨mg.trans (Option.isNone_iff_eq_none.mp x'.2),(hC.mb x (beq_eq_false_iff_ne.mp ((Bool.not_eq_true' _).mp z.2))).trans (beq_iff_eq.mp y.2)⟩,tyB_is x'.1⟩
 | _=>exact own h
noncomputable def bodyOf:Stmt→List Stmt
 | .FunctionDef _ _ b _ _ _ _ _ _ _=>b
 | _=>[]
noncomputable def scOf:Stmt→Scope
 | .FunctionDef _ _ _ _ _ _ sc _ _ _=>sc
 | _=>default
noncomputable def parsOf:Stmt→List Str
 | .FunctionDef _ ps _ _ _ _ _ _ _ _=>ps.args.map (·.arg)
 | _=>[]
noncomputable def fnAt (K:Frag) (a:Addr):Option FuncData:=match K.lookup a with
 | some ⟨_,_,.func fd,_⟩=>some fd
 | _=>none
noncomputable def plainPars (p:Arguments):Bool:=p.posonlyargs.isEmpty&&p.vararg.isNone&&p.kwonlyargs.isEmpty&&p.kwarg.isNone
noncomputable def fnGood (K:Frag) (a:Addr):Bool:=match fnAt K a with
 | some fd=>codeIn K fd.code fd.qualname&&Nat.beq fd.globals 3&&Nat.beq fd.builtins 0&&fd.closure.isEmpty&&fnScope fd.scope&&nodupB (fd.params.args.map (·.arg)) &&
   (fd.params.args.map (·.arg)).all (fun x=>fd.scope.names.lookup x == some .local||fd.scope.names.lookup x == some .cell)&&plainPars fd.params
 | none=>false
noncomputable def fnL2:List Nat:=[21,28,35,42,49,56,63,91,99,106,156,163,170,177,184,191,198,203,210,217,224,231,238,245,273,280,287,326,333,340,347,354,361,368,375,383,390,419,426,433,440,447,454,459,466,471,478,485,492,497,502,507,514,521,526,531,538,545,550,555,77,120,142,259,405]
theorem all_good (P:Params):fnL2.all (fun a=>fnGood (KL P) a)=true:=by kernel_rfl
theorem all_keep (P:Params):fnL.all (fun a=>keepIn (KL P) (.ref a))=true:=by kernel_rfl
theorem all_glob (P:Params):(!(esOf (KL P)).isEmpty&&gtn.all (fun p=>globB (esOf (KL P)) p.2.1 p.2.2))=true:=by kernel_rfl
theorem CK.wok {C:Cfg}(hC:CK C):WOK C:=by
 obtain ⟨ne,hg⟩:=Bool.and_eq_true_iff.mp (all_glob C.w.params)
 rw [←hC.k] at ne hg
 exact ⟨fun p hp=>globB_is hC (by simpa using ne) (List.all_eq_true.mp hg p hp),fun a ha=>by rw [hC.k]; exact List.all_eq_true.mp (all_keep C.w.params) a ha⟩
noncomputable def isDef:Stmt→Bool
 | .FunctionDef ..=>true
 | _=>false
theorem isDef_is {st:Stmt}(h:isDef st=true) {P:Prop}(k:∀nm ps b dl rt tp sc ts bd pos,.FunctionDef nm ps b dl rt tp sc ts bd pos=st→P):P:=by
 induction st using PySem.Stmt.casesOn with
 | FunctionDef=>exact k _ _ _ _ _ _ _ _ _ _ rfl
 | _=>exact absurd h Bool.false_ne_true
noncomputable def AllV (P:List Value→Prop):Nat→Prop
 | 0=>P []
 | n+1=>∀v,AllV (fun vs=>P (v::vs)) n
theorem AllV.imp {P P':List Value→Prop}(k:∀vs,P vs→P' vs) (n:Nat) (h:AllV P n):AllV P' n:=by
 induction n generalizing P P' with
 | zero=>exact k _ h
 | succ n ih=>exact fun v=>ih (fun vs=>k (v::vs)) (h v)
theorem AllV.at {P:List Value→Prop}{n:Nat}{vs:List Value}(hl:vs.length=n) (h:AllV P n):P vs:=by
 induction vs generalizing P n with
 | nil=>subst hl; exact h
 | cons v vs ih=>subst hl; exact ih (P:=fun vs=>P (v::vs)) rfl (h v)
theorem fn_parts {C:Cfg}(hC:CK C) {a:Addr}{fd:FuncData}(hK:fnAt (KL C.w.params) a=some fd) (hg:fnL2.contains a=true) :
  (∃oc od osl,C.K.lookup a=some ⟨oc,od,.func fd,osl⟩)∧codeIn C.K fd.code fd.qualname=true∧fd.globals=mainGlobals∧fd.builtins=builtinsNs∧fd.closure=[]∧fnScope fd.scope=true∧(fd.params.args.map (·.arg)).Nodup ∧
  (fd.params.args.map (·.arg)).all (fun x=>fd.scope.names.lookup x == some .local||fd.scope.names.lookup x == some .cell)=true:=by
 have z:=List.all_eq_true.mp (all_good C.w.params) a (List.contains_iff_mem.mp hg)
 rw [←hC.k] at hK z
 unfold fnGood at z
 rw [hK] at z
 simp only [Bool.and_eq_true] at z
 refine byP fun PG kG=>?_
 obtain ⟨⟨⟨⟨⟨⟨⟨z1,z2⟩,z3⟩,z4⟩,z5⟩,z6⟩,z7⟩,z8⟩:=z
 refine kG ?_
 refine ⟨?_,z1,Nat.eq_of_beq_eq_true z2,Nat.eq_of_beq_eq_true z3,List.isEmpty_iff.mp z4,z5,nodupB_is z6,z7⟩
 unfold fnAt at hK
 split at hK
 ·rename_i e; cases hK; exact ⟨_,_,_,e⟩
 ·cases hK
theorem fn_code {C:Cfg}(hC:CK C) (st:Stmt) {n:Nat}{a:Addr}{q:Str}{d m c:Value}{args dx:List PV}{dv:List Value}{fr:Vars}{H:GHeap}{Q:PV→GHeap→Prop}
  (hK:fnAt (KL C.w.params) a=some (fnOf st q d m c)) (hg:fnL2.contains a=true) (hi:isDef st=true) (hfr:(parsOf st).zip (args++dx)=fr)
  (hb:∀s:Shared,C.K.In s.heap→AllV (fun vs=>BindsTo s (fnOf st q d m c) ⟨vs,[]⟩ ((parsOf st).zip (vs++dv))) args.length) (hd:∀h,TellsL h dv dx)
  (h:ExOk C n (scOf st) (bodyOf st) fr H fun fl _ H'=>Q (flv fl) H'):CodeOk C (n+1) (.ref a) args H Q:=by
 refine isDef_is hi fun nm ps b dl rt tp sc ts bd pos e=>?_
 subst e
 have z:=fn_parts hC hK hg
 exact z.1.elim fun _ y=>y.elim fun _ y=>y.elim fun _ z0=>call_fc z0 z.2.1 rfl z.2.2.1 z.2.2.2.1 z.2.2.2.2.1 z.2.2.2.2.2.1 z.2.2.2.2.2.2.1 z.2.2.2.2.2.2.2 (fun s vs X hl=>AllV.at (P:=fun vs=>BindsTo s _ ⟨vs,[]⟩ (List.zip _ (vs++dv))) hl (hb s X)) hd (hfr▸h)
theorem fn_codeN {C:Cfg}(hC:CK C) (st:Stmt) {n:Nat}{a:Addr}{q:Str}{d m c:Value}{args dx:List PV}{dv:List Value}{fr:Vars}{H:GHeap}{Q:PV→GHeap→Prop}
  (hK:fnAt (KL C.w.params) a=some (fnOf st q d m c)) (hg:fnL2.contains a=true) (hi:isDef st=true) (hfr:(parsOf st).zip (args++dx)=fr)
  (hb:∀s:Shared,C.K.In s.heap→AllV (fun vs=>BindsTo s (fnOf st q d m c) ⟨vs,[]⟩ ((parsOf st).zip (vs++dv))) args.length) (hd:∀h,TellsL h dv dx)
  (h:ExN C n (scOf st) (bodyOf st) fr H fun fl _ H'=>Q (flv fl) H'):CodeN C (n+1) (.ref a) args H Q:=by
 refine isDef_is hi fun nm ps b dl rt tp sc ts bd pos e=>?_
 subst e
 have z:=fn_parts hC hK hg
 exact z.1.elim fun _ y=>y.elim fun _ y=>y.elim fun _ z0=>call_fcN z0 z.2.1 rfl z.2.2.1 z.2.2.2.1 z.2.2.2.2.1 z.2.2.2.2.2.1 z.2.2.2.2.2.2.1 z.2.2.2.2.2.2.2 (fun s vs X hl=>AllV.at (P:=fun vs=>BindsTo s _ ⟨vs,[]⟩ (List.zip _ (vs++dv))) hl (hb s X)) hd (hfr▸h)
theorem fn_ok {C:Cfg}(hC:CK C) (st:Stmt) {n:Nat}{a:Addr}{q:Str}{d m c:Value}{args:List PV}{H:GHeap}{Q:PV→GHeap→Prop}
  (hK:fnAt (KL C.w.params) a=some (fnOf st q d m c)) (hg:fnL2.contains a=true) (hi:isDef st=true) {ns:List Str}(hfr:parsOf st=ns)
  (hb:AllV (fun vs=>bindArgs (fnOf st q d m c) ⟨vs,[]⟩=pure (ns.zip vs)) args.length)
  (k:Nat) (h:wp C n (scOf st) 300 (.exn k (bodyOf st) (ns.zip args) H fun fl _ H'=>Q (flv fl) H')):CallOk C (n+1) (.ref a) args H Q :=
 CodeOk.call (fn_code hC st (dv:=[]) (dx:=[]) hK hg hi (by rw [hfr,List.append_nil]) (fun s _=>AllV.imp (fun vs e=>.of_eq (by rw [hfr,List.append_nil]; exact e)) _ hb) (fun _=>.nil) (wp_ok (C:=C) (n:=n) (sc:=scOf st) hC.wok _ (.exn k _ _ _ _) h))
theorem fn0 {C:Cfg}(hC:CK C) (st:Stmt) {n:Nat}{a:Addr}{q:Str}{d m c:Value}{H:GHeap}{Q:PV→GHeap→Prop}
  (hK:fnAt (KL C.w.params) a=some (fnOf st q d m c)) (hg:fnL2.contains a=true) (hi:isDef st=true) (hfr:parsOf st=[]) (hb:bindArgs (fnOf st q d m c) ⟨[],[]⟩=pure [])
  (m:Nat) (h:wp C n (scOf st) 300 (.exn m (bodyOf st) [] H fun fl _ H'=>Q (flv fl) H')):CallOk C (n+1) (.ref a) [] H Q :=
 fn_ok hC st hK hg hi hfr hb m h
theorem fn1 {C:Cfg}(hC:CK C) (st:Stmt) (n0:Str) {n:Nat}{a:Addr}{q:Str}{d m c:Value}{x0:PV}{H:GHeap}{Q:PV→GHeap→Prop}
  (hK:fnAt (KL C.w.params) a=some (fnOf st q d m c)) (hg:fnL2.contains a=true) (hi:isDef st=true) (hfr:parsOf st=[n0]) (hb:∀v0:Value,bindArgs (fnOf st q d m c) ⟨[v0],[]⟩=pure [(n0,v0)])
  (m:Nat) (h:wp C n (scOf st) 300 (.exn m (bodyOf st) [(n0,x0)] H fun fl _ H'=>Q (flv fl) H')):CallOk C (n+1) (.ref a) [x0] H Q :=
 fn_ok hC st hK hg hi hfr hb m h
theorem fn2 {C:Cfg}(hC:CK C) (st:Stmt) (n0 n1:Str) {n:Nat}{a:Addr}{q:Str}{d m c:Value}{x0 x1:PV}{H:GHeap}{Q:PV→GHeap→Prop}
  (hK:fnAt (KL C.w.params) a=some (fnOf st q d m c)) (hg:fnL2.contains a=true) (hi:isDef st=true) (hfr:parsOf st=[n0,n1]) (hb:∀v0 v1:Value,bindArgs (fnOf st q d m c) ⟨[v0,v1],[]⟩=pure [(n0,v0),(n1,v1)])
  (m:Nat) (h:wp C n (scOf st) 300 (.exn m (bodyOf st) [(n0,x0),(n1,x1)] H fun fl _ H'=>Q (flv fl) H')):CallOk C (n+1) (.ref a) [x0,x1] H Q :=
 fn_ok hC st hK hg hi hfr hb m h
theorem fn3 {C:Cfg}(hC:CK C) (st:Stmt) (n0 n1 n2:Str) {n:Nat}{a:Addr}{q:Str}{d m c:Value}{x0 x1 x2:PV}{H:GHeap}{Q:PV→GHeap→Prop}
  (hK:fnAt (KL C.w.params) a=some (fnOf st q d m c)) (hg:fnL2.contains a=true) (hi:isDef st=true) (hfr:parsOf st=[n0,n1,n2]) (hb:∀v0 v1 v2:Value,bindArgs (fnOf st q d m c) ⟨[v0,v1,v2],[]⟩=pure [(n0,v0),(n1,v1),(n2,v2)])
  (m:Nat) (h:wp C n (scOf st) 300 (.exn m (bodyOf st) [(n0,x0),(n1,x1),(n2,x2)] H fun fl _ H'=>Q (flv fl) H')):CallOk C (n+1) (.ref a) [x0,x1,x2] H Q :=
 fn_ok hC st hK hg hi hfr hb m h
theorem fn4 {C:Cfg}(hC:CK C) (st:Stmt) (n0 n1 n2 n3:Str) {n:Nat}{a:Addr}{q:Str}{d m c:Value}{x0 x1 x2 x3:PV}{H:GHeap}{Q:PV→GHeap→Prop}
  (hK:fnAt (KL C.w.params) a=some (fnOf st q d m c)) (hg:fnL2.contains a=true) (hi:isDef st=true) (hfr:parsOf st=[n0,n1,n2,n3]) (hb:∀v0 v1 v2 v3:Value,bindArgs (fnOf st q d m c) ⟨[v0,v1,v2,v3],[]⟩=pure [(n0,v0),(n1,v1),(n2,v2),(n3,v3)])
  (m:Nat) (h:wp C n (scOf st) 300 (.exn m (bodyOf st) [(n0,x0),(n1,x1),(n2,x2),(n3,x3)] H fun fl _ H'=>Q (flv fl) H')):CallOk C (n+1) (.ref a) [x0,x1,x2,x3] H Q :=
 fn_ok hC st hK hg hi hfr hb m h
theorem fn5 {C:Cfg}(hC:CK C) (st:Stmt) (n0 n1 n2 n3 n4:Str) {n:Nat}{a:Addr}{q:Str}{d m c:Value}{x0 x1 x2 x3 x4:PV}{H:GHeap}{Q:PV→GHeap→Prop}
  (hK:fnAt (KL C.w.params) a=some (fnOf st q d m c)) (hg:fnL2.contains a=true) (hi:isDef st=true) (hfr:parsOf st=[n0,n1,n2,n3,n4]) (hb:∀v0 v1 v2 v3 v4:Value,bindArgs (fnOf st q d m c) ⟨[v0,v1,v2,v3,v4],[]⟩=pure [(n0,v0),(n1,v1),(n2,v2),(n3,v3),(n4,v4)])
  (m:Nat) (h:wp C n (scOf st) 300 (.exn m (bodyOf st) [(n0,x0),(n1,x1),(n2,x2),(n3,x3),(n4,x4)] H fun fl _ H'=>Q (flv fl) H')):CallOk C (n+1) (.ref a) [x0,x1,x2,x3,x4] H Q :=
 fn_ok hC st hK hg hi hfr hb m h
section
noncomputable abbrev Cell:=Addr×GObj
structure Own (H:GHeap) (L:List Cell):Prop where
 at_:∀p∈L,H p.1=some p.2
 nd:(L.map (·.1)).Nodup
noncomputable def Gr (H H':GHeap):Prop:=∀a g,H a=some g→H' a=some g
theorem Gr.refl (H:GHeap):Gr H H:=fun _ _ e=>e
theorem Gr.trans {H H' H'':GHeap}(x:Gr H H') (y:Gr H' H''):Gr H H'':=fun a g e=>y a g (x a g e)
theorem Gr.new {H:GHeap}{a:Addr}{g:GObj}(e:H a=none):Gr H (H.set a g):=fun b g' e'=>by
 rw [GHeap.set_other]
 ·exact e'
 ·rintro rfl; rw [e] at e'; cases e'
theorem Gr.put {H H':GHeap}{b:Addr}(h:Gr H H') (e:H b=none) (g:GObj):Gr H (H'.set b g):=fun a g' e'=>by
 rw [GHeap.set_other]
 ·exact h _ _ e'
 ·rintro rfl; rw [e] at e'; cases e'
section
variable {H H':GHeap}{L L':List Cell}{a:Addr}{g g':GObj}
theorem Own.gr (o:Own H L) (h:Gr H H'):Own H' L:=⟨fun p hp=>h _ _ (o.at_ p hp),o.nd⟩
theorem Own.perm (o:Own H L) (h:L.Perm L'):Own H L':=⟨fun p hp=>o.at_ p (h.mem_iff.mpr hp),(h.map _).nodup_iff.mp o.nd⟩
theorem Own.hd (o:Own H ((a,g)::L)):H a=some g:=o.at_ _ (.head _)
theorem Own.tl (o:Own H ((a,g)::L)):Own H L:=⟨fun p hp=>o.at_ p (.tail _ hp),(List.nodup_cons.mp o.nd).2⟩
theorem Own.put (o:Own H ((a,g)::L)):Own (H.set a g') ((a,g')::L):=by
 have hn:=List.nodup_cons.mp o.nd
 refine ⟨fun p hp=>?_,o.nd⟩
 rcases List.mem_cons.mp hp with e | hp
 ·subst e; exact GHeap.set_same _ _ _
 ·rw [GHeap.set_other]
  ·exact o.at_ p (.tail _ hp)
  ·rintro e; exact hn.1 (e▸List.mem_map_of_mem (f:=(·.1)) hp)
theorem Own.new (o:Own H L) (e:H a=none):Own (H.set a g) ((a,g)::L):=by
 refine ⟨fun p hp=>?_,List.nodup_cons.mpr ⟨fun hm=>?_,o.nd⟩⟩
 ·rcases List.mem_cons.mp hp with e' | hp
  ·subst e'; exact GHeap.set_same _ _ _
  ·exact Gr.new e _ _ (o.at_ p hp)
 ·obtain ⟨p,hp,e'⟩:=List.mem_map.mp hm
  have:=o.at_ p hp
  rw [e',e] at this; cases this
theorem Own.sub (o:Own H L) (h:List.Sublist L' L):Own H L':=⟨fun p hp=>o.at_ p (h.subset hp),(h.map _).nodup o.nd⟩
theorem Own.right {L1 L2:List Cell}(o:Own H (L1++L2)):Own H L2:=o.sub (List.sublist_append_right _ _)
theorem Own.left {L1 L2:List Cell}(o:Own H (L1++L2)):Own H L1:=o.sub (List.sublist_append_left _ _)
end
noncomputable def getAB (K:Frag) (cl:Addr) (name:Str):Bool:=plainGet K cl name&&hasDictIn K cl&&(match findIn K (.ref cl) name with
 | some attr=>noGet K attr
 | none=>false)
noncomputable def setAB (K:Frag) (cl:Addr) (name:Str):Bool:=(findIn K (.ref cl) "__setattr__" == some (some (.builtin "object.__setattr__")))&&plainOver K cl&&(takerIn K cl name == some none)&&hasDictIn K cl
noncomputable def atT:List (Nat×Nat×Str):=[
 (80,226489010,Str.ofString "data"),
 (80,244610250,Str.ofString "link"),
 (80,242362152,Str.ofString "kind"),
 (80,14200,Str.ofString "l4"),
 (80,1918335,Str.ofString "off"),
 (80,33228462667,Str.ofString "place"),
 (80,246790473,Str.ofString "meta"),
 (123,4278447089409,Str.ofString "number"),
 (123,74069178547293353,Str.ofString "original"),
 (123,33801984486,Str.ofString "reply"),
 (123,276186484,Str.ofString "zone"),
 (123,34705785306,Str.ofString "until"),
 (123,34105441250,Str.ofString "since"),
 (123,246721577,Str.ofString "mark"),
 (123,4471023371646,Str.ofString "status"),
 (123,34129949385,Str.ofString "state"),
 (123,34105269916,Str.ofString "sides"),
 (123,4233991398782,Str.ofString "master"),
 (145,246961971,Str.ofString "most"),
 (145,260277057,Str.ofString "seed"),
 (145,34420088461,Str.ofString "tries"),
 (145,34381751690,Str.ofString "table"),
 (145,34381923183,Str.ofString "talks"),
 (145,244473626,Str.ofString "last"),
 (145,77379181847224483,Str.ofString "trackers"),
 (145,515107979093094,Str.ofString "expects"),
 (145,30283706345,Str.ofString "flows"),
 (145,70101472420143921,Str.ofString "is_loose"),
 (262,4233991398782,Str.ofString "master"),
 (262,116,Str.ofString "t"),
 (262,276186484,Str.ofString "zone"),
 (262,34705785306,Str.ofString "until"),
 (408,4349693743832,Str.ofString "packet"),
 (408,1902370,Str.ofString "now"),
 (408,235720983,Str.ofString "hook"),
 (408,262457428,Str.ofString "talk"),
 (408,34129949385,Str.ofString "state"),
 (408,70101474164678801,Str.ofString "is_reply"),
 (408,34381923183,Str.ofString "talks"),
 (408,260279037,Str.ofString "sets"),
 (408,564796594764056,Str.ofString "objects"),
 (408,3966259359901,Str.ofString "fields"),
 (408,580071419952532,Str.ofString "readers"),
 (408,29701278511,Str.ofString "doers"),
 (408,1919658,Str.ofString "ops"),
 (408,34413448071,Str.ofString "tools"),
 (408,32947503050,Str.ofString "order"),
 (408,1868032,Str.ofString "log"),
 (408,580075855503016,Str.ofString "replies"),
 (408,34130017519,Str.ofString "steps"),
 (408,30879413780,Str.ofString "homes")]
noncomputable def atFind (cl k:Nat):List (Nat×Nat×Str)→Option Str
 | []=>none
 | (c,d,x)::r=>bif Nat.beq cl c&&Nat.beq k d then some x else atFind cl k r
noncomputable def atOk (cl:Nat) (x:Str):Bool:=(atFind cl (cd x) atT).elim false fun y=>x == y
theorem atFind_mem {cl k:Nat}{x:Str}{l:List (Nat×Nat×Str)}:atFind cl k l=some x→∃d,(cl,d,x)∈l:=by
 induction l with
 | nil=>exact fun h=>nomatch h
 | cons p r ih =>
  unfold atFind
  cases e:Nat.beq cl p.1&&Nat.beq k p.2.1 with
  | true=>exact fun h=>⟨p.2.1,by rw [Nat.eq_of_beq_eq_true (Bool.and_eq_true_iff.mp e).1,←Option.some.inj h]; exact .head _⟩
  | false=>exact fun h=>(ih h).imp fun _ h=>.tail _ h
theorem all_at (P:Params):atT.all (fun p=>getAB (KL P) p.1 p.2.2&&setAB (KL P) p.1 p.2.2)=true:=by kernel_rfl
theorem at_both {C:Cfg}(hC:CK C) {cl:Nat}{x:Str}(h:atOk cl x=true):getAB C.K cl x=true∧setAB C.K cl x=true:=by
 unfold atOk at h
 cases e:atFind cl (cd x) atT with
 | none=>rw [e] at h; cases h
 | some y =>
  rw [e] at h
  exact (atFind_mem e).elim fun d hd=>by
   rw [beq_iff_eq.mp h,hC.k]
   exact Bool.and_eq_true_iff.mp (List.all_eq_true.mp (all_at C.w.params) _ hd)
theorem at_get {C:Cfg}(hC:CK C) {cl:Nat}{x:Str}(h:atOk cl x=true):GetA C cl x:=by
 have z:=(at_both hC h).1
 unfold getAB at z
 obtain ⟨z,z3⟩:=Bool.and_eq_true_iff.mp z
 obtain ⟨z1,z2⟩:=Bool.and_eq_true_iff.mp z
 refine ⟨z1,z2,?_⟩
 split at z3
 ·rename_i e; exact ⟨_,e,z3⟩
 ·cases z3
theorem at_set {C:Cfg}(hC:CK C) {cl:Nat}{x:Str}(h:atOk cl x=true):SetA C cl x:=by
 have z:=(at_both hC h).2
 unfold setAB at z
 simp only [Bool.and_eq_true] at z
 obtain ⟨⟨⟨z1,z2⟩,z3⟩,z4⟩:=z
 exact ⟨beq_iff_eq.mp z1,z2,beq_iff_eq.mp z3,z4⟩
section
variable {C:Cfg}(hC:CK C) {H:GHeap}{a cl dx:Addr}{kvs kvs':List (Str×PV)}{name:Str}{v w:PV}
include hC
theorem getI {Q:PV→Prop}(h1:H a=some (.inst cl dx)) (h2:H dx=some (.sdict kvs)) (h3:atOk cl name=true) (h4:kvs.lookup name=some w) (h5:notVal w=true) (q:Q w):∃w,HasA C H (.ref a) name w∧Q w :=
 ⟨_,.mk h1 h2 (at_get hC h3) h4 h5,q⟩
theorem putI {Q:GHeap→Prop}(h1:H a=some (.inst cl dx)) (h2:H dx=some (.sdict kvs)) (h3:atOk cl name=true) (h4:putD name v kvs=kvs') (h5:isSmall 500 kvs=true) (q:Q (H.set dx (.sdict kvs'))):∃H',PutA C H (.ref a) name v H'∧Q H' :=
 ⟨_,.mk h1 h2 (at_set hC h3) h4 (isSmall_is h5),q⟩
end
section
variable {C:Cfg}{n:Nat}{H:GHeap}{a:Addr}
theorem subS {kvs:List (Str×PV)}{k:Str}{x:PV}{Q:PV→GHeap→Prop}(h:H a=some (.sdict kvs)) (e:kvs.lookup k=some x) (q:Q x H):SubOf C H (.ref a)∧Op2Ok C n getItem (.ref a) (.str k) H Q:=⟨.sdict h,gi_sdict h e q⟩
theorem subI {kvs:List (Int×PV)}{k:Int}{x:PV}{Q:PV→GHeap→Prop}(h:H a=some (.idict kvs)) (e:kvs.lookup k=some x) (q:Q x H):SubOf C H (.ref a)∧Op2Ok C n getItem (.ref a) (.int k) H Q:=⟨.idict h,gi_idict h e q⟩
theorem subL {xs:List PV}{k:Int}{x:PV}{Q:PV→GHeap→Prop}(h:LsAt C H a xs) (h0:0≤k) (h1:k<2^63) (e:xs[k.toNat]?=some x) (q:Q x H):SubOf C H (.ref a)∧Op2Ok C n getItem (.ref a) (.int k) H Q:=⟨.list h,gi_list h h0 h1 e q⟩
theorem subN {xs:List PV}{k:Int}{x:PV}{Q:PV→GHeap→Prop}(h:LsAt C H a xs) (h0:k<0) (h1:-(xs.length:Int)≤k) (h2:-(2^63)≤k) (e:xs[(k+xs.length).toNat]?=some x) (q:Q x H):SubOf C H (.ref a)∧Op2Ok C n getItem (.ref a) (.int k) H Q:=⟨.list h,gi_list_neg h h0 h1 h2 e q⟩
theorem methL {xs:List PV}{P:Prop}{name:Str}{id:String}(h:H a=some (.list xs)) (e:methT name=some ("list",id)) (p:P):(∃T,methT name=some (T,id)∧MethOf C H (.ref a) T)∧P:=⟨⟨_,e,.list h⟩,p⟩
end
end
section
section
variable {α:Type}{f:α→List Cell}{l:List α}{i:Nat}{x:α}
theorem flat_at:∀{l:List α}{i:Nat},l[i]?=some x→(l.flatMap f).Perm (f x++(l.eraseIdx i).flatMap f)
 | [],i,h=>by simp at h
 | y::r,0,h=>by cases h; exact List.Perm.refl _
 | y::r,i+1,h=>by
  rw [List.eraseIdx_cons_succ,List.flatMap_cons,List.flatMap_cons]
  refine ((flat_at (l:=r) (i:=i) h).append_left _).trans ?_
  rw [←List.append_assoc,←List.append_assoc]
  exact List.perm_append_comm.append_right _
theorem set_erase:∀{l:List α}{i:Nat}(x':α),(l.set i x').eraseIdx i=l.eraseIdx i
 | [],_,_=>rfl
 | _::_,0,_=>rfl
 | y::r,i+1,x'=>congrArg (y::·) (set_erase x')
theorem set_at (h:l[i]?=some x) (x':α):(l.set i x')[i]?=some x':=by
 rw [List.getElem?_set_self]
 exact (List.getElem?_eq_some_iff.mp h).1
theorem flat_set (h:l[i]?=some x) (x':α):((l.set i x').flatMap f).Perm (f x'++(l.eraseIdx i).flatMap f):=by
 have:=flat_at (f:=f) (set_at h x')
 rwa [set_erase] at this
end
structure T6 where
 p:Int
 a:Int
 b:Int
 c:Int
 d:Int
 deriving DecidableEq
noncomputable def T6.l (t:T6):List Int:=[2,t.p,t.a,t.b,t.c,t.d]
noncomputable def T6.pv (t:T6):PV:=.tup [.int 2,.int t.p,.int t.a,.int t.b,.int t.c,.int t.d]
noncomputable def T6.inv (t:T6):T6:=⟨t.p,t.c,t.d,t.a,t.b⟩
structure Wire where
 p:Int
 s:Int
 sp:Int
 t:Int
 dp:Int
noncomputable def Wire.pv (w:Wire):PV:=.tup [.int w.p,.int w.s,.int w.sp,.int w.t,.int w.dp]
noncomputable def Wire.key (w:Wire):T6:=if w.p=17 then ⟨w.p,w.s,w.sp,w.t,w.dp⟩ else ⟨w.p,w.s,0,w.t,0⟩
noncomputable def Wire.back (w:Wire):Wire:=⟨w.p,w.t,w.dp,w.s,w.sp⟩
structure WTalk where
 num:Int
 zone:Int
 a:T6
 b:T6
 mark:Int
 master:Int
 bits:Int
 pk:List (Int×Int)
 isIn:Bool
structure Exp where
 master:Int
 zone:Int
 source:Int
 nf:Int
 p:Int
 t:Int
 port:Int
 until_:Int
 gone:Bool
noncomputable abbrev pkPV (x:Int×Int):PV:=.tup [.int x.1,.int x.2]
structure WT where
 ad:Addr
 pd:Addr
 d:WTalk
noncomputable def WT.kv (x:WT):List (Str×PV):=[("number",.int x.d.num),("zone",.int x.d.zone),("ends",.tup [x.d.a.pv,x.d.b.pv]),("mark",.int x.d.mark),("master",.int x.d.master),("bits",.int x.d.bits),("packets",.ref x.pd),("in",.bool x.d.isIn)]
noncomputable def WT.cells (x:WT):List Cell:=[(x.ad,.sdict x.kv),(x.pd,.list (x.d.pk.map pkPV))]
structure WE where
 ad:Addr
 d:Exp
noncomputable def WE.kv (x:WE):List (Str×PV):=[("master",.int x.d.master),("zone",.int x.d.zone),("source",.int x.d.source),("rest",.tup [.int x.d.nf,.int x.d.p,.int x.d.t,.int x.d.port]),("until",.int x.d.until_),("gone",.bool x.d.gone)]
noncomputable def WE.cells (x:WE):List Cell:=[(x.ad,.sdict x.kv)]
structure Wd where
 wa:Addr
 tl:Addr
 el:Addr
 wl:Addr
 talks:List WT
 exps:List WE
 wires:List (Int×Wire)
noncomputable def Wd.kv (w:Wd):List (Str×PV):=[("talks",.ref w.tl),("expects",.ref w.el),("wires",.ref w.wl)]
noncomputable def Wd.base (w:Wd):List Cell:=[(w.wa,.sdict w.kv),(w.tl,.list (w.talks.map fun x=>.ref x.ad)),(w.el,.list (w.exps.map fun x=>.ref x.ad)),(w.wl,.list (w.wires.map fun x=>.tup [.int x.1,x.2.pv]))]
noncomputable def Wd.cells (w:Wd):List Cell:=w.base++(w.talks.flatMap WT.cells++w.exps.flatMap WE.cells)
structure BTalk where
 num:Int
 zone:Int
 a:T6
 b:T6
 until_:Int
 since:Int
 mark:Int
 status:Int
 master:Int
 isIn:Bool
structure BT' where
 ad:Addr
 dx:Addr
 d:BTalk
noncomputable def BT'.kv (x:BT'):List (Str×PV):=[("number",.int x.d.num),("original",x.d.a.pv),("reply",x.d.b.pv),("zone",.int x.d.zone),("until",.int x.d.until_),("since",.int x.d.since),("mark",.int x.d.mark),("status",.int x.d.status),("state",.int 0),("sides",.none),("master",.int x.d.master)]
noncomputable def BT'.cells (x:BT'):List Cell:=[(x.ad,.inst 123 x.dx),(x.dx,.sdict x.kv)]
structure BE where
 ad:Addr
 dx:Addr
 d:Exp
noncomputable def BE.kv (x:BE):List (Str×PV):=[("master",.int x.d.master),("t",.tup [.int x.d.nf,.int x.d.p,.int x.d.source,.int x.d.t,.int x.d.port]),("zone",.int x.d.zone),("until",.int x.d.until_)]
noncomputable def BE.cells (x:BE):List Cell:=[(x.ad,.inst 262 x.dx),(x.dx,.sdict x.kv)]
structure Bk where
 ba:Addr
 bd:Addr
 tb:Addr
 tk:Addr
 tr:Addr
 t17:Addr
 tm:Addr
 xl:Addr
 fl:Addr
 last:Int
 talks:List BT'
 exps:List BE
noncomputable def Bk.kv (b:Bk):List (Str×PV):=[("most",.int 64),("seed",.int 0),("tries",.int 128),("table",.ref b.tb),("talks",.ref b.tk),("last",.int b.last),("trackers",.ref b.tr),("expects",.ref b.xl),("flows",.ref b.fl),("is_loose",.bool true)]
noncomputable def BTalk.rows (x:BTalk):List (TKey×PV):=[((x.zone,x.a.l),.tup [.int x.num,.int 0]),((x.zone,x.b.l),.tup [.int x.num,.int 1])]
noncomputable def Bk.tab (b:Bk):List (TKey×PV):=(b.talks.filter (·.d.isIn)).flatMap (·.d.rows)
noncomputable def Bk.ids (b:Bk):List (Int×PV):=(b.talks.filter (·.d.isIn)).map fun x=>(x.d.num,.ref x.ad)
noncomputable def Bk.xs (b:Bk):List PV:=(b.exps.filter (!·.d.gone)).map fun x=>.ref x.ad
noncomputable def Bk.fix (b:Bk):List Cell:=[(b.tr,.idict [(17,.ref b.t17),(-1,.ref b.tm)]),(b.t17,.sdict [("begin",.ref 217),("go",.ref 224)]),(b.tm,.sdict [("begin",.ref 217),("go",.ref 231)]),(b.fl,.idict [])]
noncomputable def Bk.baseW (b:Bk) (tab:List (TKey×PV)) (ids:List (Int×PV)) (xs:List PV):List Cell:=[(b.ba,.inst 145 b.bd),(b.bd,.sdict b.kv),(b.tb,.tdict tab),(b.tk,.idict ids),(b.xl,.list xs)]++b.fix
noncomputable def Bk.base (b:Bk):List Cell:=b.baseW b.tab b.ids b.xs
noncomputable def Bk.cells (b:Bk):List Cell:=b.base++(b.talks.flatMap BT'.cells++b.exps.flatMap BE.cells)
end
section
noncomputable def subF (f fr:Vars):Prop:=f.map (fun p=>fr.lookup p.1)=f.map (fun p=>some p.2)
theorem subF_is:∀{f fr:Vars},subF f fr→∀x v,f.lookup x=some v→fr.lookup x=some v
 | [],_,_,x,v,e=>by cases e
 | (y,w)::r,fr,h,x,v,e=>by
  obtain ⟨a,b⟩:=List.cons.inj h
  rw [List.lookup_cons] at e
  cases hb:x == y with
  | true=>rw [hb] at e; cases e; rw [beq_iff_eq.mp hb]; exact a
  | false=>rw [hb] at e; exact subF_is (f:=r) b x v e
noncomputable def loopG {σ:Type}(F:σ→Vars) (Inv:Nat→σ→GHeap→Prop) (Q:QT) (i:Nat) (fr:Vars) (H:GHeap) (fl:Fl):Prop:=loopF (∃s',subF (F s') fr∧Inv i s' H) (Q .next fr H) (fun v=>Q (.ret v) fr H) fl
section
variable {C:Cfg}{n:Nat}{sc:Scope}{H:GHeap}{fr fr':Vars}{target:Expr}{body:List Stmt}{k:Sk}{pv:PV}{xs:List PV}
theorem ForOk.looks {i:Nat}{Q:Fl→Vars→GHeap→Prop}(h:ForOk C n sc target body k pv xs i fr' H Q) (l:subF fr' fr):ForOk C n sc target body k pv xs i fr H Q:=⟨fun A kp env s I hA S F=>h.run A kp env s I hA S (F.looks (subF_is l))⟩
theorem CpOk.looks {elt iter:Expr}{ifs:List Expr}{scope:Scope}{pos:Pos}{i:Nat}{ys:List PV}{Q:List PV→GHeap→Prop}(h:CpOk C n sc elt target iter ifs scope pos k pv xs i ys fr' H Q) (l:subF fr' fr):CpOk C n sc elt target iter ifs scope pos k pv xs i ys fr H Q :=
 ⟨fun A kp env s I D hA S F=>h.run A kp env s I D hA S (F.looks (subF_is l))⟩
theorem for_go {σ:Type}(hW:WOK C) {Q:Fl→Vars→GHeap→Prop}(F:σ→Vars) (Inv:Nat→σ→GHeap→Prop) (hsrc:∀i s H,Inv i s H→Src C H k pv xs)
  (step:∀i x s H,xs[i]?=some x→Inv i s H→∀Q':QT,XP (fun fl fr H=>loopG F Inv Q (i+1) fr H fl) Q'→go C n sc Q' 300 [.as target,.ex body] [x] (F s) H)
  (hend:∀s H,Inv xs.length s H→Q .next (F s) H):∀(m i:Nat) (s:σ) (H:GHeap),i+m=xs.length→Inv i s H→ForOk C n sc target body k pv xs i (F s) H Q:=fun m=>by
 induction m with
 | zero =>
  intro i s H e hi
  obtain rfl:i=xs.length:=e
  exact for_nil (hsrc _ _ _ hi) rfl (hend _ _ hi)
 | succ m ih =>
  intro i s H e hi
  have hlt:i<xs.length:=e▸Nat.lt_add_of_pos_right (Nat.succ_pos m)
  have e':=(Nat.succ_add_eq_add_succ i m).trans e
  have hx:xs[i]?=some xs[i]:=List.getElem?_eq_getElem hlt
  have S:=fun m=>snd (n:=n) (sc:=sc) (Q:=fun fl fr H=>loopG F Inv Q (i+1) fr H fl) hW m
  have h:=step i _ s H hx hi _ fun _ _ _ x=>x
  refine for_cons (hsrc _ _ _ hi) hx (AsOk.mono ((S 301).as ⟨300,Nat.lt_succ_self 300,h⟩) fun fr1 H1 h=>ExOk.mono ((S _).ex h) fun fl fr2 H2 h=>?_)
  replace h:=cont_end (fun _ _=>(S _).nil) _ _ _ h
  induction fl using Mine.Fl.casesOn with
  | next=>obtain ⟨s',l,hi'⟩:=h; exact (ih (i+1) s' H2 e' hi').looks l
  | cont=>obtain ⟨s',l,hi'⟩:=h; exact (ih (i+1) s' H2 e' hi').looks l
  | brk=>exact h
  | ret v=>exact h
theorem for_st {σ:Type}(hW:WOK C) {Q:Fl→Vars→GHeap→Prop}(F:σ→Vars) (Inv:Nat→σ→GHeap→Prop) (s0:σ) (l0:subF (F s0) fr) (h0:Inv 0 s0 H) (hsrc:∀i s H,Inv i s H→Src C H k pv xs)
  (step:∀i x s H,xs[i]?=some x→Inv i s H→∀Q':QT,XP (fun fl fr H=>loopG F Inv Q (i+1) fr H fl) Q'→go C n sc Q' 300 [.as target,.ex body] [x] (F s) H)
  (hend:∀s H,Inv xs.length s H→Q .next (F s) H):ForOk C n sc target body k pv xs 0 fr H Q :=
 (for_go hW F Inv hsrc step hend xs.length 0 s0 H (Nat.zero_add _) h0).looks l0
noncomputable def ifsW (C:Cfg) (n:Nat) (sc:Scope) (ifs:List Expr) (fr:Vars) (H:GHeap) (Q:Bool→GHeap→Prop):Prop:=match ifs with
 | []=>Q true H
 | [c]=>wp C n sc 300 (.ts c fr H Q)
 | _=>False
theorem IfsOk.mono {ifs:List Expr}{Q Q':Bool→GHeap→Prop}(h:IfsOk C n sc ifs fr H Q) (q:∀b H,Q b H→Q' b H):IfsOk C n sc ifs fr H Q':=by
 match ifs,h with
 | [],h=>exact q _ _ h
 | [c],h=>exact TsOk.mono h q
 | _::_::_,h=>exact h.elim
theorem ifsW_ok (hW:WOK C) {ifs:List Expr}{Q Q':Bool→GHeap→Prop}(h:ifsW C n sc ifs fr H Q) (q:∀b H,Q b H→Q' b H):IfsOk C n sc ifs fr H Q':=by
 unfold ifsW at h
 unfold IfsOk
 split at h
 ·exact q _ _ h
 ·exact TsOk.mono (wp_ok hW _ _ h) q
 ·exact h.elim
theorem cp_go (hW:WOK C) {elt iter:Expr}{ifs:List Expr}{scope:Scope}{pos:Pos}{Q:List PV→GHeap→Prop}(F:Vars) (Inv:Nat→List PV→GHeap→Prop) (hsrc:∀i ys H,Inv i ys H→Src C H k pv xs) (hz:∀i ys H,Inv i ys H→ys.length≤1000)
  (step:∀i x ys H,xs[i]?=some x→Inv i ys H→AsOk C n sc target x F H fun fr1 H1=>IfsOk C n sc ifs fr1 H1 fun b H2=>subF F fr1∧(match b with
   | true=>EvOk C n sc elt fr1 H2 fun y H3=>Inv (i+1) (ys++[y]) H3
   | false=>Inv (i+1) ys H2))
  (hend:∀ys H,Inv xs.length ys H→Q ys H):∀(m i:Nat) (ys:List PV) (H:GHeap),i+m=xs.length→Inv i ys H→CpOk C n sc elt target iter ifs scope pos k pv xs i ys F H Q:=fun m=>by
 induction m with
 | zero =>
  intro i s H e hi
  obtain rfl:i=xs.length:=e
  exact cp_nil (hsrc _ _ _ hi) rfl (hend _ _ hi)
 | succ m ih =>
  intro i ys H e hi
  have hlt:i<xs.length:=e▸Nat.lt_add_of_pos_right (Nat.succ_pos m)
  have e':=(Nat.succ_add_eq_add_succ i m).trans e
  have hx:xs[i]?=some xs[i]:=List.getElem?_eq_getElem hlt
  refine cp_cons (hsrc _ _ _ hi) hx (hz _ _ _ hi) (AsOk.mono (step i _ ys H hx hi) fun fr1 H1 h=>IfsOk.mono h fun b H2 ⟨l,h⟩=>⟨fun e=>?_,fun e=>?_⟩)<;>subst e
  ·exact EvOk.mono h fun y H3 h=>(ih (i+1) _ H3 e' h).looks l
  ·exact (ih (i+1) ys H2 e' h).looks l
theorem cp_st (hW:WOK C) {elt iter:Expr}{ifs:List Expr}{scope:Scope}{pos:Pos}{Q:List PV→GHeap→Prop}(Inv:Nat→List PV→GHeap→Prop) (h0:Inv 0 [] H) (hsrc:∀i ys H,Inv i ys H→Src C H k pv xs) (hz:∀i ys H,Inv i ys H→ys.length≤1000)
  (step:∀i x ys H,xs[i]?=some x→Inv i ys H→wp C n sc 300 (.as target x fr H fun fr1 H1=>ifsW C n sc ifs fr1 H1 fun b H2=>subF fr fr1∧(match b with
   | true=>wp C n sc 300 (.ev elt fr1 H2 fun y H3=>Inv (i+1) (ys++[y]) H3)
   | false=>Inv (i+1) ys H2)))
  (hend:∀ys H,Inv xs.length ys H→Q ys H):CpOk C n sc elt target iter ifs scope pos k pv xs 0 [] fr H Q :=
 cp_go hW fr Inv hsrc hz (fun i x ys H hx hi=>AsOk.mono (wp_ok hW _ _ (step i x ys H hx hi)) fun fr1 H1 h=>ifsW_ok hW h fun b H2 ⟨l,h⟩=>⟨l,by
  induction b using Bool.casesOn with
  | true=>exact wp_ok hW _ _ h
  | false=>exact h⟩) hend xs.length 0 [] H (Nat.zero_add _) h0
end
end
section
theorem last_nat (n:Nat):((-1:Int)+n).toNat=n-1:=by rw [Int.add_comm]; exact Int.toNat_sub n 1
theorem last_at {α β:Type}(f:α→β) {l:List α}{x:α}(h:l.getLast?=some x):(l.map f)[((-1:Int)+(l.map f).length).toNat]?=some (f x):=by
 rw [List.length_map,List.getElem?_map]
 rw [List.getLast?_eq_getElem?] at h
 have:((-1:Int)+l.length).toNat=l.length-1:=last_nat _
 rw [this,h]; rfl
theorem head_at {α β:Type}(f:α→β) {l:List α}{x:α}(h:l.head?=some x):(l.map f)[((0:Int)).toNat]?=some (f x):=by
 induction l using List.casesOn with
 | nil=>cases h
 | cons y r=>cases h; rfl
theorem fm_some {α β:Type}(f:α→β):∀l:List α,l.filterMap (fun x=>some (f x))=l.map f
 | []=>rfl
 | x::r=>by rw [List.filterMap_cons,List.map_cons,fm_some f r]
theorem take_ne {α:Type}{l:List α}(h:l≠[]) (i:Nat):l.take (i+1)≠[]:=by
 induction l using List.casesOn with
 | nil=>exact absurd rfl h
 | cons x r=>exact fun z=>nomatch z
theorem cut_last {α:Type}(l:List α):l.take (cutTo (-1) l.length)=l.dropLast:=by
 have:cutTo (-1) l.length=l.length-1:=by
  unfold cutTo
  rw [if_pos (by decide)]
  generalize l.length=n
  induction n using Nat.casesOn with
  | zero=>rfl
  | succ n =>
   rw [show (-1:Int)+((n+1:Nat):Int)=n by rw [Int.add_comm]; exact Int.add_sub_cancel n 1,Int.min_eq_left (Int.ofNat_le.mpr (Nat.le_succ n)),Int.max_eq_right (Int.natCast_nonneg n)]; rfl
 rw [this,List.dropLast_eq_take]
section
variable {C:Cfg}{n:Nat}{sc:Scope}{H:GHeap}{fr:Vars}
theorem compG (hW:WOK C) {elt target iter:Expr}{ifs:List Expr}{scope:Scope}{pos:Pos}{Q:PV→GHeap→Prop}{α:Type}{f:α→PV}(ys:List α) (g:α→Option PV) {kk:Sk}{pv:PV}(hs:∀H',Gr H H'→Src C H' kk pv (ys.map f)) (hb:notBarr kk=true) (hz:ys.length≤1000)
  (step:∀y H',y∈ys→Gr H H'→wp C n sc 300 (.as target (f y) fr H' fun fr1 H1=>ifsW C n sc ifs fr1 H1 fun b H2=>subF fr fr1∧(match b with
   | true=>wp C n sc 300 (.ev elt fr1 H2 fun y' H3=>g y=some y'∧Gr H H3)
   | false=>g y=none∧Gr H H2)))
  (hend:∀H' a,Gr H H'→H' a=none→Q (.ref a) (H'.set a (.list (ys.filterMap g)))) :
  ∃kk xs,Src C H kk pv xs∧notBarr kk=true∧xs.length≤1000∧CpOk C n sc elt target iter ifs scope pos kk pv xs 0 [] fr H (newL Q):=by
 have hz':(ys.map f).length≤1000:=by rw [List.length_map]; exact hz
 refine ⟨kk,ys.map f,hs H (Gr.refl _),hb,hz',?_⟩
 have key:∀i,((ys.take i).map f).length≤1000:=fun i=>by rw [List.length_map,List.length_take]; exact Nat.le_trans (Nat.min_le_right _ _) hz
 refine cp_go hW fr (fun i zs H'=>Gr H H'∧zs=(ys.take i).filterMap g) (fun i zs H' h=>hs _ h.1) (fun i zs H' h=>?_) (fun i x zs H' hx h=>?_) (fun zs H' h=>?_) (ys.map f).length 0 [] H (by first | exact Nat.zero_add _ | exact Nat.sub_zero _ | omega) ⟨Gr.refl _,by simp⟩
 ·rw [h.2]
  exact Nat.le_trans (List.length_filterMap_le _ _) (by rw [List.length_take]; exact Nat.le_trans (Nat.min_le_right _ _) hz)
 ·rw [List.getElem?_map] at hx
  obtain ⟨y,hy,rfl⟩:=Option.map_eq_some_iff.mp hx
  have et:(ys.take (i+1)).filterMap g=zs++[y].filterMap g:=by
   rw [List.take_add_one,hy,List.filterMap_append,h.2]; rfl
  refine AsOk.mono (wp_ok hW _ _ (step y H' (List.mem_of_getElem? hy) h.1)) fun fr1 H1 h=>ifsW_ok hW h fun b H2 ⟨l,h⟩=>⟨l,?_⟩
  induction b using Bool.casesOn with
  | true=>exact EvOk.mono (wp_ok hW _ _ h) fun y H3 ⟨e,q⟩=>⟨q,by rw [et,List.filterMap_cons,e]; rfl⟩
  | false=>exact ⟨h.2,by rw [et,List.filterMap_cons,h.1]; simp⟩
 ·obtain ⟨a,rfl⟩:=h
  rw [List.length_map,List.take_length]
  exact fun a' ha=>hend _ a' a ha
theorem compL (hW:WOK C) {elt target iter:Expr}{ifs:List Expr}{scope:Scope}{pos:Pos}{Q:PV→GHeap→Prop}{α:Type}{f:α→PV}(ys:List α) (g:α→Option PV) {p:Addr}(hs:H p=some (.list (ys.map f))) (hz:ys.length≤1000)
  (step:∀y H',y∈ys→Gr H H'→wp C n sc 300 (.as target (f y) fr H' fun fr1 H1=>ifsW C n sc ifs fr1 H1 fun b H2=>subF fr fr1∧(match b with
   | true=>wp C n sc 300 (.ev elt fr1 H2 fun y' H3=>g y=some y'∧Gr H H3)
   | false=>g y=none∧Gr H H2)))
  (hend:∀H' a,Gr H H'→H' a=none→Q (.ref a) (H'.set a (.list (ys.filterMap g)))) :
  ∃kk xs,Src C H kk (.ref p) xs∧notBarr kk=true∧xs.length≤1000∧CpOk C n sc elt target iter ifs scope pos kk (.ref p) xs 0 [] fr H (newL Q) :=
 compG hW ys g (fun H' h=>.list (.inl (h _ _ hs))) rfl hz step hend
theorem any_ints (k:Int) (ks:List Int):((ks.map PyData.int).any fun y=>PyData.eqv y (.int k))=ks.contains k:=by
 induction ks with
 | nil=>rfl
 | cons x r ih =>
  rw [List.map_cons,List.any_cons,ih,List.contains_cons]
  congr 1
  show (x == k)=(k == x)
  exact BEq.comm
theorem int_shaped (k:Int):SeqAt.shaped (.int k)=true:=rfl
theorem ints_shaped:∀ks:List Int,(ks.map PyData.int).all SeqAt.shaped=true
 | []=>rfl
 | k::r=>by rw [List.map_cons,List.all_cons,ints_shaped r]; rfl
theorem inInts {Q:PV→GHeap→Prop}{a:Addr}{k:Int}{ks:List Int}(h:H a=some (.list (ks.map PV.int))) (q:Q (.bool (ks.contains k)) H):Op2Ok C n (compareOp .In) (.int k) (.ref a) H Q :=
 in_list (.inl h) (DtL.ints ks) (.int k) (ints_shaped ks) (int_shaped k) (by rw [any_ints]; exact q)
theorem boolT {Q:Bool→GHeap→Prop}{b:Bool}(h1:b=true→Q true H) (h2:b=false→Q false H):boolQ Q (.bool b) H:=by
 refine ⟨b,rfl,?_⟩
 cases b
 ·exact h2 rfl
 ·exact h1 rfl
theorem any_bool (b:Bool) (bs:List Bool):((bs.map PyData.bool).any fun y=>PyData.eqv y (.bool b))=bs.contains b:=by
 induction bs with
 | nil=>rfl
 | cons x r ih =>
  rw [List.map_cons,List.any_cons,ih,List.contains_cons]
  congr 1
  cases x<;>cases b<;>rfl
theorem bools_shaped:∀ks:List Bool,(ks.map PyData.bool).all SeqAt.shaped=true
 | []=>rfl
 | k::r=>by rw [List.map_cons,List.all_cons,bools_shaped r]; rfl
theorem DtL.bools {C:Cfg}{H:GHeap}:∀ks:List Bool,DtL C H (ks.map PV.bool) (ks.map PyData.bool)
 | []=>.nil
 | k::ks=>.cons (.bool k) (DtL.bools ks)
theorem inBools {Q:PV→GHeap→Prop}{a:Addr}{k:Bool}{ks:List Bool}(h:H a=some (.list (ks.map PV.bool))) (q:Q (.bool (ks.contains k)) H):Op2Ok C n (compareOp .In) (.bool k) (.ref a) H Q :=
 in_list (.inl h) (DtL.bools ks) (.bool k) (bools_shaped ks) rfl (by rw [any_bool]; exact q)
theorem cut_pos {i:Int}{n:Nat}(h0:0≤i) (h:i≤n):cutTo i n=i.toNat:=by
 unfold cutTo
 rw [if_neg (Int.not_lt.mpr h0),Int.min_eq_left h,Int.max_eq_right h0]
theorem up {m:Nat}{f:PV}{args:List PV}{Q Q':PV→GHeap→Prop}(h:CallOk C m f args H Q) (hm:Nat.ble m n=true) (q:∀v H',Q v H'→Q' v H'):CallOk C n f args H Q':=(h.le (Nat.le_of_ble_eq_true hm)).mono q
end
end
section
variable {C:Cfg}(hC:CK C) {H:GHeap}
include hC
noncomputable def wayIn (pk:List (Int×Int)):Bool:=(pk.map (·.2)).contains 1
noncomputable def firstT (pk:List (Int×Int)):Int:=(pk.head?.getD (0,0)).1
noncomputable def lastT (pk:List (Int×Int)):Int:=(pk.getLast?.getD (0,0)).1
noncomputable def isStream (pk:List (Int×Int)):Bool:=decide (firstT pk+2000<lastT pk)&&wayIn pk.dropLast
theorem t_stream {p:Addr}{pk:List (Int×Int)}(h:H p=some (.list (pk.map pkPV))) (hne:pk≠[]) (hl:pk.length≤100):CallOk C 1 (.ref 459) [.ref p] H (fun v H'=>v=.bool (isStream pk)∧Gr H H'):=by
 obtain ⟨x,hx⟩:∃x,pk.getLast?=some x:=⟨_,List.getLast?_eq_some_getLast hne⟩
 obtain ⟨y,hy⟩:∃y,pk.head?=some y:=⟨_,List.head?_eq_some_head hne⟩
 have hlm:(pk.map pkPV).length≤1000:=by rw [List.length_map]; exact Nat.le_trans hl (by decide)
 have hpos:0<pk.length:=List.length_pos_iff.mpr hne
 have e1:firstT pk=y.1:=by unfold firstT; rw [hy]; rfl
 have e2:lastT pk=x.1:=by unfold lastT; rw [hx]; rfl
 refine fn1 hC (stAt 69) "packets" rfl rfl rfl (by kernel_rfl) (by walk_at "f") 100 ?_
 walk_at "g"
 refine subN (.inl h) (by decide) (by rw [List.length_map]; exact Int.neg_le_neg (Int.ofNat_le.mpr hpos)) (by decide) (last_at pkPV hx) ?_
 walk_at "g"
 refine subL (.inl h) (by decide) (by decide) (head_at pkPV hy) ?_
 walk_at "g"
 refine And.intro (fun h1=>?_) (fun h1=>?_)
 ·walk_at "g"
  refine ⟨.list (.inl h),gi_list_to (.inl h) hlm fun b hb=>?_⟩
  rw [List.length_map,←List.map_take,cut_last]
  refine compL hC.wok pk.dropLast (fun x=>some (.int x.2)) (GHeap.set_same _ _ _) (by rw [List.length_dropLast]; exact Nat.le_trans (Nat.sub_le _ _) (Nat.le_trans hl (by decide))) (fun z H' hm hg=>?_) (fun H' a hg ha=>?_)
  ·walk_at "g"
   exact ⟨rfl,rfl,hg⟩
  ·walk_at "g"
   refine inInts (ks:=pk.dropLast.map (·.2)) (by rw [GHeap.set_same,fm_some,List.map_map]; rfl) ?_
   walk_at "g"
   refine ⟨?_,(Gr.new hb).trans (hg.trans (Gr.new ha))⟩
   unfold isStream
   rw [e1,e2,h1]; rfl
 ·walk_at "g"
  refine ⟨?_,Gr.refl _⟩
  unfold isStream
  rw [e1,e2,h1]; rfl
end
section
noncomputable def untilW (t:WTalk):Int:=lastT t.pk+(if t.a.p=17 then (if isStream t.pk=true then 120000 else 30000) else 600000)
structure TalkAt (H:GHeap) (x:WT):Prop where
 d:H x.ad=some (.sdict x.kv)
 p:H x.pd=some (.list (x.d.pk.map pkPV))
 ne:x.d.pk≠[]
 len:x.d.pk.length≤100
theorem TalkAt.gr {H H':GHeap}{x:WT}(t:TalkAt H x) (g:Gr H H'):TalkAt H' x:=⟨g _ _ t.d,g _ _ t.p,t.ne,t.len⟩
variable {C:Cfg}(hC:CK C) {H:GHeap}
include hC
theorem t_until {x:WT}(T:TalkAt H x):CallOk C 2 (.ref 466) [.ref x.ad] H (fun v H'=>v=.int (untilW x.d)∧Gr H H'):=by
 obtain ⟨y,hy⟩:∃y,x.d.pk.getLast?=some y:=⟨_,List.getLast?_eq_some_getLast T.ne⟩
 have hpos:0<x.d.pk.length:=List.length_pos_iff.mpr T.ne
 have e2:lastT x.d.pk=y.1:=by unfold lastT; rw [hy]; rfl
 refine fn1 hC (stAt 70) "talk" rfl rfl rfl (by kernel_rfl) (by walk_at "f") 100 ?_
 walk_at "g"
 refine subS T.d rfl ?_
 walk_at "g"
 refine subN (.inl T.p) (by decide) (by rw [List.length_map]; lia) (by decide) (last_at pkPV hy) ?_
 walk_at "g"
 refine subS T.d rfl ?_
 walk_at "g"
 refine And.intro (fun h1=>?_) (fun h1=>?_)
 ·walk_at "g"
  exact ⟨by unfold untilW; rw [if_neg h1,e2]; rfl,Gr.refl _⟩
 ·walk_at "g"
  refine subS T.d rfl ?_
  walk_at "g"
  refine (t_stream hC T.p T.ne T.len).mono fun v H' ⟨e,g⟩=>?_
  subst e
  walk_at "g"
  refine And.intro (fun h2=>?_) (fun h2=>?_)
  ·walk_at "g"
   exact ⟨by unfold untilW; rw [if_pos h1,if_pos h2,e2]; rfl,g⟩
  ·walk_at "g"
   exact ⟨by unfold untilW; rw [if_pos h1,h2,e2]; rfl,g⟩
noncomputable def stream4 (t:WTalk):Bool:=((List.range t.pk.length).map fun i=>isStream (t.pk.take (i+1))).contains true
noncomputable def statusW (t:WTalk):Int:=t.bits+(if wayIn t.pk=true then 2 else 0)+(if t.a.p=17 then (if stream4 t=true then 4 else 0) else 0)
theorem t_status2 {x:WT}(T:TalkAt H x) (s:Int):ExOk C 1 (scOf (stAt 71)) ((bodyOf (stAt 71)).drop 3) [("status",.int s),("packets",.ref x.pd),("talk",.ref x.ad)] H fun fl _ H'=>flv fl=.int (s+(if x.d.a.p=17 then (if stream4 x.d=true then 4 else 0) else 0))∧Gr H H':=by
 refine wp_ok (C:=C) (n:=1) (sc:=scOf (stAt 71)) hC.wok 300 (.ex _ _ _ _) ?_
 walk_at "g"
 refine subS T.d rfl ?_
 walk_at "g"
 refine And.intro (fun h1=>?_) (fun h1=>?_)
 ·walk_at "g"
  refine c_len (.inl T.p) (by rw [List.length_map]; exact Nat.le_trans T.len (by decide)) ?_
  walk_at "g"
  refine c_range ?_
  walk_at "g"
  rw [List.length_map]
  refine compG hC.wok (List.range x.d.pk.length) (f:=fun i=>.int (i:Nat)) (fun i=>some (.bool (isStream (x.d.pk.take (i+1))))) (kk:=.rng x.d.pk.length) (fun H' g=>.rng _ ?_) rfl ?_ (fun i H1 hm hg=>?_) (fun H1 a hg ha=>?_)
  ·exact Nat.lt_of_le_of_lt T.len (by decide)
  ·rw [List.length_range]; exact Nat.le_trans T.len (by decide)
  ·walk_at "g"
   refine ⟨rfl,?_⟩
   walk_at "g"
   have hm:=List.mem_range.mp hm
   refine ⟨.list (.inl (hg _ _ T.p)),gi_list_to (.inl (hg _ _ T.p)) (by rw [List.length_map]; exact Nat.le_trans T.len (by decide)) fun b hb=>?_⟩
   rw [List.length_map,←List.map_take,cut_pos (by exact Int.natCast_nonneg _) (by exact Int.ofNat_lt.mpr (by assumption))]
   walk_at "g"
   refine (t_stream hC (GHeap.set_same _ _ _) ?_ ?_).mono fun v H2 ⟨e,g⟩=>?_
   ·exact take_ne T.ne i
   ·rw [List.length_take]; exact Nat.le_trans (Nat.min_le_right _ _) T.len
   ·subst e
    exact ⟨rfl,hg.trans ((Gr.new hb).trans g)⟩
  ·walk_at "g"
   refine inBools (ks:=(List.range x.d.pk.length).map fun i=>isStream (x.d.pk.take (i+1))) (by rw [GHeap.set_same,fm_some,List.map_map]; rfl) (boolT (fun h2=>?_) (fun h2=>?_))
   ·walk_at "g"
    refine ⟨?_,hg.trans (Gr.new ha)⟩
    rw [if_pos h1,if_pos (show stream4 x.d=true from h2)]; rfl
   ·walk_at "g"
    refine ⟨?_,hg.trans (Gr.new ha)⟩
    rw [if_pos h1,show stream4 x.d=false from h2,if_neg Bool.false_ne_true,Int.add_zero]; rfl
 ·walk_at "g"
  rw [if_neg h1]
  exact ⟨by rw [Int.add_zero]; rfl,Gr.refl _⟩
theorem t_status {x:WT}(T:TalkAt H x):CallOk C 2 (.ref 471) [.ref x.ad] H (fun v H'=>v=.int (statusW x.d)∧Gr H H'):=by
 refine fn1 hC (stAt 71) "talk" rfl rfl rfl (by kernel_rfl) (by walk_at "f") 3 ?_
 walk_at "g"
 refine subS T.d rfl ?_
 walk_at "g"
 refine subS T.d rfl ?_
 walk_at "g"
 refine compL hC.wok x.d.pk (fun x=>some (.int x.2)) T.p (Nat.le_trans T.len (by decide)) (fun z H' hm hg=>?_) (fun H1 a hg ha=>?_)
 ·walk_at "g"
  exact ⟨rfl,rfl,hg⟩
 ·walk_at "g"
  have g1:=hg.trans (Gr.new (g:=.list (List.filterMap (fun x=>some (PV.int x.2)) x.d.pk)) ha)
  refine inInts (ks:=x.d.pk.map (·.2)) (by rw [GHeap.set_same,fm_some,List.map_map]; rfl) (boolT (fun h2=>?_) (fun h2=>?_))
  ·walk_at "g"
   refine ((t_status2 hC (T.gr g1) (x.d.bits+2)).mono fun fl _ H2 h=>?_).looks ?_
   ·exact ⟨by rw [h.1]; unfold statusW; rw [if_pos (show wayIn x.d.pk=true from h2)],g1.trans h.2⟩
   ·exact subF_is rfl
  ·walk_at "g"
   refine ((t_status2 hC (T.gr g1) x.d.bits).mono fun fl _ H2 h=>?_).looks ?_
   ·exact ⟨by rw [h.1]; unfold statusW; rw [show wayIn x.d.pk=false from h2]; simp,g1.trans h.2⟩
   ·exact subF_is rfl
end
section
section
variable {H:GHeap}{F:List Cell}{w:Wd}
theorem map_set_same {α β:Type}(f:α→β):∀{l:List α}{i:Nat}{x x':α},l[i]?=some x→f x'=f x→(l.set i x').map f=l.map f
 | [],_,_,_,_,_=>rfl
 | _::_,0,_,_,h,e=>by cases h; rw [List.set_cons_zero,List.map_cons,List.map_cons,e]
 | y::r,i+1,x,x',h,e=>by rw [List.set_cons_succ,List.map_cons,List.map_cons,map_set_same f (l:=r) (i:=i) h e]
theorem Own.inb {A B:List Cell}{p:Cell}(o:Own H (A++B)) (h:p∈A):H p.1=some p.2:=o.at_ p (List.mem_append_left _ h)
theorem w_hd (o:Own H (w.cells++F)):H w.wa=some (.sdict w.kv):=o.at_ (_,_) (.head _)
theorem w_tl (o:Own H (w.cells++F)):H w.tl=some (.list (w.talks.map fun x=>.ref x.ad)):=o.at_ (_,_) (.tail _ (.head _))
theorem w_el (o:Own H (w.cells++F)):H w.el=some (.list (w.exps.map fun x=>.ref x.ad)):=o.at_ (_,_) (.tail _ (.tail _ (.head _)))
theorem w_wl (o:Own H (w.cells++F)):H w.wl=some (.list (w.wires.map fun x=>.tup [.int x.1,x.2.pv])):=o.at_ (_,_) (.tail _ (.tail _ (.tail _ (.head _))))
theorem w_talkMem {x:WT}{c:Cell}(hx:x∈w.talks) (hc:c∈x.cells):c∈w.cells:=List.mem_append_right _ (List.mem_append_left _ (List.mem_flatMap.mpr ⟨x,hx,hc⟩))
theorem w_expMem {x:WE}{c:Cell}(hx:x∈w.exps) (hc:c∈x.cells):c∈w.cells:=List.mem_append_right _ (List.mem_append_right _ (List.mem_flatMap.mpr ⟨x,hx,hc⟩))
theorem w_td (o:Own H (w.cells++F)) {x:WT}(hx:x∈w.talks):H x.ad=some (.sdict x.kv):=o.inb (w_talkMem hx (.head _))
theorem w_tp (o:Own H (w.cells++F)) {x:WT}(hx:x∈w.talks):H x.pd=some (.list (x.d.pk.map pkPV)):=o.inb (w_talkMem hx (.tail _ (.head _)))
theorem w_ed (o:Own H (w.cells++F)) {x:WE}(hx:x∈w.exps):H x.ad=some (.sdict x.kv):=o.inb (w_expMem hx (.head _))
theorem own_flat {α:Type}{f:α→List Cell}{l:List α}{i:Nat}{x x':α}{A B:List Cell}{a:Addr}{g g':GObj}{c:List Cell}(o:Own H (A++(l.flatMap f++B))) (h:l[i]?=some x) (e:(f x).Perm ((a,g)::c)) (e':(f x').Perm ((a,g')::c)) :
  Own (H.set a g') (A++((l.set i x').flatMap f++B)):=by
 have p1:(A++(l.flatMap f++B)).Perm ((a,g)::(c++((l.eraseIdx i).flatMap f++(A++B)))):=by
  refine (List.Perm.append_left A (((flat_at h).trans (e.append_right _)).append_right B)).trans ?_
  simp only [List.cons_append,List.append_assoc]
  refine List.perm_middle.trans (List.Perm.cons _ ?_)
  refine List.perm_append_comm.trans ?_
  simp only [List.append_assoc]
  exact List.Perm.append_left _ (List.Perm.append_left _ List.perm_append_comm)
 have p2:(A++((l.set i x').flatMap f++B)).Perm ((a,g')::(c++((l.eraseIdx i).flatMap f++(A++B)))):=by
  refine (List.Perm.append_left A (((flat_set h x').trans (e'.append_right _)).append_right B)).trans ?_
  simp only [List.cons_append,List.append_assoc]
  refine List.perm_middle.trans (List.Perm.cons _ ?_)
  refine List.perm_append_comm.trans ?_
  simp only [List.append_assoc]
  exact List.Perm.append_left _ (List.Perm.append_left _ List.perm_append_comm)
 exact (o.perm p1).put.perm p2.symm
end
noncomputable def Wd.setT (w:Wd) (i:Nat) (x:WT):Wd:={w with talks:=w.talks.set i x}
noncomputable def Wd.setE (w:Wd) (i:Nat) (x:WE):Wd:={w with exps:=w.exps.set i x}
section
variable {H:GHeap}{F:List Cell}{w:Wd}
theorem w_setE (o:Own H (w.cells++F)) {j:Nat}{e e':WE}(h:w.exps[j]?=some e) (ha:e'.ad=e.ad):Own (H.set e.ad (.sdict e'.kv)) ((w.setE j e').cells++F):=by
 have q:(w.base++w.talks.flatMap WT.cells)++(w.exps.flatMap WE.cells++F)=w.cells++F:=by unfold Wd.cells; simp only [List.append_assoc]
 rw [←q] at o
 have z:=own_flat (x':=e') (c:=[]) (g':=.sdict e'.kv) o h (List.Perm.refl _) (by unfold WE.cells; rw [ha])
 have q2:(w.setE j e').cells++F=(w.base++w.talks.flatMap WT.cells)++((w.exps.set j e').flatMap WE.cells++F):=by
  unfold Wd.cells Wd.base Wd.setE
  simp only [List.append_assoc]
  rw [map_set_same (fun x:WE=>PV.ref x.ad) h (by rw [ha])]; rfl
 rw [q2]; exact z
theorem w_setT (o:Own H (w.cells++F)) {j:Nat}{e e':WT}(h:w.talks[j]?=some e) (ha:e'.ad=e.ad) (hp:e'.pd=e.pd) (hk:e'.d.pk=e.d.pk):Own (H.set e.ad (.sdict e'.kv)) ((w.setT j e').cells++F):=by
 have q:w.base++(w.talks.flatMap WT.cells++(w.exps.flatMap WE.cells++F))=w.cells++F:=by unfold Wd.cells; simp only [List.append_assoc]
 rw [←q] at o
 have z:=own_flat (x':=e') (c:=[(e.pd,.list (e.d.pk.map pkPV))]) (g':=.sdict e'.kv) o h (List.Perm.refl _) (by unfold WT.cells; rw [ha,hp,hk])
 have q2:(w.setT j e').cells++F=w.base++((w.talks.set j e').flatMap WT.cells++(w.exps.flatMap WE.cells++F)):=by
  unfold Wd.cells Wd.base Wd.setT
  simp only [List.append_assoc]
  rw [map_set_same (fun x:WT=>PV.ref x.ad) h (by rw [ha])]; rfl
 rw [q2]; exact z
theorem w_setP (o:Own H (w.cells++F)) {j:Nat}{e e':WT}(h:w.talks[j]?=some e) (ha:e'.ad=e.ad) (hp:e'.pd=e.pd) (hk:e'.kv=e.kv):Own (H.set e.pd (.list (e'.d.pk.map pkPV))) ((w.setT j e').cells++F):=by
 have q:w.base++(w.talks.flatMap WT.cells++(w.exps.flatMap WE.cells++F))=w.cells++F:=by unfold Wd.cells; simp only [List.append_assoc]
 rw [←q] at o
 have z:=own_flat (x':=e') (a:=e.pd) (g:=.list (e.d.pk.map pkPV)) (c:=[(e.ad,.sdict e.kv)]) (g':=.list (e'.d.pk.map pkPV)) o h (List.Perm.swap _ _ _) (by unfold WT.cells; rw [ha,hp,hk]; exact List.Perm.swap _ _ _)
 have q2:(w.setT j e').cells++F=w.base++((w.talks.set j e').flatMap WT.cells++(w.exps.flatMap WE.cells++F)):=by
  unfold Wd.cells Wd.base Wd.setT
  simp only [List.append_assoc]
  rw [map_set_same (fun x:WT=>PV.ref x.ad) h (by rw [ha])]; rfl
 rw [q2]; exact z
end
noncomputable def WT.off (x:WT):WT:={x with d:={x.d with isIn:=false,bits:=x.d.bits+512}}
noncomputable def WE.dead (e:WE):WE:={e with d:={e.d with gone:=true}}
noncomputable def WE.kill (n:Int) (e:WE):WE:=if e.d.master=n then e.dead else e
noncomputable def Wd.out (w:Wd) (i:Nat) (x:WT):Wd:={w with talks:=w.talks.set i x.off,exps:=w.exps.map (WE.kill x.d.num)}
noncomputable def WT.outF (x:WT):WT:={x with d:={x.d with isIn:=false}}
noncomputable def Wd.outTo (w:Wd) (i:Nat) (x:WT) (j:Nat):Wd:={w with talks:=w.talks.set i x.off,exps:=(w.exps.take j).map (WE.kill x.d.num)++w.exps.drop j}
theorem outTo_0 (w:Wd) (i:Nat) (x:WT):w.outTo i x 0=w.setT i x.off:=by unfold Wd.outTo Wd.setT; simp
theorem outTo_all (w:Wd) (i:Nat) (x:WT):w.outTo i x w.exps.length=w.out i x:=by unfold Wd.outTo Wd.out; simp
theorem kill_ad (n:Int) (e:WE):(e.kill n).ad=e.ad:=by unfold WE.kill; split<;>rfl
theorem kill_refs (n:Int) (l:List WE) (j:Nat):((l.take j).map (WE.kill n)++l.drop j).map (fun x:WE=>PV.ref x.ad)=l.map fun x:WE=>PV.ref x.ad:=by
 conv=>rhs; rw [←List.take_append_drop j l]
 rw [List.map_append,List.map_append,List.map_map]
 congr 1
 exact List.map_congr_left fun e _=>congrArg PV.ref (kill_ad n e)
theorem take_map_set {α:Type}(f:α→α) {l:List α}{j:Nat}{x:α}(h:l[j]?=some x):((l.take j).map f++l.drop j).set j (f x)=(l.take (j+1)).map f++l.drop (j+1):=by
 have hj:=(List.getElem?_eq_some_iff.mp h).1
 rw [List.take_add_one,h,List.drop_eq_getElem_cons hj]
 have e:l[j]=x:=Option.some.inj ((List.getElem?_eq_getElem hj).symm.trans h)
 rw [e,List.set_append_right _ _ (by rw [List.length_map,List.length_take]; lia)]
 rw [List.length_map,List.length_take,Nat.min_eq_left (Nat.le_of_lt hj),Nat.sub_self,List.set_cons_zero]
 simp
theorem take_map_at {α:Type}(f:α→α) {l:List α}{j:Nat}{x:α}(h:l[j]?=some x):((l.take j).map f++l.drop j)[j]?=some x:=by
 have hj:=(List.getElem?_eq_some_iff.mp h).1
 rw [List.getElem?_append_right (by rw [List.length_map,List.length_take]; lia),List.length_map,List.length_take,Nat.min_eq_left (Nat.le_of_lt hj),Nat.sub_self,List.getElem?_drop]
 simpa using h
theorem outTo_succ {w:Wd}{i:Nat}{x:WT}{j:Nat}{y:WE}(h:w.exps[j]?=some y):(w.outTo i x j).setE j (y.kill x.d.num)=w.outTo i x (j+1):=by
 unfold Wd.outTo Wd.setE
 rw [take_map_set _ h]
theorem set_self {α:Type}:∀{l:List α}{j:Nat}{x:α},l[j]?=some x→l.set j x=l
 | [],_,_,_=>rfl
 | y::r,0,x,h=>by cases h; rfl
 | y::r,j+1,x,h=>congrArg (y::·) (set_self (l:=r) h)
theorem outTo_same {w:Wd}{i:Nat}{x:WT}{j:Nat}{y:WE}(h:w.exps[j]?=some y) (hk:y.kill x.d.num=y):w.outTo i x (j+1)=w.outTo i x j:=by
 rw [←outTo_succ h,hk]
 unfold Wd.setE
 rw [set_self]
 exact take_map_at _ h
end
section
section
variable {C:Cfg}{n:Nat}{H:GHeap}{a:Addr}
theorem setS {kvs kvs':List (Str×PV)}{k:Str}{v:PV}{Q:GHeap→Prop}(h:H a=some (.sdict kvs)) (e:putD k v kvs=kvs') (z:isSmall 1000 kvs=true) (q:Q (H.set a (.sdict kvs'))):SetOk C n (.ref a) (.str k) v H Q:=si_sdict h e (isSmall_is z) q
theorem srcL {C:Cfg}{xs:List PV}{P:Sk→List PV→Prop}(h:H a=some (.list xs)) (hz:xs.length≤1000) (p:P (.list a) xs):∃kk xs,Src C H kk (.ref a) xs∧xs.length<2^62∧P kk xs:=⟨_,_,.list (.inl h),Nat.lt_of_le_of_lt hz (by decide),p⟩
end
variable {C:Cfg}(hC:CK C) {H:GHeap}{F:List Cell}
include hC
theorem t_out {w:Wd}{i:Nat}{x:WT}(o:Own H (w.cells++F)) (hx:w.talks[i]?=some x) (hz:w.exps.length≤1000):CallOk C 1 (.ref 478) [.ref w.wa,.ref x.ad] H (fun v H'=>v=.none∧Own H' ((w.out i x).cells++F)):=by
 have hm:=List.mem_of_getElem? hx
 have hx1:(w.setT i x.outF).talks[i]?=some x.outF:=set_at hx _
 have hx2:(w.setT i x.off).talks[i]?=some x.off:=set_at hx _
 refine fn2 hC (stAt 72) "world" "talk" rfl rfl rfl (by kernel_rfl) (by walk_at "f") 100 ?_
 walk_at "g"
 refine setS (w_td o hm) (kvs':=x.outF.kv) rfl rfl ?_
 have o1:=w_setT (e':=x.outF) o hx rfl rfl rfl
 have d1:=w_td o1 (List.mem_of_getElem? hx1)
 walk_at "g"
 refine subS d1 rfl ?_
 walk_at "g"
 refine setS d1 (kvs':=x.off.kv) rfl rfl ?_
 have o2:=w_setT (e':=x.off) o1 hx1 rfl rfl rfl
 rw [show (w.setT i x.outF).setT i x.off=w.setT i x.off from congrArg (fun l=>({w with talks:=l}:Wd)) (List.set_set ..)] at o2
 have h2:=w_hd o2
 have h3:=w_el o2
 walk_at "g"
 refine subS h2 rfl ?_
 walk_at "g"
 refine srcL h3 (by rw [List.length_map]; exact hz) ?_
 refine for_st hC.wok (σ:=Unit) (fun _=>[("world",.ref w.wa),("talk",.ref x.ad)]) (fun j _ H'=>Own H' ((w.outTo i x j).cells++F)) () rfl (by rw [outTo_0]; exact o2) (fun j _ H' h=>?_) (fun j y _ H' hy h=>?_) (fun _ H' h=>?_)
 ·have z:=w_el h
  rw [show (w.outTo i x j).exps.map (fun x:WE=>PV.ref x.ad)=w.exps.map (fun x:WE=>PV.ref x.ad) from kill_refs x.d.num w.exps j] at z
  exact .list (.inl z)
 ·rw [List.getElem?_map] at hy
  obtain ⟨y,he,rfl⟩:=Option.map_eq_some_iff.mp hy
  replace he:w.exps[j]?=some y:=he
  have hat:(w.outTo i x j).exps[j]?=some y:=take_map_at (WE.kill x.d.num) he
  have hd:=w_ed h (List.mem_of_getElem? hat)
  have ht:x.off∈(w.outTo i x j).talks:=List.mem_of_getElem? hx2
  have hd2:=w_td h ht
  walk_at "g"
  refine subS hd rfl ?_
  walk_at "g"
  refine subS hd2 rfl ?_
  walk_at "g"
  refine And.intro (fun h1=>?_) (fun h1=>?_)
  ·walk_at "g"
   refine setS hd (kvs':=y.dead.kv) rfl rfl ?_
   walk_at "g"
   refine ⟨(),rfl,?_⟩
   have z:=w_setE (e':=y.dead) h hat rfl
   show Own _ _; rw [←outTo_succ he,show y.kill x.d.num=y.dead from if_pos h1]
   exact z
  ·walk_at "g"
   refine ⟨(),rfl,?_⟩
   show Own _ _; rw [outTo_same (i:=i) (x:=x) he (if_neg h1)]
   exact h
 ·walk_at "g"
  rw [List.length_map,show (w.setT i x.off).exps=w.exps from rfl,outTo_all] at h
  exact ⟨rfl,h⟩
end
section
noncomputable def T6.dt (t:T6):PyData:=.tuple [.int 2,.int t.p,.int t.a,.int t.b,.int t.c,.int t.d]
theorem eqv_int (a b:Int):PyData.eqv (.int a) (.int b)=decide (a=b):=rfl
theorem eqvAll_ints:∀ks ls:List Int,PyData.eqvAll (ks.map .int) (ls.map .int)=decide (ks=ls)
 | [],[]=>rfl
 | [],_::_=>rfl
 | _::_,[]=>rfl
 | k::ks,l::ls=>by
  show (PyData.eqv (.int k) (.int l)&&PyData.eqvAll (ks.map .int) (ls.map .int))=_
  rw [eqvAll_ints ks ls,eqv_int]
  by_cases h1:k=l<;>by_cases h2:ks=ls<;>simp [h1,h2]
theorem T6.l_inj {t t':T6}:t.l=t'.l↔t=t':=by
 constructor
 ·intro h
  cases t; cases t'
  simp only [T6.l,List.cons.injEq] at h
  obtain ⟨_,a,b,c,d,e,_⟩:=h
  subst a b c d e; rfl
 ·rintro rfl; rfl
theorem T6.eqv (t t':T6):PyData.eqv t.dt t'.dt=decide (t=t'):=by
 show PyData.eqvAll (t.l.map .int) (t'.l.map .int)=_
 rw [eqvAll_ints]
 by_cases h:t=t'
 ·rw [decide_eq_true h,decide_eq_true (T6.l_inj.mpr h)]
 ·rw [decide_eq_false h,decide_eq_false (fun z=>h (T6.l_inj.mp z))]
section
variable {C:Cfg}{n:Nat}{H:GHeap}{Q:Bool→GHeap→Prop}
theorem T6.Dt (t:T6):Dt C H t.pv t.dt:=.tup (.cons (.int _) (.cons (.int _) (.cons (.int _) (.cons (.int _) (.cons (.int _) (.cons (.int _) .nil))))))
theorem boolP {p:Prop} [Decidable p] (h1:p→Q true H) (h2:¬p→Q false H):boolQ Q (.bool (decide p)) H:=q_dec h1 h2
theorem inT6 {t a b:T6}(h1:t=a∨t=b→Q true H) (h2:¬(t=a∨t=b)→Q false H):Op2Ok C n (compareOp .In) t.pv (.tup [a.pv,b.pv]) H (boolQ Q):=by
 refine in_tup (.cons a.Dt (.cons b.Dt .nil)) t.Dt rfl rfl ?_
 have e:([a.dt,b.dt].any fun y=>PyData.eqv y t.dt)=decide (t=a∨t=b):=by
  rw [List.any_cons,List.any_cons,T6.eqv,T6.eqv,List.any_nil]
  by_cases x:t=a<;>by_cases y:t=b<;>simp [x,y,eq_comm]
 rw [e]
 exact boolP h1 h2
theorem eqT6 {a b:T6}(h1:a=b→Q true H) (h2:¬a=b→Q false H):Op2Ok C n (compareOp .Eq) a.pv b.pv H (boolQ Q) :=
 op_eq_deep a.Dt b.Dt rfl rfl (by rw [T6.eqv]; exact boolP h1 h2)
theorem eqInts {Q:PV→GHeap→Prop}{ks ls:List Int}(z1:SeqAt.shaped (.tuple (ks.map .int))=true) (z2:SeqAt.shaped (.tuple (ls.map .int))=true) (q:Q (.bool (decide (ks=ls))) H):Op2Ok C n (compareOp .Eq) (.tup (ks.map .int)) (.tup (ls.map .int)) H Q :=
 op_eq_deep (.tup (.ints ks)) (.tup (.ints ls)) z1 z2 (by rw [show PyData.eqv (.tuple (ks.map .int)) (.tuple (ls.map .int))=decide (ks=ls) from eqvAll_ints ks ls]; exact q)
theorem inIntTup {Q:PV→GHeap→Prop}{k:Int}{ks:List Int}(q:Q (.bool (ks.contains k)) H):Op2Ok C n (compareOp .In) (.int k) (.tup (ks.map .int)) H Q :=
 in_tup (.ints ks) (.int k) (ints_shaped ks) (int_shaped k) (by rw [any_ints]; exact q)
end
end
section
variable {C:Cfg}(hC:CK C) {H:GHeap}{F:List Cell}
noncomputable def fitW (e:Exp) (zone:Int) (t:T6) (now:Int):Bool:=!e.gone&&decide (now<e.until_)&&decide (e.zone=zone)&&([-1,t.a].contains e.source&&decide ([e.nf,e.p,e.t,e.port]=[2,t.p,t.c,t.d]))
include hC
theorem t_fits {e:WE}{t:T6}{zone now:Int}(h:H e.ad=some (.sdict e.kv)):CallOk C 1 (.ref 492) [.ref e.ad,.int zone,t.pv,.int now] H (fun v H'=>v=.bool (fitW e.d zone t now)∧Gr H H'):=by
 refine fn4 hC (stAt 74) "expect" "zone" "t" "now" rfl rfl rfl (by kernel_rfl) (by walk_at "f") 100 ?_
 walk_at "g"
 refine subS h rfl ?_
 walk_at "g"
 refine And.intro (fun h1=>?_) (fun h1=>?_)
 ·walk_at "g"
  rw [show fitW e.d zone t now=false by unfold fitW; rw [h1]; rfl]; exact ⟨rfl,Gr.refl _⟩
 walk_at "g"
 refine subS h rfl ?_
 walk_at "g"
 refine And.intro (fun h2=>?_) (fun h2=>?_)
 ·walk_at "g"
  rw [show fitW e.d zone t now=false by unfold fitW; rw [h1,decide_eq_false (Int.not_lt.mpr h2)]; rfl]; exact ⟨rfl,Gr.refl _⟩
 walk_at "g"
 refine subS h rfl ?_
 walk_at "g"
 refine And.intro (fun h3=>?_) (fun h3=>?_)
 ·walk_at "g"
  rw [show fitW e.d zone t now=false by unfold fitW; rw [h1,decide_eq_true (Int.not_le.mp h2),decide_eq_false h3]; rfl]; exact ⟨rfl,Gr.refl _⟩
 walk_at "g"
 refine subS h rfl ?_
 walk_at "g"
 refine inIntTup (ks:=[-1,t.a]) ?_
 walk_at "g"
 refine And.intro (fun h4=>?_) (fun h4=>?_)
 ·walk_at "g"
  refine subS h rfl ?_
  walk_at "g"
  refine eqInts (ks:=[e.d.nf,e.d.p,e.d.t,e.d.port]) (ls:=[2,t.p,t.c,t.d]) rfl rfl ?_
  walk_at "g"
  rw [show fitW e.d zone t now=decide ([e.d.nf,e.d.p,e.d.t,e.d.port]=[2,t.p,t.c,t.d]) by unfold fitW; rw [h1,decide_eq_true (Int.not_le.mp h2),decide_eq_true h3,h4]; rfl]; exact ⟨rfl,Gr.refl _⟩
 ·walk_at "g"
  rw [show fitW e.d zone t now=false by unfold fitW; rw [h1,decide_eq_true (Int.not_le.mp h2),decide_eq_true h3,h4]; rfl,h4]; exact ⟨rfl,Gr.refl _⟩
noncomputable def hitW (x:WTalk) (zone:Int) (t:T6):Prop:=x.isIn=true∧x.zone=zone∧(t=x.a∨t=x.b)
inductive FoundW (w:Wd) (zone:Int) (t:T6) (now:Int):PV→Wd→Prop
 | none:(∀x∈w.talks,¬hitW x.d zone t)→FoundW w zone t now .none w
 | old {i:Nat}{x:WT}:w.talks[i]?=some x→hitW x.d zone t→untilW x.d≤now→FoundW w zone t now .none (w.out i x)
 | hit {i:Nat}{x:WT}{way:Int}:w.talks[i]?=some x→hitW x.d zone t→¬untilW x.d≤now→way=(if t=x.d.a then 0 else 1)→FoundW w zone t now (.tup [.ref x.ad,.int way]) w
structure TalksOk (w:Wd):Prop where
 ne:∀x∈w.talks,x.d.pk≠[]
 len:∀x∈w.talks,x.d.pk.length≤100
 many:w.talks.length≤100
 exps:w.exps.length≤1000
theorem t_find {w:Wd}{t:T6}{zone now:Int}(o:Own H (w.cells++F)) (k:TalksOk w):CallOk C 3 (.ref 485) [.ref w.wa,.int zone,t.pv,.int now] H (fun v H'=>∃w',FoundW w zone t now v w'∧Own H' (w'.cells++F)):=by
 refine fn4 hC (stAt 73) "world" "zone" "t" "now" rfl rfl rfl (by kernel_rfl) (by walk_at "f") 100 ?_
 walk_at "g"
 refine subS (w_hd o) rfl ?_
 walk_at "g"
 refine srcL (w_tl o) (by rw [List.length_map]; exact Nat.le_trans k.many (by decide)) ?_
 refine for_st hC.wok (σ:=Unit) (fun _=>[("world",.ref w.wa),("zone",.int zone),("t",t.pv),("now",.int now)]) (fun j _ H'=>Own H' (w.cells++F)∧∀x∈w.talks.take j,¬hitW x.d zone t) () rfl ⟨o,fun x hx=>by simp at hx⟩ (fun j _ H' h=>.list (.inl (w_tl h.1))) (fun j y _ H' hy h=>?_) (fun _ H' h=>?_)
 ·obtain ⟨o,hno⟩:=h
  rw [List.getElem?_map] at hy
  obtain ⟨x,he,rfl⟩:=Option.map_eq_some_iff.mp hy
  have hm:=List.mem_of_getElem? he
  have hd:=w_td o hm
  have T:TalkAt H' x:=⟨hd,w_tp o hm,k.ne x hm,k.len x hm⟩
  have next:¬hitW x.d zone t→∀x∈w.talks.take (j+1),¬hitW x.d zone t:=fun hx y hy=>by
   rw [List.take_add_one,he] at hy
   rcases List.mem_append.mp hy with hy | hy
   ·exact hno y hy
   ·rw [List.mem_singleton.mp hy]; exact hx
  walk_at "g"
  refine subS hd rfl ?_
  walk_at "g"
  refine And.intro (fun h1=>?_) (fun h1=>?_)
  ·walk_at "g"
   refine subS hd rfl ?_
   walk_at "g"
   refine And.intro (fun h2=>?_) (fun h2=>?_)
   ·walk_at "g"
    refine subS hd rfl ?_
    walk_at "g"
    refine inT6 (fun h3=>?_) (fun h3=>?_)
    ·walk_at "g"
     refine up (t_until hC T) rfl fun v H1 h=>?_
     obtain ⟨rfl,g⟩:=h
     have o1:=o.gr g
     walk_at "g"
     refine And.intro (fun h4=>?_) (fun h4=>?_)
     ·walk_at "g"
      refine up (t_out hC o1 he k.exps) rfl fun v H2 h=>?_
      obtain ⟨rfl,o2⟩:=h
      walk_at "g"
      exact ⟨_,.old he ⟨h1,h2,h3⟩ h4,o2⟩
     ·walk_at "g"
      refine subS (w_td o1 hm) rfl ?_
      walk_at "g"
      refine eqT6 (fun h5=>?_) (fun h5=>?_)
      ·walk_at "g"
       exact ⟨_,.hit he ⟨h1,h2,h3⟩ h4 (if_pos h5).symm,o1⟩
      ·walk_at "g"
       exact ⟨_,.hit he ⟨h1,h2,h3⟩ h4 (if_neg h5).symm,o1⟩
    ·walk_at "g"
     exact ⟨(),rfl,o,next fun z=>h3 z.2.2⟩
   ·walk_at "g"
    exact ⟨(),rfl,o,next fun z=>h2 z.2.1⟩
  ·walk_at "g"
   exact ⟨(),rfl,o,next fun z=>by rw [z.1] at h1; cases h1⟩
 ·walk_at "g"
  obtain ⟨o,hno⟩:=h
  rw [List.length_map,List.take_length] at hno
  exact ⟨w,.none hno,o⟩
end
section
section
variable {H:GHeap}{A F:List Cell}{w:Wd}{a:Addr}{g g':GObj}
theorem Own.newF (o:Own H (A++F)) (e:H a=none):Own (H.set a g) (A++((a,g)::F)):=(o.new e).perm List.perm_middle.symm
theorem Own.adopt {L:List Cell}{H':GHeap}(o:Own H L) (gr:Gr H H') (e:H a=none) (e':H' a=some g):Own H' ((a,g)::L) :=
 ⟨fun p hp=>(by
  rcases List.mem_cons.mp hp with rfl | hp
  ·exact e'
  ·exact gr _ _ (o.at_ p hp)),(o.new (g:=g) e).nd⟩
theorem Own.adoptF {H':GHeap}(o:Own H (A++F)) (gr:Gr H H') (e:H a=none) (e':H' a=some g):Own H' (A++((a,g)::F)):=(o.adopt gr e e').perm List.perm_middle.symm
theorem Own.putF (o:Own H (A++((a,g)::F))):Own (H.set a g') (A++((a,g')::F)):=((o.perm List.perm_middle).put).perm List.perm_middle.symm
theorem Own.inF (o:Own H (A++((a,g)::F))):H a=some g:=o.at_ (a,g) (List.mem_append_right _ (.head _))
theorem keep_ls {x:GObj}{xs:List PV}{kvs:List (Str×PV)}{b:Addr}(h1:H a=some (.list xs)) (h2:H b=some (.sdict kvs)):(H.set b x) a=some (.list xs):=by
 rw [GHeap.set_other]
 ·exact h1
 ·rintro rfl; rw [h2] at h1; cases h1
noncomputable def Wd.addT (w:Wd) (x:WT):Wd:={w with talks:=w.talks++[x]}
noncomputable def Wd.addE (w:Wd) (x:WE):Wd:={w with exps:=w.exps++[x]}
noncomputable def Wd.addW (w:Wd) (x:Int×Wire):Wd:={w with wires:=w.wires++[x]}
theorem w_addT {x:WT}(o:Own H (w.cells++(x.cells++F))):Own (H.set w.tl (.list ((w.talks.map fun x=>.ref x.ad)++[.ref x.ad]))) ((w.addT x).cells++F):=by
 have e:(w.talks.map fun x=>PV.ref x.ad)++[.ref x.ad]=(w.talks++[x]).map fun x=>PV.ref x.ad:=by rw [List.map_append]; rfl
 rw [e]
 have p1:(w.cells++(x.cells++F)).Perm ((w.tl,.list (w.talks.map fun x=>.ref x.ad))::((w.wa,.sdict w.kv)::(w.el,.list (w.exps.map fun x=>.ref x.ad))::(w.wl,.list (w.wires.map fun x=>.tup [.int x.1,x.2.pv]))::(w.talks.flatMap WT.cells++(w.exps.flatMap WE.cells++(x.cells++F))))):=by
  unfold Wd.cells Wd.base
  simp only [List.append_assoc,List.cons_append,List.nil_append]
  exact List.Perm.swap _ _ _
 have p2:((w.addT x).cells++F).Perm ((w.tl,.list ((w.talks++[x]).map fun x=>.ref x.ad))::((w.wa,.sdict w.kv)::(w.el,.list (w.exps.map fun x=>.ref x.ad))::(w.wl,.list (w.wires.map fun x=>.tup [.int x.1,x.2.pv]))::(w.talks.flatMap WT.cells++(w.exps.flatMap WE.cells++(x.cells++F))))):=by
  unfold Wd.cells Wd.base Wd.addT
  simp only [List.append_assoc,List.cons_append,List.nil_append,List.flatMap_append,List.flatMap_cons,List.flatMap_nil,List.append_nil]
  refine (List.Perm.swap _ _ _).trans (List.Perm.cons _ (List.Perm.cons _ (List.Perm.cons _ (List.Perm.cons _ (List.Perm.append_left _ ?_)))))
  rw [←List.append_assoc,←List.append_assoc]
  exact List.perm_append_comm.append_right _
 exact ((o.perm p1).put).perm p2.symm
theorem w_addE {x:WE}(o:Own H (w.cells++(x.cells++F))):Own (H.set w.el (.list ((w.exps.map fun x=>.ref x.ad)++[.ref x.ad]))) ((w.addE x).cells++F):=by
 have e:(w.exps.map fun x=>PV.ref x.ad)++[.ref x.ad]=(w.exps++[x]).map fun x=>PV.ref x.ad:=by rw [List.map_append]; rfl
 rw [e]
 have p1:(w.cells++(x.cells++F)).Perm ((w.el,.list (w.exps.map fun x=>.ref x.ad))::((w.wa,.sdict w.kv)::(w.tl,.list (w.talks.map fun x=>.ref x.ad))::(w.wl,.list (w.wires.map fun x=>.tup [.int x.1,x.2.pv]))::(w.talks.flatMap WT.cells++(w.exps.flatMap WE.cells++(x.cells++F))))):=by
  unfold Wd.cells Wd.base
  simp only [List.append_assoc,List.cons_append,List.nil_append]
  exact (List.Perm.cons _ (List.Perm.swap _ _ _)).trans (List.Perm.swap _ _ _)
 have p2:((w.addE x).cells++F).Perm ((w.el,.list ((w.exps++[x]).map fun x=>.ref x.ad))::((w.wa,.sdict w.kv)::(w.tl,.list (w.talks.map fun x=>.ref x.ad))::(w.wl,.list (w.wires.map fun x=>.tup [.int x.1,x.2.pv]))::(w.talks.flatMap WT.cells++(w.exps.flatMap WE.cells++(x.cells++F))))):=by
  unfold Wd.cells Wd.base Wd.addE
  simp only [List.append_assoc,List.cons_append,List.nil_append,List.flatMap_append,List.flatMap_cons,List.flatMap_nil,List.append_nil]
  exact (List.Perm.cons _ (List.Perm.swap _ _ _)).trans (List.Perm.swap _ _ _)
 exact ((o.perm p1).put).perm p2.symm
theorem w_addW {x:Int×Wire}(o:Own H (w.cells++F)):Own (H.set w.wl (.list ((w.wires.map fun x=>.tup [.int x.1,x.2.pv])++[.tup [.int x.1,x.2.pv]]))) ((w.addW x).cells++F):=by
 have e:(w.wires.map fun x=>PV.tup [.int x.1,x.2.pv])++[.tup [.int x.1,x.2.pv]]=(w.wires++[x]).map fun x=>PV.tup [.int x.1,x.2.pv]:=by rw [List.map_append]; rfl
 rw [e]
 have p0:∀a b c d:Cell,∀l,(a::b::c::d::l).Perm (d::a::b::c::l):=fun a b c d l =>
  (List.Perm.cons _ (List.Perm.cons _ (List.Perm.swap _ _ _))).trans ((List.Perm.cons _ (List.Perm.swap _ _ _)).trans (List.Perm.swap _ _ _))
 exact ((o.perm (p0 _ _ _ _ _)).put).perm (p0 _ _ _ _ _).symm
end
noncomputable def sumMark (l:List WT) (n:Int):Int:=((l.filter fun x=>x.d.isIn&&decide (x.d.num=n)).map (·.d.mark)).sum
noncomputable def newTalk (w:Wd) (zone:Int) (wire:Wire):WTalk:={num:=w.talks.length+1,zone,a:=wire.key,b:=wire.back.key,mark:=0,master:=0,bits:=0,pk:=[],isIn:=false}
inductive NewW (w:Wd) (zone:Int) (wire:Wire) (now:Int):WT→Wd→Prop
 | plain {ad pd:Addr}:(∀e∈w.exps,fitW e.d zone wire.key now=false)→NewW w zone wire now ⟨ad,pd,newTalk w zone wire⟩ (w.addT ⟨ad,pd,newTalk w zone wire⟩)
 | rel {ad pd:Addr}{l1 l2:List WE}{e:WE}:w.exps=l1++e::l2→(∀y∈l1,fitW y.d zone wire.key now=false)→fitW e.d zone wire.key now=true →
   NewW w zone wire now ⟨ad,pd,{newTalk w zone wire with bits:=1,master:=e.d.master,mark:=sumMark w.talks e.d.master}⟩
    (({w with exps:=l1++e.dead::l2}:Wd).addT ⟨ad,pd,{newTalk w zone wire with bits:=1,master:=e.d.master,mark:=sumMark w.talks e.d.master}⟩)
end
section
variable {C:Cfg}(hC:CK C) {H:GHeap}{F:List Cell}
theorem filter_none {α:Type}{p:α→Bool}:∀{l:List α},l.filter p=[]→∀x∈l,p x=false
 | y::r,h,x,hx=>by
  rw [List.filter_cons] at h
  split at h
  ·cases h
  ·rename_i hy
   rcases List.mem_cons.mp hx with rfl | hx
   ·simpa using hy
   ·exact filter_none h x hx
theorem filter_head {α:Type}{p:α→Bool}:∀{l:List α}{e:α}{t:List α},l.filter p=e::t→∃l1 l2,l=l1++e::l2∧(∀y∈l1,p y=false)∧p e=true
 | y::r,e,t,h=>by
  rw [List.filter_cons] at h
  split at h
  ·rename_i hy; cases h; exact ⟨[],r,rfl,(fun _ z=>nomatch z),hy⟩
  ·rename_i hy
   obtain ⟨l1,l2,rfl,h1,h2⟩:=filter_head h
   exact ⟨y::l1,l2,rfl,fun z hz=>(by
    rcases List.mem_cons.mp hz with rfl | hz
    ·simpa using hy
    ·exact h1 z hz),h2⟩
theorem fm_filter {α β:Type}(p:α→Bool) (f:α→β):∀l:List α,l.filterMap (fun x=>if p x=true then some (f x) else none)=(l.filter p).map f
 | []=>rfl
 | x::r=>by
  rw [List.filterMap_cons,List.filter_cons]
  cases h:p x with
  | true=>rw [if_pos rfl,if_pos rfl]; exact congrArg _ (fm_filter p f r)
  | false=>rw [if_neg Bool.false_ne_true,if_neg Bool.false_ne_true]; exact fm_filter p f r
include hC
theorem t_key (w:Wire):CallOk C 1 (.ref 440) [w.pv] H (fun v H'=>v=w.key.pv∧H'=H):=by
 refine fn1 hC (stAt 66) "wire" rfl rfl rfl (by kernel_rfl) (by walk_at "f") 100 ?_
 walk_at "g"
 refine And.intro (fun h=>?_) (fun h=>?_)
 ·walk_at "g"
  rw [show w.key=⟨w.p,w.s,0,w.t,0⟩ from if_neg h]; exact ⟨rfl,rfl⟩
 ·walk_at "g"
  rw [show w.key=⟨w.p,w.s,w.sp,w.t,w.dp⟩ from if_pos h]; exact ⟨rfl,rfl⟩
theorem t_bk (w:Wire):CallOk C 1 (.ref 447) [w.pv] H (fun v H'=>v=w.back.pv∧H'=H):=by
 refine fn1 hC (stAt 67) "wire" rfl rfl rfl (by kernel_rfl) (by walk_at "f") 100 ?_
 walk_at "g"
 exact ⟨rfl,rfl⟩
theorem t_new {w:Wd}{wire:Wire}{zone now:Int}(o:Own H (w.cells++F)) (k:TalksOk w):CallOk C 2 (.ref 497) [.ref w.wa,.int zone,wire.pv,.int now] H (fun v H'=>∃x w',NewW w zone wire now x w'∧v=.ref x.ad∧Own H' (w'.cells++F)):=by
 refine fn4 hC (stAt 75) "world" "zone" "wire" "now" rfl rfl rfl (by kernel_rfl) (by walk_at "f") 100 ?_
 walk_at "g"
 refine up (t_key hC wire) rfl fun v H1 h=>?_
 obtain ⟨rfl,rfl⟩:=h
 walk_at "g"
 refine up (t_bk hC wire) rfl fun v H1 h=>?_
 obtain ⟨rfl,rfl⟩:=h
 walk_at "g"
 refine up (t_key hC wire.back) rfl fun v H1 h=>?_
 obtain ⟨rfl,rfl⟩:=h
 walk_at "g"
 refine subS (w_hd o) rfl ?_
 walk_at "g"
 refine c_len (.inl (w_tl o)) (by rw [List.length_map]; exact Nat.le_trans k.many (by decide)) ?_
 rw [List.length_map]
 walk_at "g"
 intro pd hpd
 have o1:=o.newF (g:=.list []) hpd
 walk_at "g"
 intro ad had
 have o2:=o1.newF (g:=.sdict (WT.kv ⟨ad,pd,newTalk w zone wire⟩)) had
 walk_at "g"
 refine subS (w_hd o2) rfl ?_
 walk_at "g"
 refine compL hC.wok w.exps (fun e=>if fitW e.d zone wire.key now=true then some (.ref e.ad) else none) (w_el o2) k.exps (fun e H' hm hg=>?_) (fun H' a hg ha=>?_)
 ·walk_at "g"
  refine up (t_fits hC (hg _ _ (w_ed o2 hm))) rfl fun v H3 h=>?_
  obtain ⟨rfl,g3⟩:=h
  walk_at "g"
  refine And.intro (fun h1=>?_) (fun h1=>?_)
  ·walk_at "g"
   refine ⟨rfl,?_⟩
   walk_at "g"
   exact ⟨if_pos h1,hg.trans g3⟩
  ·walk_at "g"
   refine ⟨rfl,?_⟩
   rw [h1]
   exact ⟨if_neg Bool.false_ne_true,hg.trans g3⟩
 ·rw [fm_filter]
  have o3:=(o2.gr hg).gr (Gr.new (g:=.list ((w.exps.filter fun e=>fitW e.d zone wire.key now).map fun e=>PV.ref e.ad)) ha)
  have hf:=GHeap.set_same H' a (.list ((w.exps.filter fun e=>fitW e.d zone wire.key now).map fun e=>PV.ref e.ad))
  revert o3 hf
  generalize GHeap.set H' a _=H2
  intro o3 hf
  have hlen:((w.exps.filter fun e=>fitW e.d zone wire.key now).map fun e=>PV.ref e.ad).length≤1000:=by rw [List.length_map]; exact Nat.le_trans (List.length_filter_le _ _) k.exps
  walk_at "g"
  intro b hb
  have gb:=Gr.new (g:=.list []) hb
  walk_at "g"
  refine op_ne_nil (.inl (gb _ _ hf)) (.inl (GHeap.set_same _ _ _)) ?_
  have o4:=o3.gr gb
  have hf4:=gb _ _ hf
  revert o4 hf4
  generalize GHeap.set H2 b _=H3
  intro o4 hf4
  refine boolT (fun h1=>?_) (fun h1=>?_)
  ·cases hfl:w.exps.filter fun e=>fitW e.d zone wire.key now with
   | nil=>rw [hfl] at h1; cases h1
   | cons e fl =>
    rw [hfl] at hf4
    refine byP fun PG kG=>?_
    obtain ⟨l1,l2,he,hno,hyes⟩:=filter_head hfl
    refine kG ?_
    have hj:w.exps[l1.length]?=some e:=by rw [he,List.getElem?_append_right (Nat.le_refl _),Nat.sub_self]; rfl
    have hmem:=List.mem_of_getElem? hj
    have hset:w.setE l1.length e.dead={w with exps:=l1++e.dead::l2}:=by
     unfold Wd.setE
     rw [he,List.set_append_right _ _ (Nat.le_refl _),Nat.sub_self]; rfl
    walk_at "g"
    refine subL (.inl hf4) (by decide) (by decide) rfl ?_
    walk_at "g"
    refine setS (w_ed o4 hmem) (kvs':=e.dead.kv) rfl rfl ?_
    have o5:=w_setE (e':=e.dead) o4 hj rfl
    have hf5:=keep_ls (x:=.sdict e.dead.kv) hf4 (w_ed o4 hmem)
    rw [hset] at o5
    revert o5 hf5
    generalize GHeap.set H3 e.ad _=H4
    intro o5 hf5
    walk_at "g"
    refine setS o5.inF (kvs':=WT.kv ⟨ad,pd,{newTalk w zone wire with bits:=1}⟩) rfl rfl ?_
    have o6:=o5.putF (g':=.sdict (WT.kv ⟨ad,pd,{newTalk w zone wire with bits:=1}⟩))
    have hf6:=keep_ls (x:=.sdict (WT.kv ⟨ad,pd,{newTalk w zone wire with bits:=1}⟩)) hf5 o5.inF
    revert o6 hf6
    generalize GHeap.set H4 ad _=H5
    intro o6 hf6
    walk_at "g"
    refine subL (.inl hf6) (by decide) (by decide) rfl ?_
    have hde:e.dead∈({w with exps:=l1++e.dead::l2}:Wd).exps:=List.mem_append_right _ (.head _)
    have hd6:=w_ed o6 hde
    walk_at "g"
    refine subS hd6 rfl ?_
    walk_at "g"
    refine setS o6.inF (kvs':=WT.kv ⟨ad,pd,{newTalk w zone wire with bits:=1,master:=e.d.master}⟩) rfl rfl ?_
    have o7:=o6.putF (g':=.sdict (WT.kv ⟨ad,pd,{newTalk w zone wire with bits:=1,master:=e.d.master}⟩))
    revert o7
    generalize GHeap.set H5 ad _=H6
    intro o7
    have h7:=w_hd o7
    walk_at "g"
    refine subS h7 rfl ?_
    walk_at "g"
    refine compL hC.wok w.talks (fun x=>if (x.d.isIn&&decide (x.d.num=e.d.master))=true then some (.int x.d.mark) else none) (w_tl o7) (Nat.le_trans k.many (by decide)) (fun x H' hm hg=>?_) (fun H' a hg ha=>?_)
    ·have ox:=o7.gr hg
     walk_at "g"
     refine subS (w_td ox hm) rfl ?_
     walk_at "g"
     refine And.intro (fun h1=>?_) (fun h1=>?_)
     ·walk_at "g"
      refine subS (w_td ox hm) rfl ?_
      walk_at "g"
      refine subS ox.inF rfl ?_
      walk_at "g"
      refine And.intro (fun h2=>?_) (fun h2=>?_)
      ·walk_at "g"
       refine ⟨rfl,?_⟩
       walk_at "g"
       refine subS (w_td ox hm) rfl ?_
       walk_at "g"
       exact ⟨if_pos (by rw [h1,decide_eq_true h2]; rfl),hg⟩
      ·walk_at "g"
       refine ⟨rfl,?_⟩
       exact ⟨if_neg (by rw [h1,decide_eq_false h2]; exact Bool.false_ne_true),hg⟩
     ·walk_at "g"
      refine ⟨rfl,?_⟩
      exact ⟨if_neg (by rw [h1]; exact Bool.false_ne_true),hg⟩
    ·rw [fm_filter]
     have o8:=(o7.gr hg).gr (Gr.new (g:=.list ((w.talks.filter fun x=>x.d.isIn&&decide (x.d.num=e.d.master)).map fun x=>PV.int x.d.mark)) ha)
     have h8:=GHeap.set_same H' a (.list ((w.talks.filter fun x=>x.d.isIn&&decide (x.d.num=e.d.master)).map fun x=>PV.int x.d.mark))
     revert o8 h8
     generalize GHeap.set H' a _=H7
     intro o8 h8
     walk_at "g"
     refine c_sum (ks:=(w.talks.filter fun x=>x.d.isIn&&decide (x.d.num=e.d.master)).map (·.d.mark)) (.inl (by rw [List.map_map]; exact h8)) ?_
     walk_at "g"
     refine setS o8.inF (kvs':=WT.kv ⟨ad,pd,{newTalk w zone wire with bits:=1,master:=e.d.master,mark:=sumMark w.talks e.d.master}⟩) rfl rfl ?_
     have o9:=o8.putF (g':=.sdict (WT.kv ⟨ad,pd,{newTalk w zone wire with bits:=1,master:=e.d.master,mark:=sumMark w.talks e.d.master}⟩))
     revert o9
     generalize GHeap.set H7 ad _=H8
     intro o9
     have h9:=w_hd o9
     have h9t:=w_tl o9
     walk_at "g"
     refine subS h9 rfl ?_
     walk_at "g"
     refine methL h9t rfl ?_
     walk_at "g"
     refine c_append h9t (by rw [List.length_map]; exact Nat.le_trans k.many (by decide)) ?_
     walk_at "g"
     have o10:=w_addT (x:=⟨ad,pd,{newTalk w zone wire with bits:=1,master:=e.d.master,mark:=sumMark w.talks e.d.master}⟩) o9
     exact ⟨_,_,.rel he hno hyes,rfl,o10⟩
  ·walk_at "g"
   refine subS (w_hd o4) rfl ?_
   walk_at "g"
   refine methL (w_tl o4) rfl ?_
   walk_at "g"
   refine c_append (w_tl o4) (by rw [List.length_map]; exact Nat.le_trans k.many (by decide)) ?_
   walk_at "g"
   have o5:=w_addT (x:=⟨ad,pd,newTalk w zone wire⟩) o4
   refine ⟨⟨ad,pd,newTalk w zone wire⟩,_,.plain (filter_none ?_),rfl,o5⟩
   simpa using h1
end
section
variable {C:Cfg}(hC:CK C) {H:GHeap}{F:List Cell}
noncomputable def WT.add (x:WT) (p:Int×Int):WT:={x with d:={x.d with pk:=x.d.pk++[p]}}
noncomputable def stateW (x:WTalk) (way:Int):Int:=if way=1∨wayIn x.pk=true then 2 else if x.bits%2=1 then 4 else 8
noncomputable def seenPV (x:WTalk) (state way zone:Int):PV:=.tup [.none,.int state,.int way,.int x.num,.int (statusW x),.int x.mark,.int x.master,.int (untilW x),.int zone,x.a.pv,x.b.pv]
include hC
theorem t_meet4 {w:Wd}{i:Nat}{x:WT}{st way zone now:Int}{hv:PV}(o:Own H (w.cells++F)) (hx:w.talks[i]?=some x) (hl:x.d.pk.length≤99) :
  ExOk C 3 (scOf (stAt 76)) ((bodyOf (stAt 76)).drop 4) [("state",.int st),("talk",.ref x.ad),("way",.int way),("hit",hv),("zone",.int zone),("now",.int now)] H
   fun fl _ H'=>flv fl=.tup [.ref x.ad,.int way,.bool hv.isNone,seenPV (x.add (now,way)).d st way zone]∧Own H' ((w.setT i (x.add (now,way))).cells++F):=by
 have hm:=List.mem_of_getElem? hx
 have hd:=w_td o hm
 have hp:=w_tp o hm
 refine wp_ok (C:=C) (n:=3) (sc:=scOf (stAt 76)) hC.wok 300 (.ex _ _ _ _) ?_
 walk_at "g"
 refine subS hd rfl ?_
 walk_at "g"
 refine methL hp rfl ?_
 walk_at "g"
 refine c_append hp (by rw [List.length_map]; exact Nat.le_trans hl (by decide)) ?_
 have e:x.d.pk.map pkPV++[.tup [.int now,.int way]]=(x.add (now,way)).d.pk.map pkPV:=by show _=(x.d.pk++[(now,way)]).map pkPV; rw [List.map_append]; rfl
 rw [e]
 have o1:=w_setP (e':=x.add (now,way)) o hx rfl rfl rfl
 have hm1:x.add (now,way)∈(w.setT i (x.add (now,way))).talks:=List.mem_of_getElem? (set_at hx _)
 have T1:TalkAt _ (x.add (now,way)):=⟨w_td o1 hm1,w_tp o1 hm1,fun z=>by
  have:=congrArg List.length z
  unfold WT.add at this
  simp at this,by unfold WT.add; simp; omega⟩
 have z1:(x.add (now,way)).ad=x.ad:=rfl
 have z2:(x.add (now,way)).pd=x.pd:=rfl
 revert o1 T1
 generalize GHeap.set H x.pd _=H1
 intro o1 T1
 walk_at "g"
 have hd1:=T1.d
 refine subS hd1 rfl ?_
 walk_at "g"
 have hs:=t_status hC T1
 refine up hs rfl fun v H2 h=>?_
 obtain ⟨rfl,g2⟩:=h
 have T2:=T1.gr g2
 walk_at "g"
 have hd2:=T2.d
 refine subS hd2 rfl ?_
 walk_at "g"
 refine subS hd2 rfl ?_
 walk_at "g"
 have hu:=t_until hC T2
 refine up hu rfl fun v H3 h=>?_
 obtain ⟨rfl,g3⟩:=h
 have T3:=T2.gr g3
 walk_at "g"
 have hd3:=T3.d
 refine subS hd3 rfl ?_
 walk_at "g"
 refine op_add_tup (fun z=>nomatch z) (fun z=>nomatch z) (Nat.le_of_ble_eq_true rfl) ?_
 walk_at "g"
 exact ⟨rfl,o1.gr (g2.trans g3)⟩
theorem t_meet2 {w:Wd}{i:Nat}{x:WT}{way zone now:Int}{hv:PV}(o:Own H (w.cells++F)) (hx:w.talks[i]?=some x) (hl:x.d.pk.length≤99) :
  ExOk C 3 (scOf (stAt 76)) ((bodyOf (stAt 76)).drop 2) [("talk",.ref x.ad),("way",.int way),("hit",hv),("zone",.int zone),("now",.int now)] H
   fun fl _ H'=>flv fl=.tup [.ref x.ad,.int way,.bool hv.isNone,seenPV (x.add (now,way)).d (stateW x.d way) way zone]∧Own H' ((w.setT i (x.add (now,way))).cells++F):=by
 have hm:=List.mem_of_getElem? hx
 have hd:=w_td o hm
 have hp:=w_tp o hm
 refine wp_ok (C:=C) (n:=3) (sc:=scOf (stAt 76)) hC.wok 300 (.exn 1 _ _ _ _) ?_
 walk_at "g"
 refine subS hd rfl ?_
 have key:∀st,(st=if x.d.bits%2=1 then 4 else 8)→∀H',Gr H H'→ExOk C 3 (scOf (stAt 76)) ((bodyOf (stAt 76)).drop 3) [("state",.int st),("talk",.ref x.ad),("way",.int way),("hit",hv),("zone",.int zone),("now",.int now)] H'
   fun fl _ H'=>flv fl=.tup [.ref x.ad,.int way,.bool hv.isNone,seenPV (x.add (now,way)).d (stateW x.d way) way zone]∧Own H' ((w.setT i (x.add (now,way))).cells++F):=fun st hst H0 g0=>by
  have o0:=o.gr g0
  have hd:=w_td o0 hm
  have hp:=w_tp o0 hm
  refine wp_ok (C:=C) (n:=3) (sc:=scOf (stAt 76)) hC.wok 300 (.exn 1 _ _ _ _) ?_
  walk_at "g"
  refine And.intro (fun h1=>?_) (fun h1=>?_)
  ·walk_at "g"
   refine ((t_meet4 hC o0 hx hl).looks (subF_is (by exact rfl))).mono fun fl _ H' h=>?_
   rw [show stateW x.d way=2 from if_pos (.inl h1)]; exact h
  ·walk_at "g"
   refine subS hd rfl ?_
   walk_at "g"
   refine compL hC.wok x.d.pk (fun x=>some (.int x.2)) hp (Nat.le_trans hl (by decide)) (fun z H' hm hg=>?_) (fun H1 a hg ha=>?_)
   ·walk_at "g"
    exact ⟨rfl,rfl,hg⟩
   ·walk_at "g"
    have g1:=hg.trans (Gr.new (g:=.list (List.filterMap (fun x=>some (PV.int x.2)) x.d.pk)) ha)
    have o1:=o0.gr g1
    refine inInts (ks:=x.d.pk.map (·.2)) (by rw [GHeap.set_same,fm_some,List.map_map]; rfl) (boolT (fun h2=>?_) (fun h2=>?_))
    ·walk_at "g"
     refine ((t_meet4 hC o1 hx hl).looks (subF_is (by exact rfl))).mono fun fl _ H' h=>?_
     rw [show stateW x.d way=2 from if_pos (.inr h2)]; exact h
    ·walk_at "g"
     refine ((t_meet4 hC o1 hx hl).looks (subF_is (by exact rfl))).mono fun fl _ H' h=>?_
     rw [show stateW x.d way=st from (if_neg (by rintro (z | z); exact h1 z; rw [show wayIn x.d.pk=false from h2] at z; cases z)).trans hst.symm]; exact h
 walk_at "g"
 refine And.intro (fun h1=>?_) (fun h1=>?_)
 ·walk_at "g"
  exact key 4 (if_pos h1).symm H (Gr.refl _)
 ·walk_at "g"
  exact key 8 (if_neg h1).symm H (Gr.refl _)
omit hC in
theorem TalksOk.out {w:Wd}{i:Nat}{x:WT}(k:TalksOk w) (hx:w.talks[i]?=some x):TalksOk (w.out i x):=by
 have hm:=List.mem_of_getElem? hx
 have key:∀y∈(w.out i x).talks,y∈w.talks∨y=x.off:=fun y hy=>by
  rcases List.mem_or_eq_of_mem_set hy with h | h
  ·exact .inl h
  ·exact .inr h
 refine ⟨fun y hy=>?_,fun y hy=>?_,?_,?_⟩
 ·rcases key y hy with h | rfl
  ·exact k.ne y h
  ·exact k.ne x hm
 ·rcases key y hy with h | rfl
  ·exact k.len y h
  ·exact k.len x hm
 ·show (w.talks.set i x.off).length≤100
  rw [List.length_set]; exact k.many
 ·show (w.exps.map _).length≤1000
  rw [List.length_map]; exact k.exps
inductive MeetW (w:Wd) (zone:Int) (wire:Wire) (now:Int):WT→Int→Bool→Int→Wd→Prop
 | new {w1 w2:Wd}{x:WT}:FoundW w zone wire.key now .none w1→NewW w1 zone wire now x w2→MeetW w zone wire now (x.add (now,0)) 0 true (stateW x.d 0) (w2.setT w1.talks.length (x.add (now,0)))
 | hit {i:Nat}{x:WT}{way:Int}:w.talks[i]?=some x→hitW x.d zone wire.key→¬untilW x.d≤now→way=(if wire.key=x.d.a then 0 else 1)→MeetW w zone wire now (x.add (now,way)) way false (stateW x.d way) (w.setT i (x.add (now,way)))
omit hC in
theorem NewW.at_ {w w':Wd}{zone now:Int}{wire:Wire}{x:WT}(h:NewW w zone wire now x w'):w'.talks[w.talks.length]?=some x∧x.d.pk=[]:=by
 cases h with
 | plain _=>exact ⟨by show (w.talks++[_])[_]?=_; rw [List.getElem?_append_right (Nat.le_refl _),Nat.sub_self]; rfl,rfl⟩
 | rel _ _ _=>exact ⟨by show (w.talks++[_])[_]?=_; rw [List.getElem?_append_right (Nat.le_refl _),Nat.sub_self]; rfl,rfl⟩
theorem t_meet {w:Wd}{wire:Wire}{zone now:Int}(o:Own H (w.cells++F)) (k:TalksOk w) (hl:∀x∈w.talks,x.d.pk.length≤99) :
  CallOk C 4 (.ref 502) [.ref w.wa,.int zone,wire.pv,.int now] H (fun v H'=>∃x way nw st w',MeetW w zone wire now x way nw st w'∧v=.tup [.ref x.ad,.int way,.bool nw,seenPV x.d st way zone]∧Own H' (w'.cells++F)):=by
 refine fn4 hC (stAt 76) "world" "zone" "wire" "now" rfl rfl rfl (by kernel_rfl) (by walk_at "f") 2 ?_
 walk_at "g"
 refine up (t_key hC wire) rfl fun v H1 h=>?_
 obtain ⟨rfl,rfl⟩:=h
 walk_at "g"
 refine up (t_find hC o k) rfl fun v H2 h=>?_
 obtain ⟨w1,hf,o1⟩:=h
 have newP:∀H2,FoundW w zone wire.key now .none w1→TalksOk w1→Own H2 (w1.cells++F)→CallOk C 3 (.ref 497) [.ref w1.wa,.int zone,wire.pv,.int now] H2 (fun v H'=>∃x w',NewW w1 zone wire now x w'∧v=.ref x.ad∧Own H' (w'.cells++F)):=fun H2 _ k1 o1=>(t_new hC o1 k1).le (by decide)
 have rest:FoundW w zone wire.key now .none w1→∀x w2 H3,NewW w1 zone wire now x w2→Own H3 (w2.cells++F)→ExOk C 3 (scOf (stAt 76)) ((bodyOf (stAt 76)).drop 2) [("talk",.ref x.ad),("way",.int 0),("hit",.none),("zone",.int zone),("now",.int now)] H3
   fun fl _ H'=>∃x way nw st w',MeetW w zone wire now x way nw st w'∧flv fl=.tup [.ref x.ad,.int way,.bool nw,seenPV x.d st way zone]∧Own H' (w'.cells++F):=fun hf x w2 H3 hn o3=>by
  have ⟨ha,hp⟩:=hn.at_
  exact (t_meet2 hC o3 ha (by rw [hp]; exact Nat.zero_le _)).mono fun fl _ H' h=>⟨_,_,_,_,_,.new hf hn,h⟩
 cases hf with
 | none hno =>
  have hf:=FoundW.none (now:=now) hno
  walk_at "g"
  refine (newP _ hf k o1).mono fun v H3 h=>?_
  obtain ⟨x,w2,hn,rfl,o3⟩:=h
  walk_at "g"
  exact (rest hf x w2 H3 hn o3).looks (subF_is rfl)
 | old hx hh hu =>
  have hf:=FoundW.old hx hh hu
  walk_at "g"
  refine (newP _ hf (k.out hx) o1).mono fun v H3 h=>?_
  obtain ⟨x,w2,hn,rfl,o3⟩:=h
  walk_at "g"
  exact (rest hf x w2 H3 hn o3).looks (subF_is rfl)
 | @hit i x way hx hh hu hw =>
  walk_at "g"
  have z:=t_meet2 hC (way:=way) (zone:=zone) (now:=now) (hv:=.tup [.ref x.ad,.int way]) o1 hx (hl _ (List.mem_of_getElem? hx))
  exact (z.mono fun fl _ H' h=>⟨_,_,_,_,_,.hit hx hh hu hw,h⟩).looks (subF_is rfl)
end
section
structure Spec where
 p:Int
 port:Int
 span:Int
 most:Int
 nf:Int
noncomputable def Spec.pv (s:Spec):PV:=.tup [.int s.p,.int s.port,.int s.span,.int s.most,.int s.nf]
noncomputable def ownE (n:Int) (e:Exp):Bool:=decide (e.master=n)&&!e.gone
noncomputable def sideW (a b:T6) (way:Int):T6:=if way=0 then b else a
noncomputable def sameE (n:Int) (side:T6) (s:Spec) (e:Exp):Bool:=ownE n e&&(decide (e.source=side.a)&&decide ([e.nf,e.p,e.t,e.port]=[if s.nf=0 then 2 else s.nf,s.p,side.c,s.port]))
noncomputable def newE (n zone:Int) (side:T6) (s:Spec) (now:Int):Exp:={master:=n,zone,source:=side.a,nf:=if s.nf=0 then 2 else s.nf,p:=s.p,t:=side.c,port:=s.port,until_:=now+s.span,gone:=false}
noncomputable abbrev brkPV:PV:=.tup [.str "break",.str ""]
noncomputable def WE.till (e:WE) (u:Int):WE:={e with d:={e.d with until_:=u}}
noncomputable def manyE (l:List Exp) (n now:Int):Int:=((l.filter (ownE n)).filter fun e=>decide (now<e.until_)).length
inductive ExpW (w:Wd) (x:WTalk) (way:Int) (s:Spec) (now:Int):PV→Wd→Prop
 | brk:(x.bits/8%2=1∨s.most≤manyE (w.exps.map (·.d)) x.num now)→ExpW w x way s now brkPV w
 | renew {l1 l2:List WE}{e:WE}:¬x.bits/8%2=1→¬s.most≤manyE (w.exps.map (·.d)) x.num now→w.exps=l1++e::l2→(∀y∈l1,sameE x.num (sideW x.a x.b way) s y.d=false)→sameE x.num (sideW x.a x.b way) s e.d=true →
   ExpW w x way s now .none {w with exps:=l1++e.till (now+s.span)::l2}
 | add {ad:Addr}:¬x.bits/8%2=1→¬s.most≤manyE (w.exps.map (·.d)) x.num now→(∀y∈w.exps,sameE x.num (sideW x.a x.b way) s y.d=false)→ExpW w x way s now .none (w.addE ⟨ad,newE x.num x.zone (sideW x.a x.b way) s now⟩)
variable {C:Cfg}(hC:CK C) {H:GHeap}{F:List Cell}
include hC
theorem t_expect0 {way now:Int}{s:Spec}{a:Addr}:CallOk C 1 (.ref 507) [.ref a,.none,.int way,s.pv,.int now] H (fun v H'=>v=brkPV∧H'=H):=by
 refine fn5 hC (stAt 77) "world" "talk" "way" "spec" "now" rfl rfl rfl (by kernel_rfl) (by walk_at "f") 100 ?_
 walk_at "g"
 exact ⟨rfl,rfl⟩
theorem t_expect5 {w:Wd}{x:WT}{way now:Int}{s:Spec}{a:Addr}{side:T6}(o:Own H (w.cells++F)) (hx:x∈w.talks) (k:TalksOk w) (hs:side=sideW x.d.a x.d.b way) (ha:H a=some (.list ((w.exps.filter fun e=>ownE x.d.num e.d).map fun e=>.ref e.ad)))
  (hb':¬x.d.bits/8%2=1) (hm:¬s.most≤manyE (w.exps.map (·.d)) x.d.num now) :
  ExOk C 0 (scOf (stAt 77)) ((bodyOf (stAt 77)).drop 5) [("side",side.pv),("own",.ref a),("nfproto",.int s.nf),("timeout",.int s.span),("port",.int s.port),("protocol",.int s.p),("world",.ref w.wa),("talk",.ref x.ad),("now",.int now)] H
   fun fl _ H'=>∃w',ExpW w x.d way s now (flv fl) w'∧Own H' (w'.cells++F):=by
 have key:∀nf',nf'=(if s.nf=0 then 2 else s.nf)→ExOk C 0 (scOf (stAt 77)) ((bodyOf (stAt 77)).drop 6) [("rest",.tup [.int nf',.int s.p,.int side.c,.int s.port]),("side",side.pv),("own",.ref a),("timeout",.int s.span),("world",.ref w.wa),("talk",.ref x.ad),("now",.int now)] H
   fun fl _ H'=>∃w',ExpW w x.d way s now (flv fl) w'∧Own H' (w'.cells++F):=fun nf' hnf=>by
  refine wp_ok (C:=C) (n:=0) (sc:=scOf (stAt 77)) hC.wok 300 (.ex _ _ _ _) ?_
  walk_at "g"
  refine compL hC.wok (w.exps.filter fun e=>ownE x.d.num e.d) (fun e=>if (decide (e.d.source=side.a)&&decide ([e.d.nf,e.d.p,e.d.t,e.d.port]=[nf',s.p,side.c,s.port]))=true then some (.ref e.ad) else none) ha (Nat.le_trans (List.length_filter_le _ _) k.exps) (fun e H' hm hg=>?_) (fun H1 a1 hg ha1=>?_)
  ·have hd:=hg _ _ (w_ed o (List.mem_filter.mp hm).1)
   walk_at "g"
   refine subS hd rfl ?_
   walk_at "g"
   refine And.intro (fun h1=>?_) (fun h1=>?_)
   ·walk_at "g"
    refine subS hd rfl ?_
    walk_at "g"
    refine eqInts (ks:=[e.d.nf,e.d.p,e.d.t,e.d.port]) (ls:=[nf',s.p,side.c,s.port]) rfl rfl (boolP (fun h2=>?_) (fun h2=>?_))
    ·walk_at "g"
     refine ⟨rfl,?_⟩
     walk_at "g"
     exact ⟨if_pos (by rw [decide_eq_true h1,decide_eq_true h2]; rfl),hg⟩
    ·walk_at "g"
     exact ⟨rfl,if_neg (by rw [decide_eq_true h1,decide_eq_false h2]; exact Bool.false_ne_true),hg⟩
   ·walk_at "g"
    exact ⟨rfl,if_neg (by rw [decide_eq_false h1]; exact Bool.false_ne_true),hg⟩
  ·rw [fm_filter,List.filter_filter]
   have e0:(w.exps.filter fun e=>(decide (e.d.source=side.a)&&decide ([e.d.nf,e.d.p,e.d.t,e.d.port]=[nf',s.p,side.c,s.port]))&&ownE x.d.num e.d)=w.exps.filter fun e=>sameE x.d.num (sideW x.d.a x.d.b way) s e.d :=
    List.filter_congr fun e _=>by unfold sameE; rw [hnf,hs,Bool.and_comm]
   rw [e0]
   have o3:=(o.gr hg).gr (Gr.new (g:=.list ((w.exps.filter fun e=>sameE x.d.num (sideW x.d.a x.d.b way) s e.d).map fun e=>PV.ref e.ad)) ha1)
   have hf:=GHeap.set_same H1 a1 (.list ((w.exps.filter fun e=>sameE x.d.num (sideW x.d.a x.d.b way) s e.d).map fun e=>PV.ref e.ad))
   revert o3 hf
   generalize GHeap.set H1 a1 _=H2
   intro o3 hf
   walk_at "g"
   intro b hb
   have gb:=Gr.new (g:=.list []) hb
   walk_at "g"
   refine op_ne_nil (.inl (gb _ _ hf)) (.inl (GHeap.set_same _ _ _)) ?_
   have o4:=o3.gr gb
   have hf4:=gb _ _ hf
   revert o4 hf4
   generalize GHeap.set H2 b _=H3
   intro o4 hf4
   refine boolT (fun h1=>?_) (fun h1=>?_)
   ·cases hfl:w.exps.filter fun e=>sameE x.d.num (sideW x.d.a x.d.b way) s e.d with
    | nil=>rw [hfl] at h1; cases h1
    | cons e fl =>
     rw [hfl] at hf4
     refine byP fun PG kG=>?_
     obtain ⟨l1,l2,he,hno,hyes⟩:=filter_head hfl
     refine kG ?_
     have hj:w.exps[l1.length]?=some e:=by rw [he,List.getElem?_append_right (Nat.le_refl _),Nat.sub_self]; rfl
     have hset:w.setE l1.length (e.till (now+s.span))={w with exps:=l1++e.till (now+s.span)::l2}:=by
      unfold Wd.setE
      rw [he,List.set_append_right _ _ (Nat.le_refl _),Nat.sub_self]; rfl
     walk_at "g"
     refine subL (.inl hf4) (by decide) (by decide) rfl ?_
     walk_at "g"
     refine setS (w_ed o4 (List.mem_of_getElem? hj)) (kvs':=(e.till (now+s.span)).kv) rfl rfl ?_
     have o5:=w_setE (e':=e.till (now+s.span)) o4 hj rfl
     rw [hset] at o5
     walk_at "g"
     exact ⟨_,.renew hb' hm he hno hyes,o5⟩
   ·walk_at "g"
    refine subS (w_hd o4) rfl ?_
    walk_at "g"
    refine methL (w_el o4) rfl ?_
    walk_at "g"
    refine subS (w_td o4 hx) rfl ?_
    walk_at "g"
    refine subS (w_td o4 hx) rfl ?_
    walk_at "g"
    intro ad had
    have o5:=o4.newF (g:=.sdict (WE.kv ⟨ad,newE x.d.num x.d.zone (sideW x.d.a x.d.b way) s now⟩)) had
    have h5:=w_el o5
    rw [hs,hnf]
    refine c_append h5 (by rw [List.length_map]; exact k.exps) ?_
    walk_at "g"
    have o6:=w_addE (x:=⟨ad,newE x.d.num x.d.zone (sideW x.d.a x.d.b way) s now⟩) o5
    exact ⟨_,.add hb' hm (filter_none (by simpa using h1)),o6⟩
 refine wp_ok (C:=C) (n:=0) (sc:=scOf (stAt 77)) hC.wok 300 (.exn 1 _ _ _ _) ?_
 walk_at "g"
 refine And.intro (fun h1=>?_) (fun h1=>?_)
 ·walk_at "g"
  exact (key 2 (if_pos h1).symm).looks (subF_is rfl)
 ·walk_at "g"
  exact (key s.nf (if_neg h1).symm).looks (subF_is rfl)
theorem t_expect {w:Wd}{x:WT}{way now:Int}{s:Spec}(o:Own H (w.cells++F)) (hx:x∈w.talks) (k:TalksOk w) (hw:way=0∨way=1) :
  CallOk C 1 (.ref 507) [.ref w.wa,.ref x.ad,.int way,s.pv,.int now] H (fun v H'=>∃w',ExpW w x.d way s now v w'∧Own H' (w'.cells++F)):=by
 refine fn5 hC (stAt 77) "world" "talk" "way" "spec" "now" rfl rfl rfl (by kernel_rfl) (by walk_at "f") 5 ?_
 walk_at "g"
 refine subS (w_td o hx) rfl ?_
 walk_at "g"
 refine And.intro (fun h1=>?_) (fun h1=>?_)
 ·walk_at "g"
  exact ⟨_,.brk (.inl h1),o⟩
 walk_at "g"
 refine subS (w_hd o) rfl ?_
 walk_at "g"
 refine compL hC.wok w.exps (fun e=>if ownE x.d.num e.d=true then some (.ref e.ad) else none) (w_el o) k.exps (fun e H' hm hg=>?_) (fun H1 a ha hg=>?_)
 ·have hd:=hg _ _ (w_ed o hm)
  have hx':=hg _ _ (w_td o hx)
  walk_at "g"
  refine subS hd rfl ?_
  walk_at "g"
  refine subS hx' rfl ?_
  walk_at "g"
  refine And.intro (fun h1=>?_) (fun h1=>?_)
  ·walk_at "g"
   refine subS hd rfl ?_
   walk_at "g"
   refine And.intro (fun h2=>?_) (fun h2=>?_)
   ·walk_at "g"
    exact ⟨rfl,if_neg (by unfold ownE; rw [h2]; simp),hg⟩
   ·walk_at "g"
    refine ⟨rfl,?_⟩
    walk_at "g"
    exact ⟨if_pos (by unfold ownE; rw [decide_eq_true h1,h2]; rfl),hg⟩
  ·walk_at "g"
   exact ⟨rfl,if_neg (by unfold ownE; rw [decide_eq_false h1]; exact Bool.false_ne_true),hg⟩
 ·rw [fm_filter]
  have g1:=ha.trans (Gr.new (g:=.list ((w.exps.filter fun e=>ownE x.d.num e.d).map fun e=>PV.ref e.ad)) hg)
  have hf:=GHeap.set_same H1 a (.list ((w.exps.filter fun e=>ownE x.d.num e.d).map fun e=>PV.ref e.ad))
  have o1:=o.gr g1
  revert o1 hf
  generalize GHeap.set H1 a _=H2
  intro hf o1
  walk_at "g"
  refine compL hC.wok (w.exps.filter fun e=>ownE x.d.num e.d) (fun e=>if (decide (now<e.d.until_))=true then some (.ref e.ad) else none) hf (Nat.le_trans (List.length_filter_le _ _) k.exps) (fun e H' hm hg=>?_) (fun H3 a1 hg ha1=>?_)
  ·walk_at "g"
   refine subS (hg _ _ (w_ed o1 (List.mem_filter.mp hm).1)) rfl ?_
   walk_at "g"
   refine And.intro (fun h1=>?_) (fun h1=>?_)
   ·walk_at "g"
    refine ⟨rfl,?_⟩
    walk_at "g"
    exact ⟨if_pos (decide_eq_true h1),hg⟩
   ·walk_at "g"
    exact ⟨rfl,if_neg (by rw [decide_eq_false h1]; exact Bool.false_ne_true),hg⟩
  ·rw [fm_filter]
   have e0:((w.exps.filter fun e=>ownE x.d.num e.d).filter fun e=>decide (now<e.d.until_)).length=manyE (w.exps.map (·.d)) x.d.num now:=by
    unfold manyE
    rw [List.filter_map,List.filter_map,List.length_map]; rfl
   have g2:=hg.trans (Gr.new (g:=.list (((w.exps.filter fun e=>ownE x.d.num e.d).filter fun e=>decide (now<e.d.until_)).map fun e=>PV.ref e.ad)) ha1)
   have hf2:=GHeap.set_same H3 a1 (.list (((w.exps.filter fun e=>ownE x.d.num e.d).filter fun e=>decide (now<e.d.until_)).map fun e=>PV.ref e.ad))
   have o2:=o1.gr g2
   have hf':=g2 _ _ hf
   revert o2 hf' hf2
   generalize GHeap.set H3 a1 _=H4
   intro hf2 o2 hf'
   walk_at "g"
   refine c_len (.inl hf2) (by rw [List.length_map]; exact Nat.le_trans (List.length_filter_le _ _) (Nat.le_trans (List.length_filter_le _ _) (Nat.le_trans k.exps (by decide)))) ?_
   rw [List.length_map,e0]
   walk_at "g"
   refine And.intro (fun h2=>?_) (fun h2=>?_)
   ·walk_at "g"
    exact ⟨_,.brk (.inr h2),o2⟩
   walk_at "g"
   refine subS (w_td o2 hx) rfl ?_
   rcases hw with rfl | rfl
   ·walk_at "g"
    exact (t_expect5 hC o2 hx k rfl hf' h1 h2).looks (subF_is rfl)
   ·walk_at "g"
    exact (t_expect5 hC o2 hx k rfl hf' h1 h2).looks (subF_is rfl)
end
section
noncomputable def anyE (x:WTalk) (s:Spec) (now:Int):Exp:={master:=x.num,zone:=x.zone,source:=-1,nf:=s.nf,p:=s.p,t:=x.a.a,port:=s.port,until_:=now+s.span,gone:=false}
noncomputable def usualL:List Int:=[4,6,0,48,6,3841,0,0,0,99,0,4,2,0,4,50,0,8,6,12,3]
noncomputable def drawZ (ks:List Int) (i:Nat):Int:=match ks[i]? with
 | some v=>v%2^40
 | none=>usualL.getD (i%21) 0
noncomputable def digitsZ:Int→List Int→List Int
 | _,[]=>[]
 | n,b::r=>n%b::digitsZ (n/b) r
variable {C:Cfg}(hC:CK C) {H:GHeap}{F:List Cell}
theorem drawZ_nn (ks:List Int) (i:Nat):0≤drawZ ks i:=by
 unfold drawZ
 split
 ·exact Int.emod_nonneg _ (by decide)
 ·have:∀j,0≤usualL.getD j 0:=fun j=>by
   rw [List.getD_eq_getElem?_getD]
   cases h:usualL[j]? with
   | none=>exact Int.le_refl _
   | some v =>
    have:=List.mem_of_getElem? h
    revert v
    intro v _ hm
    have:∀v∈usualL,0≤v:=by decide
    exact this v hm
  exact this _
include hC
theorem t_any {w:Wd}{x:WT}{now:Int}{s:Spec}(o:Own H (w.cells++F)) (hx:x∈w.talks) (k:TalksOk w) :
  CallOk C 1 (.ref 514) [.ref w.wa,.ref x.ad,s.pv,.int now] H (fun v H'=>v=.none∧∃ad,Own H' ((w.addE ⟨ad,anyE x.d s now⟩).cells++F)):=by
 refine fn4 hC (stAt 78) "world" "talk" "spec" "now" rfl rfl rfl (by kernel_rfl) (by walk_at "f") 100 ?_
 have hd:=w_td o hx
 walk_at "g"
 refine subS hd rfl ?_
 walk_at "g"
 refine subS hd rfl ?_
 walk_at "g"
 refine subS hd rfl ?_
 walk_at "g"
 intro ad had
 have o5:=o.newF (g:=.sdict (WE.kv ⟨ad,anyE x.d s now⟩)) had
 have h5:=w_el o5
 have h6:=w_hd o5
 walk_at "g"
 refine subS h6 rfl ?_
 walk_at "g"
 refine methL h5 rfl ?_
 walk_at "g"
 refine c_append h5 (by rw [List.length_map]; exact k.exps) ?_
 walk_at "g"
 have o6:=w_addE (x:=⟨ad,anyE x.d s now⟩) o5
 exact ⟨rfl,_,o6⟩
theorem t_draw {ks:List Int}{i:Nat}{a:Addr}(h:LsAt C H a (ks.map .int)) (hl:ks.length≤1000) (hi:i≤1000) :
  CallOk C 1 (.ref 419) [.ref a,.int i] H (fun v H'=>v=.int (drawZ ks i)∧Gr H H'):=by
 refine fn2 hC (stAt 63) "script" "k" rfl rfl rfl (by kernel_rfl) (by walk_at "f") 100 ?_
 walk_at "g"
 intro b hb
 have g1:=Gr.new (g:=.list (usualL.map .int)) hb
 have h1:LsAt C (H.set b (.list (usualL.map .int))) a (ks.map .int):=by
  rcases h with h | h
  ·exact .inl (g1 _ _ h)
  ·exact .inr h
 walk_at "g"
 refine c_len h1 (by rw [List.length_map]; exact Nat.le_trans hl (by decide)) ?_
 rw [List.length_map]
 walk_at "g"
 refine And.intro (fun h2=>?_) (fun h2=>?_)
 ·have hlt:i<ks.length:=Int.ofNat_lt.mp h2
  walk_at "g"
  refine subL h1 (Int.natCast_nonneg _) (Int.lt_trans h2 (Int.ofNat_lt.mpr (Nat.lt_of_le_of_lt hl (by decide)))) (x:=.int ks[i]) (by rw [Int.toNat_natCast,List.getElem?_map,List.getElem?_eq_getElem hlt]; rfl) ?_
  walk_at "g"
  refine ⟨?_,g1⟩
  rw [show drawZ ks i=ks[i]%2^40 by unfold drawZ; rw [List.getElem?_eq_getElem hlt]]; rfl
 ·have hge:¬i<ks.length:=fun z=>h2 (Int.ofNat_lt.mpr z)
  walk_at "g"
  have hm:i%21<usualL.length:=Nat.mod_lt _ (by decide)
  refine subL (.inl (GHeap.set_same _ _ _)) (Int.emod_nonneg _ (by decide)) (Int.lt_trans (Int.emod_lt_of_pos _ (by decide)) (by decide)) (x:=.int (drawZ ks i)) ?_ ?_
  ·rw [show ((i:Int)%21).toNat=i%21 from rfl]
   show (usualL.map PV.int)[i%21]?=_
   rw [List.getElem?_map,List.getElem?_eq_getElem hm]
   unfold drawZ
   rw [List.getElem?_eq_none (Nat.not_lt.mp hge),List.getD_eq_getElem?_getD,List.getElem?_eq_getElem hm]; rfl
  walk_at "g"
  exact ⟨rfl,g1⟩
theorem t_digits {ks:List Int}{n:Int}{a:Addr}(h:H a=some (.list (ks.map .int))) (hl:ks.length≤100) (hp:∀b∈ks,0<b∧b.natAbs<1073741824) :
  CallOk C 1 (.ref 426) [.int n,.ref a] H (fun v H'=>∃b,v=.ref b∧H' b=some (.list ((digitsZ n ks).map .int))∧Gr H H'∧H b=none):=by
 refine fn2 hC (stAt 64) "n" "bases" rfl rfl rfl (by kernel_rfl) (by walk_at "f") 100 ?_
 walk_at "g"
 intro b hb
 have g1:=Gr.new (g:=.list []) hb
 walk_at "g"
 refine srcL (g1 _ _ h) (by rw [List.length_map]; exact Nat.le_trans hl (by decide)) ?_
 refine for_st hC.wok (σ:=Int×List Int) (fun s=>[("out",.ref b),("n",.int s.1)]) (fun j s H'=>Gr H H'∧H' b=some (.list (s.2.map .int))∧s.2.length≤j∧s.2++digitsZ s.1 (ks.drop j)=digitsZ n ks) (n,[]) rfl ⟨g1,GHeap.set_same _ _ _,Nat.le_refl _,rfl⟩ (fun j s H' h'=>.list (.inl (h'.1 _ _ h))) (fun j y s H' hy h'=>?_) (fun s H' h'=>?_)
 ·obtain ⟨g,hb',hj,he⟩:=h'
  have hjl:=(List.getElem?_eq_some_iff.mp hy).1
  rw [List.length_map] at hjl
  rw [List.getElem?_map] at hy
  obtain ⟨d,hd,rfl⟩:=Option.map_eq_some_iff.mp hy
  obtain ⟨p1,p2⟩:=hp d (List.mem_of_getElem? hd)
  walk_at "g"
  refine methL hb' rfl ?_
  walk_at "g"
  conv=>whnf
  rw [decide_eq_true p1]
  walk_at "g"
  refine c_append hb' (by rw [List.length_map]; lia) ?_
  walk_at "g"
  conv=>whnf
  rw [decide_eq_true p1,decide_eq_true p2]
  walk_at "g"
  refine ⟨(s.1/d,s.2++[s.1%d]),rfl,g.put hb _,by rw [GHeap.set_same,List.map_append]; rfl,by rw [List.length_append]; exact Nat.succ_le_succ hj,?_⟩
  rw [←he,List.append_assoc,List.drop_eq_getElem_cons hjl]
  have:ks[j]=d:=Option.some.inj ((List.getElem?_eq_getElem hjl).symm.trans hd)
  rw [this]; rfl
 ·obtain ⟨g,hb',hj,he⟩:=h'
  walk_at "g"
  rw [List.length_map,List.drop_length] at he
  refine ⟨b,rfl,?_,g,hb⟩
  rw [hb',←he,show digitsZ s.1 []=[] from rfl,List.append_nil]
end
section
noncomputable def addrL (a:Int):List Int:=[a/2^24,a/65536%256,a/256%256,a%256]
noncomputable def octL (w:Wire) (piece:Int):List Int:=[69,0,0,28,0,1,0,piece,64,w.p,0,0]++addrL w.s++addrL w.t++[0,w.sp,0,w.dp,0,8,0,0]
structure WireOk (w:Wire):Prop where
 p:w.p=17∨w.p=132
 s0:0≤w.s
 s1:w.s<2^32
 t0:0≤w.t
 t1:w.t<2^32
 sp0:0≤w.sp
 sp1:w.sp<256
 dp0:0≤w.dp
 dp1:w.dp<256
 ne:w.s≠w.t
theorem addrL_ok {a:Int}(h0:0≤a) (h1:a<2^32):∀k∈addrL a,0≤k∧k<256:=by
 intro k hk
 simp only [addrL,List.mem_cons,List.not_mem_nil,or_false] at hk
 rcases hk with rfl | rfl | rfl | rfl
 ·exact ⟨Int.ediv_nonneg h0 (by decide),Int.ediv_lt_of_lt_mul (by decide) h1⟩
 all_goals exact ⟨Int.emod_nonneg _ (by decide),Int.emod_lt_of_pos _ (by decide)⟩
theorem octL_ok {w:Wire}{piece:Int}(h:WireOk w) (hp:piece=0∨piece=3):∀k∈octL w piece,0≤k∧k<256:=by
 intro k hk
 unfold octL at hk
 rcases List.mem_append.mp hk with hk | hk
 ·rcases List.mem_append.mp hk with hk | hk
  ·rcases List.mem_append.mp hk with hk | hk
   ·simp only [List.mem_cons,List.not_mem_nil,or_false] at hk
    have hq:0≤w.p∧w.p<256:=by rcases h.p with e | e<;>rw [e]<;>decide
    rcases hk with rfl | rfl | rfl | rfl | rfl | rfl | rfl | rfl | rfl | rfl | rfl | rfl<;>first | exact hq | exact ⟨by decide,by decide⟩ | (rcases hp with rfl | rfl<;>decide)
   ·exact addrL_ok h.s0 h.s1 k hk
  ·exact addrL_ok h.t0 h.t1 k hk
 ·simp only [List.mem_cons,List.not_mem_nil,or_false] at hk
  rcases hk with rfl | rfl | rfl | rfl | rfl | rfl | rfl | rfl<;>first | exact ⟨by decide,by decide⟩ | exact ⟨h.sp0,h.sp1⟩ | exact ⟨h.dp0,h.dp1⟩ | (rcases hp with rfl | rfl<;>decide)
variable {C:Cfg}(hC:CK C) {H:GHeap}{F:List Cell}
include hC
theorem t_octets {w:Wire}{piece:Int}(h:WireOk w) (hp:piece=0∨piece=3):CallOk C 1 (.ref 454) [w.pv,.int piece] H (fun v H'=>v=.bytes (byteArr (octL w piece))∧Gr H H'):=by
 refine fn2 hC (stAt 68) "wire" "piece" rfl rfl rfl (by kernel_rfl) (by walk_at "f") 100 ?_
 walk_at "g"
 intro b hb
 have g1:=Gr.new (g:=.list (([69,0,0,28,0,1,0,piece,64,w.p,0,0]:List Int).map .int)) hb
 have hs:=GHeap.set_same H b (.list (([69,0,0,28,0,1,0,piece,64,w.p,0,0]:List Int).map .int))
 walk_at "g"
 refine ⟨_,_,.tup (([w.s,w.t]:List Int).map PV.int),Nat.lt_of_lt_of_le (show 2<3 by decide) (by decide),?_⟩
 refine for_st hC.wok (σ:=Unit) (fun _=>[("out",.ref b),("sport",.int w.sp),("dport",.int w.dp)]) (fun j _ H'=>Gr H H'∧H' b=some (.list (([69,0,0,28,0,1,0,piece,64,w.p,0,0]++([w.s,w.t].take j).flatMap addrL:List Int).map .int))) () rfl ⟨g1,hs⟩ (fun _ _ _ _=>.tup _) (fun j y _ H1 hy h1=>?_) (fun _ H1 h1=>?_)
 ·obtain ⟨g,hl⟩:=h1
  rw [List.getElem?_map] at hy
  obtain ⟨a,ha,rfl⟩:=Option.map_eq_some_iff.mp hy
  have hj:=(List.getElem?_eq_some_iff.mp ha).1
  have hlen:((([69,0,0,28,0,1,0,piece,64,w.p,0,0]++([w.s,w.t].take j).flatMap addrL:List Int).map PV.int)).length≤1000:=by
   rw [List.length_map,List.length_append]
   match j,hj with
   | 0,_=>exact Nat.le_of_ble_eq_true rfl
   | 1,_=>exact Nat.le_of_ble_eq_true rfl
  walk_at "g"
  refine methL hl rfl ?_
  walk_at "g"
  intro c hc
  have g2:=Gr.new (g:=.list ((addrL a).map .int)) hc
  refine c_extend (g2 _ _ hl) (GHeap.set_same _ _ _) hlen (Nat.le_of_ble_eq_true rfl) ?_
  walk_at "g"
  refine ⟨(),rfl,(g.trans g2).put hb _,?_⟩
  rw [GHeap.set_same,List.take_add_one,ha,List.flatMap_append,←List.append_assoc,List.map_append]
  simp only [Option.toList_some,List.flatMap_cons,List.flatMap_nil,List.append_nil]
  rw [List.map_append]
  rfl
 ·obtain ⟨g,hl⟩:=h1
  have hl:H1 b=some (.list (([69,0,0,28,0,1,0,piece,64,w.p,0,0]++addrL w.s++addrL w.t:List Int).map .int)):=hl
  walk_at "g"
  intro c hc
  have g2:=Gr.new (g:=.list (([0,w.sp,0,w.dp,0,8,0,0]:List Int).map .int)) hc
  refine op_add_list (g2 _ _ hl) (GHeap.set_same _ _ _) (Nat.le_of_ble_eq_true rfl) fun d hd=>?_
  have g3:=g2.trans (Gr.new (g:=.list ((octL w piece).map .int)) hd)
  walk_at "g"
  refine c_bytes (ks:=octL w piece) (.inl (GHeap.set_same _ _ _)) (octL_ok h hp) (Nat.le_of_ble_eq_true rfl) ?_
  walk_at "g"
  exact ⟨rfl,g.trans g3⟩
end
section
structure ExpOk (e:Exp):Prop where
 p:e.p=17∨e.p=132
 s:e.source=-1∨(0≤e.source∧e.source<2^32)
 t0:0≤e.t
 t1:e.t<2^32
 port0:0≤e.port
 port1:e.port<256
 zone:e.zone=0∨e.zone=1
structure WInv (w:Wd):Prop where
 es:∀x∈w.exps,ExpOk x.d
 ws:∀x∈w.wires,(x.1=0∨x.1=1)∧WireOk x.2
 el:w.exps.length≤1000
 wl:w.wires.length≤1000
noncomputable def WireRes (v:PV):Prop:=∃z w,v=.tup [.int z,Wire.pv w]∧(z=0∨z=1)∧WireOk w
theorem WireOk.back {w:Wire}(h:WireOk w):WireOk w.back:=⟨h.p,h.t0,h.t1,h.s0,h.s1,h.dp0,h.dp1,h.sp0,h.sp1,fun z=>h.ne z.symm⟩
theorem mod2 (a:Int):a%2=0∨a%2=1:=Int.emod_two_eq a
variable {C:Cfg}(hC:CK C) {H:GHeap}{F:List Cell}
include hC
theorem t_host (k:Int):CallOk C 1 (.ref 433) [.int k] H (fun v H'=>v=.int (168496141+65793*k)∧H'=H):=by
 refine fn1 hC (stAt 65) "k" rfl rfl rfl (by kernel_rfl) (fun _=>by kernel_rfl) 100 ?_
 walk_at "g"
 exact ⟨rfl,rfl⟩
theorem t_wire5 {w:Wd}{way pick turn:Int}{fr:Wire}(o:Own H (w.cells++F)) (I:WInv w) (hp:0≤pick) (ht:turn=0∨turn=1) (hf:WireOk fr) :
  ExOk C 1 (scOf (stAt 79)) ((bodyOf (stAt 79)).drop 5) [("turn",.int turn),("fresh",fr.pv),("world",.ref w.wa),("way",.int way),("pick",.int pick)] H fun fl _ H'=>WireRes (flv fl)∧Gr H H':=by
 refine wp_ok (C:=C) (n:=1) (sc:=scOf (stAt 79)) hC.wok 300 (.ex _ _ _ _) ?_
 walk_at "g"
 refine inIntTup (ks:=[2,3]) (boolT (fun h1=>?_) (fun h1=>?_))
 ·walk_at "g"
  refine subS (w_hd o) rfl ?_
  walk_at "g"
  intro b hb
  have gb:=Gr.new (g:=.list []) hb
  refine op_ne_nil (.inl (gb _ _ (w_wl o))) (.inl (GHeap.set_same _ _ _)) ?_
  have o1:=o.gr gb
  revert o1 gb
  generalize GHeap.set H b _=H1
  intro gb o1
  refine boolT (fun h2=>?_) (fun h2=>?_)
  ·have hpos:0<w.wires.length:=by
    cases hw:w.wires with
    | nil=>rw [hw] at h2; cases h2
    | cons x r=>exact Nat.succ_pos _
   have hq:(0:Int)<w.wires.length:=Int.ofNat_lt.mpr hpos
   walk_at "g"
   refine subS (w_hd o1) rfl ?_
   walk_at "g"
   refine subS (w_hd o1) rfl ?_
   walk_at "g"
   refine c_len (.inl (w_wl o1)) (by rw [List.length_map]; exact Nat.le_trans I.wl (by decide)) ?_
   rw [List.length_map]
   walk_at "g"
   conv=>whnf
   rw [decide_eq_true hq]
   walk_at "g"
   have hlt:(pick%(w.wires.length:Int)).toNat<w.wires.length:=(Int.toNat_lt (Int.emod_nonneg pick (Int.ne_of_gt hq))).mpr (Int.emod_lt_of_pos pick hq)
   have hI:=I.ws _ (List.getElem_mem hlt)
   have hwl:=I.wl
   refine subL (.inl (w_wl o1)) (Int.emod_nonneg _ (Int.ne_of_gt hq)) (Int.lt_trans (Int.emod_lt_of_pos pick hq) (Int.ofNat_lt.mpr (Nat.lt_of_le_of_lt I.wl (by decide)))) (x:=.tup [.int (w.wires[(pick%(w.wires.length:Int)).toNat]).1,(w.wires[(pick%(w.wires.length:Int)).toNat]).2.pv]) (by rw [List.getElem?_map,List.getElem?_eq_getElem hlt]; rfl) ?_
   revert hI
   generalize w.wires[(pick%(w.wires.length:Int)).toNat]=y
   intro hI
   walk_at "g"
   refine And.intro (fun h3=>?_) (fun h3=>?_)
   ·walk_at "g"
    exact ⟨⟨_,_,rfl,mod2 _,hI.2⟩,gb⟩
   ·walk_at "g"
    refine up (t_bk hC y.2) rfl fun v H2 h=>?_
    obtain ⟨rfl,rfl⟩:=h
    walk_at "g"
    exact ⟨⟨_,_,rfl,mod2 _,hI.2.back⟩,gb⟩
  ·walk_at "g"
   exact ⟨⟨_,_,rfl,ht,hf⟩,gb⟩
 ·walk_at "g"
  exact ⟨⟨_,_,rfl,ht,hf⟩,Gr.refl _⟩
noncomputable def thenOf:Stmt→List Stmt
 | .If _ b _ _=>b
 | _=>[]
noncomputable def wireB:List Stmt:=thenOf (((bodyOf (stAt 79))[4]?).getD (.Pass ⟨0,0,0,0⟩))
noncomputable abbrev wireK (turn way pick:Int) (fr:Wire) (wa:Addr):Vars:=[("turn",.int turn),("fresh",fr.pv),("world",.ref wa),("way",.int way),("pick",.int pick)]
noncomputable def WireQ (K:Vars) (H:GHeap):Fl→Vars→GHeap→Prop:=fun fl fr' H'=>Gr H H'∧(match fl with
 | .next=>subF K fr'
 | .ret v=>WireRes v
 | _=>False)
structure WireOk' (p s sp t dp:Int):Prop where
 p:p=17∨p=132
 s0:0≤s
 s1:s<2^32
 t0:0≤t
 t1:t<2^32
 sp0:0≤sp
 sp1:sp<256
 dp0:0≤dp
 dp1:dp<256
theorem t_wb5 {H0:GHeap}{c wa:Addr}{kv:WE}{p s sp t dp turn way pick:Int}{fr:Wire}(g:Gr H0 H) (hc:H c=some (.list (([p,s,sp,t,dp]:List Int).map .int))) (he:H kv.ad=some (.sdict kv.kv)) (k:WireOk' p s sp t dp) :
  ExOk C 1 (scOf (stAt 79)) (wireB.drop 5) (("wire",.ref c)::("expect",.ref kv.ad)::wireK turn way pick fr wa) H (WireQ (wireK turn way pick fr wa) H0):=by
 refine wp_ok (C:=C) (n:=1) (sc:=scOf (stAt 79)) hC.wok 300 (.ex _ _ _ _) ?_
 walk_at "g"
 refine subL (.inl hc) (by decide) (by decide) rfl ?_
 walk_at "g"
 refine subL (.inl hc) (by decide) (by decide) rfl ?_
 walk_at "g"
 refine And.intro (fun h1=>?_) (fun h1=>?_)
 ·walk_at "g"
  refine subS he rfl ?_
  walk_at "g"
  refine c_tuple (.inl hc) (Nat.le_of_ble_eq_true rfl) ?_
  walk_at "g"
  exact ⟨g,(_+turn)%2,⟨p,s,sp,t,dp⟩,rfl,mod2 _,⟨k.p,k.s0,k.s1,k.t0,k.t1,k.sp0,k.sp1,k.dp0,k.dp1,h1⟩⟩
 ·walk_at "g"
  exact ⟨g,rfl⟩
omit hC in
theorem keep_sl {H:GHeap}{a b:Addr}{x:GObj}{xs:List PV}{kvs:List (Str×PV)}(h1:H a=some (.sdict kvs)) (h2:H b=some (.list xs)):(H.set b x) a=some (.sdict kvs):=by
 rw [GHeap.set_other]
 ·exact h1
 ·rintro rfl; rw [h2] at h1; cases h1
theorem t_wb4 {H0:GHeap}{c wa:Addr}{kv:WE}{p s sp t dp turn pair way pick:Int}{fr:Wire}(hf:WireOk fr) (hc0:H0 c=none) (g:Gr H0 H) (hc:H c=some (.list (([p,s,sp,t,dp]:List Int).map .int))) (he:H kv.ad=some (.sdict kv.kv)) (k:WireOk' p s sp t dp) :
  ExOk C 1 (scOf (stAt 79)) (wireB.drop 4) (("wire",.ref c)::("expect",.ref kv.ad)::("pair",.int pair)::wireK turn way pick fr wa) H (WireQ (wireK turn way pick fr wa) H0):=by
 refine wp_ok (C:=C) (n:=1) (sc:=scOf (stAt 79)) hC.wok 300 (.exn 1 _ _ _ _) ?_
 walk_at "g"
 refine And.intro (fun h1=>?_) (fun h1=>?_)
 ·walk_at "g"
  refine si_list hc (by decide) (Int.lt_of_lt_of_le (by decide:(4:Int)<5) (Int.le_refl 5)) (Nat.le_of_ble_eq_true rfl) ?_
  walk_at "g"
  exact (t_wb5 hC (p:=p) (s:=s) (sp:=sp) (t:=t) (dp:=fr.dp) (g.put hc0 _) (GHeap.set_same _ _ _) (keep_sl he hc) {k with dp0:=hf.dp0,dp1:=hf.dp1}).looks (subF_is rfl)
 ·walk_at "g"
  exact (t_wb5 hC g hc he k).looks (subF_is rfl)
theorem t_wb3 {H0:GHeap}{c wa:Addr}{kv:WE}{p s sp t dp turn pair way pick:Int}{fr:Wire}(hf:WireOk fr) (hc0:H0 c=none) (g:Gr H0 H) (hc:H c=some (.list (([p,s,sp,t,dp]:List Int).map .int))) (he:H kv.ad=some (.sdict kv.kv)) (k:WireOk' p s sp t dp) :
  ExOk C 1 (scOf (stAt 79)) (wireB.drop 3) (("wire",.ref c)::("expect",.ref kv.ad)::("pair",.int pair)::wireK turn way pick fr wa) H (WireQ (wireK turn way pick fr wa) H0):=by
 refine wp_ok (C:=C) (n:=1) (sc:=scOf (stAt 79)) hC.wok 300 (.exn 1 _ _ _ _) ?_
 walk_at "g"
 refine And.intro (fun h1=>?_) (fun h1=>?_)
 ·walk_at "g"
  refine si_list hc (by decide) (Int.lt_of_lt_of_le (by decide:(3:Int)<5) (Int.le_refl 5)) (Nat.le_of_ble_eq_true rfl) ?_
  walk_at "g"
  exact (t_wb4 hC (p:=p) (s:=s) (sp:=sp) (t:=fr.t) (dp:=dp) hf hc0 (g.put hc0 _) (GHeap.set_same _ _ _) (keep_sl he hc) {k with t0:=hf.t0,t1:=hf.t1}).looks (subF_is rfl)
 ·walk_at "g"
  exact (t_wb4 hC hf hc0 g hc he k).looks (subF_is rfl)
theorem t_wb0 {w:Wd}{pick turn pair way:Int}{fr:Wire}(o:Own H (w.cells++F)) (I:WInv w) (hp:0≤pick) (hne:w.exps≠[]) (hf:WireOk fr) :
  ExOk C 1 (scOf (stAt 79)) wireB (("pair",.int pair)::wireK turn way pick fr w.wa) H (WireQ (wireK turn way pick fr w.wa) H):=by
 refine wp_ok (C:=C) (n:=1) (sc:=scOf (stAt 79)) hC.wok 300 (.exn 3 _ _ _ _) ?_
 have hq:(0:Int)<w.exps.length:=Int.ofNat_lt.mpr (List.length_pos_iff.mpr hne)
 have hlt:(pick%(w.exps.length:Int)).toNat<w.exps.length:=(Int.toNat_lt (Int.emod_nonneg pick (Int.ne_of_gt hq))).mpr (Int.emod_lt_of_pos pick hq)
 have hm:=List.getElem_mem hlt
 have hel:=I.el
 walk_at "g"
 refine subS (w_hd o) rfl ?_
 walk_at "g"
 refine subS (w_hd o) rfl ?_
 walk_at "g"
 refine c_len (.inl (w_el o)) (by rw [List.length_map]; exact Nat.le_trans I.el (by decide)) ?_
 rw [List.length_map]
 walk_at "g"
 conv=>whnf
 rw [decide_eq_true hq]
 walk_at "g"
 refine subL (.inl (w_el o)) (Int.emod_nonneg _ (Int.ne_of_gt hq)) (Int.lt_trans (Int.emod_lt_of_pos pick hq) (Int.ofNat_lt.mpr (Nat.lt_of_le_of_lt I.el (by decide)))) (x:=.ref (w.exps[(pick%(w.exps.length:Int)).toNat]).ad) (by rw [List.getElem?_map,List.getElem?_eq_getElem hlt]; rfl) ?_
 revert hm
 generalize w.exps[(pick%(w.exps.length:Int)).toNat]=e
 intro hm
 have E:=I.es e hm
 have hd:=w_ed o hm
 walk_at "g"
 refine subS hd rfl ?_
 walk_at "g"
 refine subS hd rfl ?_
 walk_at "g"
 refine subS hd rfl ?_
 walk_at "g"
 refine subS hd rfl ?_
 walk_at "g"
 intro c hc0
 have g:=Gr.new (g:=.list (([e.d.p,e.d.source,fr.sp,e.d.t,e.d.port]:List Int).map .int)) hc0
 have hc:=GHeap.set_same H c (.list (([e.d.p,e.d.source,fr.sp,e.d.t,e.d.port]:List Int).map .int))
 have he:=g _ _ hd
 have k1:WireOk' e.d.p fr.s fr.sp e.d.t e.d.port:=⟨E.p,hf.s0,hf.s1,E.t0,E.t1,hf.sp0,hf.sp1,E.port0,E.port1⟩
 have store:∀fr',subF (("wire",.ref c)::("expect",.ref e.ad)::("pair",.int pair)::wireK turn way pick fr w.wa) fr' →
   ExOk C 1 (scOf (stAt 79)) (wireB.drop 3) fr' ((H.set c (.list (([e.d.p,e.d.source,fr.sp,e.d.t,e.d.port]:List Int).map .int))).set c (.list (([e.d.p,fr.s,fr.sp,e.d.t,e.d.port]:List Int).map .int))) (WireQ (wireK turn way pick fr w.wa) H):=fun fr' l =>
  (t_wb3 hC (kv:=e) (p:=e.d.p) (s:=fr.s) (sp:=fr.sp) (t:=e.d.t) (dp:=e.d.port) hf hc0 (g.put hc0 _) (GHeap.set_same _ _ _) (keep_sl he hc) k1).looks (subF_is l)
 walk_at "g"
 refine And.intro (fun h1=>?_) (fun h1=>?_)
 ·walk_at "g"
  refine si_list hc (by decide) (Int.lt_of_lt_of_le (by decide:(1:Int)<5) (Int.le_refl 5)) (Nat.le_of_ble_eq_true rfl) ?_
  walk_at "g"
  exact store _ rfl
 ·walk_at "g"
  refine subL (.inl hc) (by decide) (by decide) rfl ?_
  walk_at "g"
  refine And.intro (fun h2=>?_) (fun h2=>?_)
  ·walk_at "g"
   refine si_list hc (by decide) (Int.lt_of_lt_of_le (by decide:(1:Int)<5) (Int.le_refl 5)) (Nat.le_of_ble_eq_true rfl) ?_
   walk_at "g"
   exact store _ rfl
  ·walk_at "g"
   have es:=E.s.resolve_left h2
   exact (t_wb3 hC (kv:=e) hf hc0 g hc he ⟨E.p,es.1,es.2,E.t0,E.t1,hf.sp0,hf.sp1,E.port0,E.port1⟩).looks (subF_is rfl)
theorem t_wire4 {w:Wd}{way pick turn pair:Int}{fr:Wire}(o:Own H (w.cells++F)) (I:WInv w) (hp:0≤pick) (ht:turn=0∨turn=1) (hf:WireOk fr) :
  ExOk C 1 (scOf (stAt 79)) ((bodyOf (stAt 79)).drop 4) [("turn",.int turn),("fresh",fr.pv),("pair",.int pair),("world",.ref w.wa),("way",.int way),("pick",.int pick)] H fun fl _ H'=>WireRes (flv fl)∧Gr H H':=by
 have rest:∀H1 fr',Gr H H1→subF (wireK turn way pick fr w.wa) fr'→ExOk C 1 (scOf (stAt 79)) ((bodyOf (stAt 79)).drop 5) fr' H1 fun fl _ H'=>WireRes (flv fl)∧Gr H H':=fun H1 fr' g l =>
  ((t_wire5 hC (o.gr g) I hp ht hf).mono fun _ _ _ h=>⟨h.1,g.trans h.2⟩).looks (subF_is l)
 have out:∀H1 fl fr' H',Gr H H1→WireQ (wireK turn way pick fr w.wa) H1 fl fr' H'→thenF (ExOk C 1 (scOf (stAt 79)) ((bodyOf (stAt 79)).drop 5) fr' H' fun fl _ H'=>WireRes (flv fl)∧Gr H H') (WireRes (flv fl)∧Gr H H') fl:=fun H1 fl fr' H' g q=>by
  induction fl using Mine.Fl.casesOn with
  | next=>exact rest _ _ (g.trans q.1) q.2
  | ret v=>exact ⟨q.2,g.trans q.1⟩
  | brk=>exact q.2.elim
  | cont=>exact q.2.elim
 refine ex_cons (st_if ?_)
 refine wp_ok (C:=C) (n:=1) (sc:=scOf (stAt 79)) hC.wok 300 (.ts _ _ _ _) ?_
 walk_at "g"
 refine And.intro (fun h1=>?_) (fun h1=>?_)
 ·walk_at "g"
  refine subS (w_hd o) rfl ?_
  walk_at "g"
  intro b hb
  have gb:=Gr.new (g:=.list []) hb
  refine op_ne_nil (.inl (gb _ _ (w_el o))) (.inl (GHeap.set_same _ _ _)) ?_
  have o1:=o.gr gb
  refine boolT (fun h2=>⟨fun _=>?_,fun z=>by cases z⟩) (fun h2=>⟨fun z=>(by cases z),fun _=>?_⟩)
  ·have hne:w.exps≠[]:=fun z=>by rw [z] at h2; cases h2
   exact ((t_wb0 hC (pair:=pair) (turn:=turn) (way:=way) o1 I hp hne hf).mono fun fl fr' H' q=>out _ fl fr' H' gb q).looks (subF_is rfl)
  ·exact ex_nil (rest _ _ gb rfl)
 ·refine ⟨fun z=>(by cases z),fun _=>?_⟩
  exact ex_nil (rest _ _ (Gr.refl _) rfl)
end
section
variable {C:Cfg}(hC:CK C) {H:GHeap}{F:List Cell}
theorem six {d:Int}(h0:0≤d) (h1:d<6):d=0∨d=1∨d=2∨d=3∨d=4∨d=5:=by
 obtain ⟨n,rfl⟩:=Int.eq_ofNat_of_zero_le h0
 exact (by decide:∀n:Nat,n<6→((n:Int)=0∨(n:Int)=1∨(n:Int)=2∨(n:Int)=3∨(n:Int)=4∨(n:Int)=5)) n (Int.ofNat_lt.mp h1)
theorem adZ {e:Int}(h:e=0∨e=1∨e=2):0≤168496141+65793*e∧168496141+65793*e<2^32:=by rcases h with rfl | rfl | rfl<;>decide
theorem poZ {d:Int}(h0:0≤d) (h1:d<3):0≤7+2*d∧7+2*d<256 :=
 ⟨Int.add_nonneg (by decide) (Int.mul_nonneg (by decide) h0),Int.lt_trans (Int.add_lt_add_left (Int.mul_lt_mul_of_pos_left h1 (by decide)) 7) (by decide)⟩
structure DigOk (d0 d1 d2 d3 d4:Int):Prop where
 a0:0≤d0
 a1:d0<6
 b0:0≤d1
 b1:d1<3
 c0:0≤d2
 c1:d2<2
include hC
theorem t_wire2 {w:Wd}{way pick e0 e1 d0 d1 d2 d3 d4:Int}(o:Own H (w.cells++F)) (I:WInv w) (hp:0≤pick) (D:DigOk d0 d1 d2 d3 d4) (he:(e0=0∨e0=1∨e0=2)∧(e1=0∨e1=1∨e1=2)∧e0≠e1) :
  ExOk C 1 (scOf (stAt 79)) ((bodyOf (stAt 79)).drop 2) [("ends",.tup [.int e0,.int e1]),("pair",.int d0),("sport",.int d1),("dport",.int d2),("kind",.int d3),("zone",.int d4),("world",.ref w.wa),("way",.int way),("pick",.int pick)] H fun fl _ H'=>WireRes (flv fl)∧Gr H H':=by
 have hf:∀p,(p=17∨p=132)→WireOk ⟨p,168496141+65793*e0,7+2*d1,168496141+65793*e1,7+2*d2⟩:=fun p hp=>by
  have a:=adZ he.1
  have b:=adZ he.2.1
  have c:=poZ D.b0 D.b1
  have d:=poZ D.c0 (Int.lt_trans D.c1 (by decide))
  exact ⟨hp,a.1,a.2,b.1,b.2,c.1,c.2,d.1,d.2,fun h=>he.2.2 (Int.eq_of_mul_eq_mul_left (by decide) (Int.add_left_cancel h))⟩
 have key:∀p,(p=17∨p=132)→∀fr',subF [("fresh",.tup [.int p,.int (168496141+65793*e0),.int (7+2*d1),.int (168496141+65793*e1),.int (7+2*d2)]),("pair",.int d0),("zone",.int d4),("world",.ref w.wa),("way",.int way),("pick",.int pick)] fr' →
   ExOk C 1 (scOf (stAt 79)) ((bodyOf (stAt 79)).drop 3) fr' H fun fl _ H'=>WireRes (flv fl)∧Gr H H':=fun p hp' fr' l=>by
  refine ExOk.looks (fr':=[("fresh",.tup [.int p,.int (168496141+65793*e0),.int (7+2*d1),.int (168496141+65793*e1),.int (7+2*d2)]),("pair",.int d0),("zone",.int d4),("world",.ref w.wa),("way",.int way),("pick",.int pick)]) ?_ (subF_is l)
  refine wp_ok (C:=C) (n:=1) (sc:=scOf (stAt 79)) hC.wok 300 (.exn 1 _ _ _ _) ?_
  walk_at "g"
  refine And.intro (fun h1=>?_) (fun h1=>?_)
  ·walk_at "g"
   exact (t_wire4 hC (fr:=⟨p,168496141+65793*e0,7+2*d1,168496141+65793*e1,7+2*d2⟩) o I hp (.inr rfl) (hf p hp')).looks (subF_is rfl)
  ·walk_at "g"
   exact (t_wire4 hC (fr:=⟨p,168496141+65793*e0,7+2*d1,168496141+65793*e1,7+2*d2⟩) o I hp (.inl rfl) (hf p hp')).looks (subF_is rfl)
 refine wp_ok (C:=C) (n:=1) (sc:=scOf (stAt 79)) hC.wok 300 (.exn 1 _ _ _ _) ?_
 walk_at "g"
 refine And.intro (fun h1=>?_) (fun h1=>?_)
 ·walk_at "g"
  refine up (t_host hC e0) rfl fun v H1 h=>?_
  obtain ⟨rfl,rfl⟩:=h
  walk_at "g"
  refine up (t_host hC e1) rfl fun v H1 h=>?_
  obtain ⟨rfl,rfl⟩:=h
  walk_at "g"
  exact key 132 (.inr rfl) _ rfl
 ·walk_at "g"
  refine up (t_host hC e0) rfl fun v H1 h=>?_
  obtain ⟨rfl,rfl⟩:=h
  walk_at "g"
  refine up (t_host hC e1) rfl fun v H1 h=>?_
  obtain ⟨rfl,rfl⟩:=h
  walk_at "g"
  exact key 17 (.inl rfl) _ rfl
theorem t_wire {w:Wd}{way pick d0 d1 d2 d3 d4 d5 d6:Int}{a:Addr}(o:Own H (w.cells++F)) (I:WInv w) (hp:0≤pick) (D:DigOk d0 d1 d2 d3 d4) (ha:H a=some (.list (([d0,d1,d2,d3,d4,d5,d6]:List Int).map .int))) :
  CallOk C 2 (.ref 521) [.ref w.wa,.int way,.int pick,.ref a] H (fun v H'=>WireRes v∧Gr H H'):=by
 refine fn4 hC (stAt 79) "world" "way" "pick" "digits" rfl rfl rfl (by kernel_rfl) (by walk_at "f") 2 ?_
 walk_at "g"
 refine ⟨.list (.inl ha),gi_list_to (.inl ha) (Nat.le_of_ble_eq_true rfl) fun b hb=>?_⟩
 have gb:=Gr.new (g:=.list (([d0,d1,d2,d3,d4]:List Int).map .int)) hb
 refine ⟨_,.inl (GHeap.set_same _ _ _),?_⟩
 have o1:=o.gr gb
 have key:∀e0 e1 fr',(e0=0∨e0=1∨e0=2)∧(e1=0∨e1=1∨e1=2)∧e0≠e1→subF [("ends",.tup [.int e0,.int e1]),("pair",.int d0),("sport",.int d1),("dport",.int d2),("kind",.int d3),("zone",.int d4),("world",.ref w.wa),("way",.int way),("pick",.int pick)] fr' →
   ExOk C 1 (scOf (stAt 79)) ((bodyOf (stAt 79)).drop 2) fr' (H.set b (.list (([d0,d1,d2,d3,d4]:List Int).map .int))) fun fl _ H'=>WireRes (flv fl)∧Gr H H':=fun e0 e1 fr' h l =>
  ((t_wire2 hC o1 I hp D h).mono fun fl _ H' h=>⟨h.1,gb.trans h.2⟩).looks (subF_is l)
 have hd:d0=0∨d0=1∨d0=2∨d0=3∨d0=4∨d0=5:=six D.a0 D.a1
 walk_at "g"
 rcases hd with rfl | rfl | rfl | rfl | rfl | rfl
 ·walk_at "g"
  exact key 0 1 _ (by decide) rfl
 ·walk_at "g"
  exact key 1 0 _ (by decide) rfl
 ·walk_at "g"
  exact key 2 1 _ (by decide) rfl
 ·walk_at "g"
  exact key 1 2 _ (by decide) rfl
 ·walk_at "g"
  exact key 0 2 _ (by decide) rfl
 ·walk_at "g"
  exact key 2 0 _ (by decide) rfl
end
section
structure RowD where
 now:Int
 zone:Int
 oct:Array UInt8
 state:Int
 mark:Int
 kind:Int
 sa:Addr
 kept:Bool
 any:PV
noncomputable def RowD.kv (r:RowD):List (Str×PV):=[("now",.int r.now),("zone",.int r.zone),("octets",.bytes r.oct),("state",.int r.state),("mark",.int r.mark),("kind",.int r.kind),("specs",.ref r.sa),("is_kept",.bool r.kept),("any",r.any)]
noncomputable def WT.keep (x:WT):WT:={x with d:={x.d with bits:=x.d.bits+8,isIn:=true}}
noncomputable def KeepW (w:Wd) (i:Nat) (x:WT) (kept:Bool):WT×Wd:=if kept=true∧x.d.bits/8%2=0 then (x.keep,w.setT i x.keep) else (x,w)
noncomputable def anyPV (x:WTalk) (s:Spec) (zone now:Int):PV:=.tup [.int x.num,.tup [.int s.nf,.int s.p,.int (-1),.int x.a.a,.int s.port],.int zone,.int (now+s.span)]
variable {C:Cfg}(hC:CK C) {H:GHeap}{F:List Cell}
include hC
theorem t_e16 {w:Wd}{i:Nat}{x:WT}{kind:Int}{ra da:Addr}(o:Own H (w.cells++F)) (hx:w.talks[i]?=some x) (k:TalksOk w) :
  ExOk C 5 (scOf (stAt 80)) ((bodyOf (stAt 80)).drop 16) [("kind",.int kind),("talk",.ref x.ad),("world",.ref w.wa),("row",.ref ra),("due",.ref da)] H
   fun fl _ H'=>flv fl=.tup [.ref ra,.ref da]∧Own H' ((if kind=3 then w.out i x else w).cells++F):=by
 refine wp_ok (C:=C) (n:=5) (sc:=scOf (stAt 80)) hC.wok 300 (.ex _ _ _ _) ?_
 walk_at "g"
 refine And.intro (fun h1=>?_) (fun h1=>?_)
 ·walk_at "g"
  refine up (t_out hC o hx k.exps) rfl fun v H1 h=>?_
  obtain ⟨rfl,o1⟩:=h
  walk_at "g"
  rw [if_pos h1]
  exact ⟨rfl,o1⟩
 ·walk_at "g"
  rw [if_neg h1]
  exact ⟨rfl,o⟩
theorem t_e15 {w:Wd}{i:Nat}{x:WT}{kind:Int}{r:RowD}{ra da:Addr}(o:Own H (w.cells++F)) (hr:(ra,.sdict r.kv)∈F) (hx:w.talks[i]?=some x) (k:TalksOk w) :
  ExOk C 5 (scOf (stAt 80)) ((bodyOf (stAt 80)).drop 15) [("kind",.int kind),("talk",.ref x.ad),("world",.ref w.wa),("row",.ref ra),("due",.ref da)] H
   fun fl _ H'=>flv fl=.tup [.ref ra,.ref da]∧Own H' ((if kind=3 then (KeepW w i x r.kept).2.out i (KeepW w i x r.kept).1 else (KeepW w i x r.kept).2).cells++F):=by
 have hm:=List.mem_of_getElem? hx
 have hd:=w_td o hm
 have go:∀fr',subF [("kind",.int kind),("talk",.ref x.ad),("world",.ref w.wa),("row",.ref ra),("due",.ref da)] fr'→¬(r.kept=true∧x.d.bits/8%2=0)→ExOk C 5 (scOf (stAt 80)) ((bodyOf (stAt 80)).drop 16) fr' H
   fun fl _ H'=>flv fl=.tup [.ref ra,.ref da]∧Own H' ((if kind=3 then (KeepW w i x r.kept).2.out i (KeepW w i x r.kept).1 else (KeepW w i x r.kept).2).cells++F):=fun fr' l hn=>by
  rw [show KeepW w i x r.kept=(x,w) from if_neg hn]
  exact (t_e16 hC o hx k).looks (subF_is l)
 refine wp_ok (C:=C) (n:=5) (sc:=scOf (stAt 80)) hC.wok 300 (.exn 1 _ _ _ _) ?_
 walk_at "g"
 refine subS (o.at_ _ (List.mem_append_right _ hr)) rfl ?_
 walk_at "g"
 refine And.intro (fun h1=>?_) (fun h1=>?_)
 ·walk_at "g"
  refine subS hd rfl ?_
  walk_at "g"
  refine And.intro (fun h2=>?_) (fun h2=>?_)
  ·walk_at "g"
   refine subS hd rfl ?_
   walk_at "g"
   refine setS hd (kvs':=WT.kv {x with d:={x.d with bits:=x.d.bits+8}}) rfl rfl ?_
   have o1:=w_setT (e':={x with d:={x.d with bits:=x.d.bits+8}}) o hx rfl rfl rfl
   have hx1:(w.setT i {x with d:={x.d with bits:=x.d.bits+8}}).talks[i]?=some {x with d:={x.d with bits:=x.d.bits+8}}:=set_at hx _
   have hd1:=w_td o1 (List.mem_of_getElem? hx1)
   walk_at "g"
   refine setS hd1 (kvs':=x.keep.kv) rfl rfl ?_
   have o2:=w_setT (e':=x.keep) o1 hx1 rfl rfl rfl
   rw [show (w.setT i {x with d:={x.d with bits:=x.d.bits+8}}).setT i x.keep=w.setT i x.keep from congrArg (fun l=>({w with talks:=l}:Wd)) (List.set_set ..)] at o2
   have hx2:(w.setT i x.keep).talks[i]?=some x.keep:=set_at hx _
   have k2:TalksOk (w.setT i x.keep):=by
    have key:∀y∈(w.setT i x.keep).talks,y∈w.talks∨y=x.keep:=fun y hy=>List.mem_or_eq_of_mem_set hy
    refine ⟨fun y hy=>?_,fun y hy=>?_,?_,k.exps⟩
    ·rcases key y hy with h | rfl
     ·exact k.ne y h
     ·exact k.ne x hm
    ·rcases key y hy with h | rfl
     ·exact k.len y h
     ·exact k.len x hm
    ·show (w.talks.set i x.keep).length≤100
     rw [List.length_set]; exact k.many
   walk_at "g"
   rw [show KeepW w i x r.kept=(x.keep,w.setT i x.keep) from if_pos ⟨h1,h2⟩]
   exact (t_e16 hC o2 hx2 k2).looks (subF_is rfl)
  ·walk_at "g"
   exact go _ rfl fun z=>h2 z.2
 ·walk_at "g"
  exact go _ rfl fun z=>by rw [z.1] at h1; cases h1
noncomputable def finW (w:Wd) (i:Nat) (x:WT) (kind:Int) (kept:Bool):Wd:=if kind=3 then (KeepW w i x kept).2.out i (KeepW w i x kept).1 else (KeepW w i x kept).2
inductive AnyW (w:Wd) (x:WTalk) (kind:Int) (s:Spec) (zone now:Int):PV→Wd→Prop
 | no:¬kind=2→AnyW w x kind s zone now .none w
 | yes {ad:Addr}:kind=2→AnyW w x kind s zone now (anyPV x s zone now) (w.addE ⟨ad,anyE x s now⟩)
omit hC in
theorem TalksOk.addE {w:Wd}{e:WE}(k:TalksOk w) (h:w.exps.length≤999):TalksOk (w.addE e):=⟨k.ne,k.len,k.many,by show (w.exps++[e]).length≤1000; rw [List.length_append]; exact Nat.succ_le_succ h⟩
theorem t_e14 {w:Wd}{i:Nat}{x:WT}{kind zone now:Int}{s:Spec}{r:RowD}{ra da:Addr}(hra:r.any=.none) (o:Own H (w.cells++((ra,.sdict r.kv)::F))) (hx:w.talks[i]?=some x) (k:TalksOk w) (hz:w.exps.length≤999) :
  ExOk C 5 (scOf (stAt 80)) ((bodyOf (stAt 80)).drop 14) [("kind",.int kind),("talk",.ref x.ad),("world",.ref w.wa),("row",.ref ra),("due",.ref da),("spec",s.pv),("zone",.int zone),("now",.int now)] H
   fun fl _ H'=>∃any w1,AnyW w x.d kind s zone now any w1∧flv fl=.tup [.ref ra,.ref da]∧Own H' ((finW w1 i x kind r.kept).cells++((ra,.sdict (RowD.kv {r with any:=any}))::F)):=by
 have hm:=List.mem_of_getElem? hx
 refine wp_ok (C:=C) (n:=5) (sc:=scOf (stAt 80)) hC.wok 300 (.exn 1 _ _ _ _) ?_
 walk_at "g"
 refine And.intro (fun h1=>?_) (fun h1=>?_)
 ·walk_at "g"
  refine up (t_any hC o hm k) rfl fun v H1 h=>?_
  obtain ⟨rfl,ad,o1⟩:=h
  have hd1:=w_td o1 hm
  have hr1:=o1.inF
  walk_at "g"
  refine subS hd1 rfl ?_
  walk_at "g"
  refine subS hd1 rfl ?_
  walk_at "g"
  refine setS hr1 (kvs':=RowD.kv {r with any:=anyPV x.d s zone now}) rfl rfl ?_
  have o2:=o1.putF (g':=.sdict (RowD.kv {r with any:=anyPV x.d s zone now}))
  walk_at "g"
  have z:=t_e15 hC (kind:=kind) (r:={r with any:=anyPV x.d s zone now}) (da:=da) o2 (.head _) hx (k.addE hz)
  exact (z.mono fun fl _ H' h=>⟨_,_,.yes h1,h.1,h.2⟩).looks (subF_is rfl)
 ·walk_at "g"
  have z:=t_e15 hC (kind:=kind) (r:=r) (da:=da) o (.head _) hx k
  refine (z.mono fun fl _ H' h=>⟨.none,w,.no h1,h.1,?_⟩).looks (subF_is rfl)
  rw [show ({r with any:=.none}:RowD)=r by cases r; cases hra; rfl]
  exact h.2
inductive ExpsW (x:WTalk) (way now:Int):List Spec→Wd→List PV→Wd→Prop
 | nil {w:Wd}:ExpsW x way now [] w [] w
 | snoc {w w1 w2:Wd}{l:List Spec}{s:Spec}{ys:List PV}{y:PV}:ExpsW x way now l w ys w1→ExpW w1 x way s now y w2→ExpsW x way now (l++[s]) w (ys++[y]) w2
structure SameT (w w':Wd):Prop where
 wa:w'.wa=w.wa
 talks:w'.talks=w.talks
 wires:w'.wires=w.wires
omit hC in
theorem ExpW.same {w w':Wd}{x:WTalk}{way now:Int}{s:Spec}{v:PV}(h:ExpW w x way s now v w'):SameT w w'∧w'.exps.length≤w.exps.length+1:=by
 cases h with
 | brk _=>exact ⟨⟨rfl,rfl,rfl⟩,Nat.le_succ _⟩
 | renew _ _ he _ _=>exact ⟨⟨rfl,rfl,rfl⟩,by rw [he]; simp⟩
 | add _ _ _=>exact ⟨⟨rfl,rfl,rfl⟩,by show (w.exps++[_]).length≤_; simp⟩
omit hC in
theorem ExpsW.same {x:WTalk}{way now:Int}{l:List Spec}{w w':Wd}{ys:List PV}(h:ExpsW x way now l w ys w'):SameT w w'∧w'.exps.length≤w.exps.length+l.length∧ys.length=l.length:=by
 induction h with
 | nil=>exact ⟨⟨rfl,rfl,rfl⟩,Nat.le_refl _,rfl⟩
 | snoc _ h ih =>
  have z:=h.same
  refine ⟨⟨z.1.wa.trans ih.1.wa,z.1.talks.trans ih.1.talks,z.1.wires.trans ih.1.wires⟩,?_,?_⟩
  ·rw [List.length_append]
   exact Nat.le_trans z.2 (Nat.succ_le_succ ih.2.1)
  ·rw [List.length_append,List.length_append,ih.2.2]; rfl
omit hC in
theorem TalksOk.same {w w':Wd}(k:TalksOk w) (s:SameT w w') (h:w'.exps.length≤1000):TalksOk w':=⟨by rw [s.talks]; exact k.ne,by rw [s.talks]; exact k.len,by rw [s.talks]; exact k.many,h⟩
theorem t_e13 {w:Wd}{i:Nat}{x:WT}{kind zone now way:Int}{s:Spec}{r:RowD}{ra:Addr}{seen:PV}{specs:List Spec}(hra:r.any=.none) (o:Own H (w.cells++((ra,.sdict r.kv)::F))) (hs:(r.sa,.list (specs.map Spec.pv))∈F) (hsl:specs.length≤2) (hx:w.talks[i]?=some x) (k:TalksOk w) (hz:w.exps.length≤990) (hw:way=0∨way=1) :
  ExOk C 5 (scOf (stAt 80)) ((bodyOf (stAt 80)).drop 13) [("kind",.int kind),("talk",.ref x.ad),("world",.ref w.wa),("row",.ref ra),("way",.int way),("spec",s.pv),("zone",.int zone),("now",.int now),("seen",seen),("specs",.ref r.sa)] H
   fun fl _ H'=>∃w1 res rs da any w2,ExpsW x.d way now specs w res w1∧AnyW w1 x.d kind s zone now any w2∧flv fl=.tup [.ref ra,.ref da] ∧
    Own H' ((finW w2 i x kind r.kept).cells++((ra,.sdict (RowD.kv {r with any:=any}))::(da,.list [seen,.ref rs,.none])::(rs,.list res)::F)):=by
 refine wp_ok (C:=C) (n:=5) (sc:=scOf (stAt 80)) hC.wok 300 (.exn 1 _ _ _ _) ?_
 walk_at "g"
 refine ⟨_,_,.list (.inl (o.at_ _ (List.mem_append_right _ (.tail _ hs)))),rfl,by rw [List.length_map]; exact Nat.le_trans hsl (by decide),?_⟩
 refine cp_st hC.wok (fun j ys H'=>∃w',ExpsW x.d way now (specs.take j) w ys w'∧Own H' (w'.cells++((ra,.sdict r.kv)::F))) ⟨w,.nil,o⟩ (fun j ys H' h=>?_) (fun j ys H' h=>?_) (fun j y ys H' hy h=>?_) (fun ys H' h=>?_)
 ·obtain ⟨w',_,o'⟩:=h
  exact .list (.inl (o'.at_ _ (List.mem_append_right _ (.tail _ hs))))
 ·obtain ⟨w',h',_⟩:=h
  rw [h'.same.2.2,List.length_take]; first | exact Nat.min_le_left _ _ | omega
 ·obtain ⟨w',h',o'⟩:=h
  rw [List.getElem?_map] at hy
  obtain ⟨s',hs',rfl⟩:=Option.map_eq_some_iff.mp hy
  have z:=h'.same
  have k':TalksOk w':=k.same z.1 (by have:=z.2.1; rw [List.length_take] at this; lia)
  have e1:=z.1.wa
  walk_at "g"
  refine ⟨rfl,?_⟩
  have c:=t_expect hC (x:=x) (way:=way) (now:=now) (s:=s') o' (by rw [z.1.talks]; exact List.mem_of_getElem? hx) k' hw
  rw [e1] at c
  walk_at "g"
  refine up c rfl fun v H2 h=>?_
  obtain ⟨w2,hw2,o2⟩:=h
  refine ⟨w2,?_,o2⟩
  rw [List.take_add_one,hs']
  exact .snoc h' hw2
 ·obtain ⟨w',h',o'⟩:=h
  rw [List.length_map,List.take_length] at h'
  have z:=h'.same
  intro rs hrs
  have o1:=o'.newF (g:=.list ys) hrs
  walk_at "g"
  intro da hda
  have o2:=o1.newF (g:=.list [seen,.ref rs,.none]) hda
  have o3:=o2.perm (L':=w'.cells++((ra,.sdict r.kv)::(da,.list [seen,.ref rs,.none])::(rs,.list ys)::F)) (List.Perm.append_left _ ((List.Perm.cons _ (List.Perm.swap _ _ _)).trans (List.Perm.swap _ _ _)))
  have hz':w'.exps.length≤999:=by have:=z.2.1; lia
  have c:=t_e14 hC (kind:=kind) (zone:=zone) (now:=now) (s:=s) (da:=da) hra o3 (by rw [z.1.talks]; exact hx) (k.same z.1 (Nat.le_trans hz' (by decide))) hz'
  rw [z.1.wa] at c
  walk_at "g"
  exact (c.mono fun fl _ H' ⟨any,w2,ha,hf,hO⟩=>⟨w',ys,rs,da,any,w2,h',ha,hf,hO⟩).looks (subF_is rfl)
end
section
variable {C:Cfg}(hC:CK C) {H:GHeap}{F:List Cell}
include hC
theorem t_e13n {w:Wd}{kind zone now way:Int}{s:Spec}{r:RowD}{ra:Addr}{seen:PV}{specs:List Spec}(o:Own H (w.cells++((ra,.sdict r.kv)::F))) (hs:(r.sa,.list (specs.map Spec.pv))∈F) (hsl:specs.length≤2) :
  ExOk C 5 (scOf (stAt 80)) ((bodyOf (stAt 80)).drop 13) [("kind",.int kind),("talk",.none),("world",.ref w.wa),("row",.ref ra),("way",.int way),("spec",s.pv),("zone",.int zone),("now",.int now),("seen",seen),("specs",.ref r.sa)] H
   fun fl _ H'=>∃rs da,flv fl=.tup [.ref ra,.ref da] ∧
    Own H' (w.cells++((ra,.sdict r.kv)::(da,.list [seen,.ref rs,.none])::(rs,.list (specs.map fun _=>brkPV))::F)):=by
 refine wp_ok (C:=C) (n:=5) (sc:=scOf (stAt 80)) hC.wok 300 (.exn 2 _ _ _ _) ?_
 walk_at "g"
 refine compL hC.wok specs (fun _=>some brkPV) (o.at_ _ (List.mem_append_right _ (.tail _ hs))) (Nat.le_trans hsl (by decide)) (fun s' H' hm hg=>?_) (fun H' rs hg hrs=>?_)
 ·walk_at "g"
  refine ⟨rfl,?_⟩
  walk_at "g"
  refine up (t_expect0 hC (way:=way) (now:=now) (s:=s') (a:=w.wa)) rfl fun v H2 h=>?_
  obtain ⟨rfl,rfl⟩:=h
  exact ⟨rfl,hg⟩
 ·rw [fm_some]
  have o1:=(o.gr hg).newF (g:=.list (specs.map fun _=>brkPV)) hrs
  walk_at "g"
  intro da hda
  have o2:=o1.newF (g:=.list [seen,.ref rs,.none]) hda
  have o3:=o2.perm (L':=w.cells++((ra,.sdict r.kv)::(da,.list [seen,.ref rs,.none])::(rs,.list (specs.map fun _=>brkPV))::F)) (List.Perm.append_left _ ((List.Perm.cons _ (List.Perm.swap _ _ _)).trans (List.Perm.swap _ _ _)))
  have hr:=o3.inF
  have fin:∀fr',subF [("kind",.int kind),("talk",.none),("row",.ref ra),("due",.ref da)] fr'→ExOk C 5 (scOf (stAt 80)) ((bodyOf (stAt 80)).drop 15) fr' ((H'.set rs (.list (specs.map fun _=>brkPV))).set da (.list [seen,.ref rs,.none]))
   fun fl _ H'=>∃rs da,flv fl=.tup [.ref ra,.ref da] ∧
    Own H' (w.cells++((ra,.sdict r.kv)::(da,.list [seen,.ref rs,.none])::(rs,.list (specs.map fun _=>brkPV))::F)):=fun fr' l=>by
   refine ExOk.looks (fr':=[("kind",.int kind),("talk",.none),("row",.ref ra),("due",.ref da)]) ?_ (subF_is l)
   refine wp_ok (C:=C) (n:=5) (sc:=scOf (stAt 80)) hC.wok 300 (.ex _ _ _ _) ?_
   walk_at "g"
   refine subS hr rfl ?_
   walk_at "g"
   refine And.intro (fun h1=>?_) (fun h1=>?_)
   ·walk_at "g"
    refine And.intro (fun h1=>?_) (fun h1=>?_)
    ·walk_at "g"
     exact ⟨rs,da,rfl,o3⟩
    ·walk_at "g"
     exact ⟨rs,da,rfl,o3⟩
   ·walk_at "g"
    refine And.intro (fun h1=>?_) (fun h1=>?_)
    ·walk_at "g"
     exact ⟨rs,da,rfl,o3⟩
    ·walk_at "g"
     exact ⟨rs,da,rfl,o3⟩
  walk_at "g"
  refine And.intro (fun h1=>?_) (fun h1=>?_)
  ·walk_at "g"
   exact fin _ rfl
  ·walk_at "g"
   exact fin _ rfl
structure Ev where
 now:Int
 zone:Int
 wire:Wire
 d6:Int
 kind:Int
 kept:Bool
 isMark:Bool
 number:Int
 s:Spec
 specs:List Spec
noncomputable def Ev.row (e:Ev) (mark:Int) (sa:Addr) (any:PV):RowD:=⟨e.now,e.zone,byteArr (octL e.wire (if e.d6=7 then 3 else 0)),if e.d6=6 then 64 else 8,mark,e.kind,sa,e.kept,any⟩
noncomputable def WT.marked (x:WT) (m:Int):WT:={x with d:={x.d with mark:=m}}
inductive StepW (w:Wd) (e:Ev):PV→List PV→Int→PV→Wd→Prop
 | six:e.d6=6→StepW w e (.tup [.none,.int 64,.int 1]) (e.specs.map fun _=>brkPV) (-1) .none (w.addW (e.zone,e.wire))
 | seven:e.d6=7→StepW w e (.tup [.none,.int 1,.int 0]) (e.specs.map fun _=>brkPV) (-1) .none (w.addW (e.zone,e.wire))
 | meet {w1 w2 w3:Wd}{i:Nat}{x:WT}{way st:Int}{nw:Bool}{res:List PV}{any:PV}:e.d6<6→MeetW (w.addW (e.zone,e.wire)) e.zone e.wire e.now x way nw st w1→w1.talks[i]?=some x →
   ExpsW (if (nw&&e.isMark)=true then x.marked (1000+e.number) else x).d way e.now e.specs (if (nw&&e.isMark)=true then w1.setT i (x.marked (1000+e.number)) else w1) res w2 →
   AnyW w2 (if (nw&&e.isMark)=true then x.marked (1000+e.number) else x).d e.kind e.s e.zone e.now any w3 →
   StepW w e (seenPV x.d st way e.zone) res (if (nw&&e.isMark)=true then 1000+e.number else -1) any (finW w3 i (if (nw&&e.isMark)=true then x.marked (1000+e.number) else x) e.kind e.kept)
end
section
structure EvDig (digs:List Int) (e:Ev):Prop where
 len:digs.length=7
 d6:digs[6]?=some e.d6
theorem NewW.facts {w w':Wd}{zone now:Int}{wire:Wire}{x:WT}(h:NewW w zone wire now x w'):w'.talks=w.talks++[x]∧w'.exps.length=w.exps.length∧w'.wa=w.wa∧w'.wires=w.wires:=by
 cases h with
 | plain _=>exact ⟨rfl,rfl,rfl,rfl⟩
 | rel he _ _=>exact ⟨rfl,by rw [he]; show (_++_::_:List WE).length=_; simp,rfl,rfl⟩
theorem FoundW.facts {w w1:Wd}{zone now:Int}{t:T6}{v:PV}(h:FoundW w zone t now v w1) (k:TalksOk w):TalksOk w1∧w1.talks.length=w.talks.length∧w1.exps.length=w.exps.length∧w1.wa=w.wa∧w1.wires=w.wires:=by
 cases h with
 | none _=>exact ⟨k,rfl,rfl,rfl,rfl⟩
 | old hx _ _=>exact ⟨k.out hx,List.length_set,List.length_map _,rfl,rfl⟩
 | hit _ _ _ _=>exact ⟨k,rfl,rfl,rfl,rfl⟩
structure MeetF (w w1:Wd) (x:WT) (way:Int):Prop where
 at_:∃i:Nat,w1.talks[i]?=some x
 k:TalksOk w1
 el:w1.exps.length=w.exps.length
 wa:w1.wa=w.wa
 way:way=0∨way=1
theorem MeetW.facts {w w1:Wd}{zone now:Int}{wire:Wire}{x:WT}{way st:Int}{nw:Bool}(h:MeetW w zone wire now x way nw st w1) (k:TalksOk w) (hl:∀x∈w.talks,x.d.pk.length≤99) (hm:w.talks.length≤99):MeetF w w1 x way:=by
 cases h with
 | @new wf wn x0 hf hn =>
  refine byP fun PG kG=>?_
  obtain ⟨kf,l1,l2,l3,_⟩:=hf.facts k
  obtain ⟨e1,e2,e3,_⟩:=hn.facts
  refine kG ?_
  have e4:(wn.setT wf.talks.length (x0.add (now,0))).talks=wf.talks++[x0.add (now,0)]:=by
   show wn.talks.set _ _=_
   rw [e1,List.set_append_right _ _ (Nat.le_refl _),Nat.sub_self]; rfl
  have pk0:=hn.at_.2
  refine ⟨⟨wf.talks.length,?_⟩,⟨fun y hy=>?_,fun y hy=>?_,?_,?_⟩,e2.trans l2,e3.trans l3,.inl rfl⟩
  ·rw [e4,List.getElem?_append_right (Nat.le_refl _),Nat.sub_self]; rfl
  ·rw [e4] at hy
   rcases List.mem_append.mp hy with hy | hy
   ·exact kf.ne y hy
   ·rw [List.mem_singleton.mp hy]; show x0.d.pk++[(now,0)]≠[]; simp
  ·rw [e4] at hy
   rcases List.mem_append.mp hy with hy | hy
   ·exact kf.len y hy
   ·rw [List.mem_singleton.mp hy]; show (x0.d.pk++[(now,0)]).length≤100; rw [pk0]; exact Nat.le_of_ble_eq_true rfl
  ·rw [e4,List.length_append,l1]; exact Nat.succ_le_succ hm
  ·show wn.exps.length≤1000; rw [e2,l2]; exact k.exps
 | @hit i x0 way hx _ _ hw =>
  have hlen:=hl x0 (List.mem_of_getElem? hx)
  refine ⟨⟨i,set_at hx _⟩,⟨fun y hy=>?_,fun y hy=>?_,?_,k.exps⟩,rfl,rfl,?_⟩
  ·rcases List.mem_or_eq_of_mem_set hy with hy | rfl
   ·exact k.ne y hy
   ·show x0.d.pk++[_]≠[]; simp
  ·rcases List.mem_or_eq_of_mem_set hy with hy | rfl
   ·exact k.len y hy
   ·show (x0.d.pk++[_]).length≤100; rw [List.length_append]; exact Nat.succ_le_succ hlen
  ·show (w.talks.set _ _).length≤100; rw [List.length_set]; exact k.many
  ·rw [hw]; split
   ·exact .inl rfl
   ·exact .inr rfl
theorem TalksOk.setT {w:Wd}{i:Nat}{x x':WT}(k:TalksOk w) (hx:w.talks[i]?=some x) (hp:x'.d.pk=x.d.pk):TalksOk (w.setT i x'):=by
 have hm:=List.mem_of_getElem? hx
 refine ⟨fun y hy=>?_,fun y hy=>?_,?_,k.exps⟩
 ·rcases List.mem_or_eq_of_mem_set hy with hy | rfl
  ·exact k.ne y hy
  ·rw [hp]; exact k.ne x hm
 ·rcases List.mem_or_eq_of_mem_set hy with hy | rfl
  ·exact k.len y hy
  ·rw [hp]; exact k.len x hm
 ·show (w.talks.set _ _).length≤100; rw [List.length_set]; exact k.many
variable {C:Cfg}(hC:CK C) {H:GHeap}{F:List Cell}
include hC
theorem t_e10 {w:Wd}{e:Ev}{km way0:Int}{ra dg sa:Addr}{digs:List Int}(o:Own H ((w.addW (e.zone,e.wire)).cells++((ra,.sdict (e.row (-1) sa .none).kv)::F))) (hs:(sa,.list (e.specs.map Spec.pv))∈F) (hsl:e.specs.length≤2)
  (hdg:H dg=some (.list (digs.map .int))) (D:EvDig digs e) (hd0:0≤e.d6) (hd8:e.d6<8) (k:TalksOk w) (hl:∀x∈w.talks,x.d.pk.length≤99) (hm:w.talks.length≤99) (hz:w.exps.length≤990) (hkm:e.isMark=decide (km=0)) :
  ExOk C 5 (scOf (stAt 80)) ((bodyOf (stAt 80)).drop 10) [("digits",.ref dg),("kind",.int e.kind),("is_kept_mark",.int km),("number",.int e.number),("world",.ref w.wa),("row",.ref ra),("way",.int way0),("spec",e.s.pv),("zone",.int e.zone),("wire",e.wire.pv),("now",.int e.now),("specs",.ref sa)] H
   fun fl _ H'=>∃seen res mk any w',StepW w e seen res mk any w'∧∃da rs,flv fl=.tup [.ref ra,.ref da]∧Own H' (w'.cells++((ra,.sdict (e.row mk sa any).kv)::(da,.list [seen,.ref rs,.none])::(rs,.list res)::F)):=by
 have k0:TalksOk (w.addW (e.zone,e.wire)):=⟨k.ne,k.len,k.many,k.exps⟩
 refine wp_ok (C:=C) (n:=5) (sc:=scOf (stAt 80)) hC.wok 300 (.exn 3 _ _ _ _) ?_
 have hd:(digs.map PV.int)[(6:Int).toNat]?=some (.int e.d6):=by show (digs.map PV.int)[6]?=_; rw [List.getElem?_map,D.d6]; rfl
 walk_at "g"
 refine subL (.inl hdg) (by decide) (by decide) hd ?_
 walk_at "g"
 refine And.intro (fun h1=>?_) (fun h1=>?_)
 ·walk_at "g"
  refine subL (.inl hdg) (by decide) (by decide) hd ?_
  walk_at "g"
  refine And.intro (fun h2=>by omega) (fun h2=>?_)
  walk_at "g"
  have c:=t_e13n hC (kind:=e.kind) (zone:=e.zone) (now:=e.now) (way:=way0) (s:=e.s) (seen:=.tup [.none,.int 64,.int 1]) o hs hsl
  refine (c.mono fun fl _ H' ⟨rs,da,hf,hO⟩=>?_).looks (subF_is rfl)
  exact ⟨_,_,_,_,_,.six h1,da,rs,hf,hO⟩
 ·walk_at "g"
  refine subL (.inl hdg) (by decide) (by decide) hd ?_
  walk_at "g"
  refine And.intro (fun h2=>?_) (fun h2=>?_)
  ·walk_at "g"
   have c:=t_meet hC (wire:=e.wire) (zone:=e.zone) (now:=e.now) o k0 hl
   refine up c rfl fun v H1 h=>?_
   refine byP fun PG kG=>?_
   obtain ⟨x,way,nw,st,w1,hM,rfl,o1⟩:=h
   obtain ⟨⟨i,hi⟩,k1,l1,a1,hway⟩:=hM.facts k0 hl hm
   refine kG ?_
   have hz1:w1.exps.length≤990:=by rw [l1]; exact hz
   walk_at "g"
   have plain:(nw&&e.isMark)=false→∀fr',subF [("kind",.int e.kind),("talk",.ref x.ad),("world",.ref w.wa),("row",.ref ra),("way",.int way),("spec",e.s.pv),("zone",.int e.zone),("now",.int e.now),("seen",seenPV x.d st way e.zone),("specs",.ref sa)] fr' →
     ExOk C 5 (scOf (stAt 80)) ((bodyOf (stAt 80)).drop 13) fr' H1 fun fl _ H'=>∃seen res mk any w',StepW w e seen res mk any w'∧∃da rs,flv fl=.tup [.ref ra,.ref da]∧Own H' (w'.cells++((ra,.sdict (e.row mk sa any).kv)::(da,.list [seen,.ref rs,.none])::(rs,.list res)::F)):=fun hb fr' l=>by
    have c:=t_e13 hC (kind:=e.kind) (zone:=e.zone) (now:=e.now) (s:=e.s) (r:=e.row (-1) sa .none) (seen:=seenPV x.d st way e.zone) rfl o1 hs hsl hi k1 hz1 hway
    rw [show w1.wa=w.wa from a1] at c
    refine (c.mono fun fl _ H' h=>?_).looks (subF_is l)
    refine byP fun PG kG=>?_
    obtain ⟨w2,res,rs,da,any,w3,hE,hA,hf,hO⟩:=h
    refine kG ?_
    have S:=StepW.meet (w:=w) (e:=e) (w2:=w2) (w3:=w3) (res:=res) (any:=any) h2 hM hi (by rw [hb]; exact hE) (by rw [hb]; exact hA)
    rw [hb] at S
    exact ⟨_,_,_,_,_,S,da,rs,hf,hO⟩
   refine And.intro (fun h3=>?_) (fun h3=>?_)
   ·walk_at "g"
    refine And.intro (fun h4=>?_) (fun h4=>?_)
    ·have hb:(nw&&e.isMark)=true:=by rw [h3,hkm,decide_eq_true h4]; rfl
     have hr:=o1.inF
     walk_at "g"
     refine setS hr (kvs':=(e.row (1000+e.number) sa .none).kv) rfl rfl ?_
     have o2:=o1.putF (g':=.sdict (e.row (1000+e.number) sa .none).kv)
     have hd2:=w_td o2 (List.mem_of_getElem? hi)
     walk_at "g"
     refine setS hd2 (kvs':=(x.marked (1000+e.number)).kv) rfl rfl ?_
     have o3:=w_setT (e':=x.marked (1000+e.number)) o2 hi rfl rfl rfl
     have hi3:(w1.setT i (x.marked (1000+e.number))).talks[i]?=some (x.marked (1000+e.number)):=set_at hi _
     walk_at "g"
     have c:=t_e13 hC (kind:=e.kind) (zone:=e.zone) (now:=e.now) (s:=e.s) (r:=e.row (1000+e.number) sa .none) (seen:=seenPV x.d st way e.zone) rfl o3 hs hsl hi3 (k1.setT hi rfl) hz1 hway
     rw [show (w1.setT i (x.marked (1000+e.number))).wa=w.wa from a1] at c
     refine (c.mono fun fl _ H' h=>?_).looks (subF_is rfl)
     refine byP fun PG kG=>?_
     obtain ⟨w2,res,rs,da,any,w3,hE,hA,hf,hO⟩:=h
     refine kG ?_
     have S:=StepW.meet (w:=w) (e:=e) (w2:=w2) (w3:=w3) (res:=res) (any:=any) h2 hM hi (by rw [hb]; exact hE) (by rw [hb]; exact hA)
     rw [hb] at S
     exact ⟨_,_,_,_,_,S,da,rs,hf,hO⟩
    ·walk_at "g"
     exact plain (by rw [hkm,decide_eq_false h4,Bool.and_false]) _ rfl
   ·walk_at "g"
    exact plain (by rw [h3]; rfl) _ rfl
  ·walk_at "g"
   have h7:e.d6=7:=by omega
   have c:=t_e13n hC (kind:=e.kind) (zone:=e.zone) (now:=e.now) (way:=way0) (s:=e.s) (seen:=.tup [.none,.int 1,.int 0]) o hs hsl
   refine (c.mono fun fl _ H' ⟨rs,da,hf,hO⟩=>?_).looks (subF_is rfl)
   exact ⟨_,_,_,_,_,.seven h7,da,rs,hf,hO⟩
end
section
theorem intIdx (ks:List Int) {k:Int}{Q:PV→Prop}(h0:0≤k) (h1:k<ks.length) (hz:ks.length≤1000) (h:∀d∈ks,Q (.int d)):optT (seqIndex? k (ks.map PV.int).length) fun j=>optT (ks.map PV.int)[j]? fun x=>ifT (decide (-(2^63)≤k)&&decide (k<2^63)) (Q x):=by
 have e:seqIndex? k (ks.map PV.int).length=some k.toNat:=by
  unfold seqIndex?
  rw [List.length_map]
  have:(if k<0 then k+ks.length else k)=k:=if_neg (Int.not_lt.mpr h0)
  simp only [this]
  rw [if_pos (by first | exact ⟨h0,h1⟩ | (simp; lia))]
 rw [e]
 have hlt:k.toNat<ks.length:=(Int.toNat_lt h0).mpr h1
 show optT (ks.map PV.int)[k.toNat]? _
 rw [List.getElem?_map,List.getElem?_eq_getElem hlt]
 exact ifT_of (by rw [decide_eq_true (Int.le_trans (by decide) h0),decide_eq_true (show k<2^63 from Int.lt_trans h1 (Int.ofNat_lt.mpr (Nat.lt_of_le_of_lt hz (by decide))))]; rfl) (h _ (List.getElem_mem hlt))
structure SpecOk (s:Spec):Prop where
 p:s.p=17∨s.p=132
 port0:0≤s.port
 port1:s.port<256
structure EvOk' (e:Ev):Prop where
 wire:WireOk e.wire
 zone:e.zone=0∨e.zone=1
 d0:0≤e.d6
 d8:e.d6<8
 s:SpecOk e.s
 specs:∀s∈e.specs,SpecOk s
 sl:e.specs.length≤2
structure WOk (w:Wd):Prop where
 k:TalksOk w
 hl:∀x∈w.talks,x.d.pk.length≤99
 hm:w.talks.length≤99
 hz:w.exps.length≤990
noncomputable def EvPost (w:Wd) (H':GHeap) (F:List Cell) (now zone number:Int) (wire:Wire) (v:PV):Prop :=
 ∃e:Ev,EvOk' e∧e.now=now∧e.zone=zone∧e.number=number∧e.wire=wire∧∃seen res mk any w',StepW w e seen res mk any w'∧∃ra sa da rs,v=.tup [.ref ra,.ref da] ∧
  Own H' (w'.cells++((ra,.sdict (e.row mk sa any).kv)::(da,.list [seen,.ref rs,.none])::(rs,.list res)::(sa,.list (e.specs.map Spec.pv))::F))
variable {C:Cfg}(hC:CK C) {H:GHeap}{F:List Cell}
include hC
theorem t_e8 {w:Wd}{now zone number kd km way mr:Int}{wire:Wire}{dg:Addr}{d0 d1 d2 d3 d4 d5 d6:Int}{s s2:Spec}(W:WOk w) (hw:WireOk wire) (hz:zone=0∨zone=1) (hs:SpecOk s) (hs2:SpecOk s2) (h0:0≤d6) (h8:d6<8)
  (o:Own H ((w.addW (zone,wire)).cells++F)) (hdg:H dg=some (.list (([d0,d1,d2,d3,d4,d5,d6]:List Int).map .int))) :
  ExOk C 5 (scOf (stAt 80)) ((bodyOf (stAt 80)).drop 8) [("spec",s.pv),("second",s2.pv),("kind",.int kd),("is_kept_mark",.int km),("digits",.ref dg),("wire",wire.pv),("zone",.int zone),("now",.int now),("number",.int number),("world",.ref w.wa),("way",.int way)] H fun fl _ H'=>EvPost w H' F now zone number wire (flv fl):=by
 have key:∀specs:List Spec,(∀s∈specs,SpecOk s)→specs.length≤2→∀sa,H sa=none→∀fr',subF [("spec",s.pv),("specs",.ref sa),("kind",.int kd),("is_kept_mark",.int km),("digits",.ref dg),("wire",wire.pv),("zone",.int zone),("now",.int now),("number",.int number),("world",.ref w.wa),("way",.int way)] fr' →
   ExOk C 5 (scOf (stAt 80)) ((bodyOf (stAt 80)).drop 9) fr' (H.set sa (.list (specs.map Spec.pv))) fun fl _ H'=>EvPost w H' F now zone number wire (flv fl):=fun specs hsp hsl sa hsa fr' l=>by
  refine ExOk.looks (fr':=[("spec",s.pv),("specs",.ref sa),("kind",.int kd),("is_kept_mark",.int km),("digits",.ref dg),("wire",wire.pv),("zone",.int zone),("now",.int now),("number",.int number),("world",.ref w.wa),("way",.int way)]) ?_ (subF_is l)
  have o1:=o.newF (g:=.list (specs.map Spec.pv)) hsa
  have hd1:=Gr.new (g:=.list (specs.map Spec.pv)) hsa _ _ hdg
  revert o1 hd1
  generalize GHeap.set H sa _=H1
  intro o1 hd1
  let e:Ev:={now,zone,wire,d6,kind:=kd,kept:=decide (d5≠3),isMark:=decide (km=0),number,s,specs}
  have E:EvOk' e:=⟨hw,hz,h0,h8,hs,hsp,hsl⟩
  have D:EvDig [d0,d1,d2,d3,d4,d5,d6] e:=⟨rfl,rfl⟩
  have fin:∀ra H2,Gr H1 H2→H2 ra=none→∀fr',subF [("digits",.ref dg),("kind",.int kd),("is_kept_mark",.int km),("number",.int number),("world",.ref w.wa),("row",.ref ra),("way",.int way),("spec",s.pv),("zone",.int zone),("wire",wire.pv),("now",.int now),("specs",.ref sa)] fr' →
    ExOk C 5 (scOf (stAt 80)) ((bodyOf (stAt 80)).drop 10) fr' (H2.set ra (.sdict (e.row (-1) sa .none).kv)) fun fl _ H'=>EvPost w H' F now zone number wire (flv fl):=fun ra H2 g hra fr' l=>by
   have o2:=(o1.gr g).newF (g:=.sdict (e.row (-1) sa .none).kv) hra
   have hd2:=Gr.new (g:=.sdict (e.row (-1) sa .none).kv) hra _ _ (g _ _ hd1)
   have c:=t_e10 hC (e:=e) (km:=km) (way0:=way) (sa:=sa) (dg:=dg) o2 (.head _) hsl hd2 D h0 h8 W.k W.hl W.hm W.hz rfl
   exact (c.mono fun fl _ H' ⟨seen,res,mk,any,w',S,da,rs,hf,hO⟩=>⟨e,E,rfl,rfl,rfl,rfl,seen,res,mk,any,w',S,ra,sa,da,rs,hf,hO⟩).looks (subF_is l)
  refine wp_ok (C:=C) (n:=5) (sc:=scOf (stAt 80)) hC.wok 300 (.exn 1 _ _ _ _) ?_
  walk_at "g"
  refine subL (.inl hd1) (by decide) (by decide) rfl ?_
  walk_at "g"
  refine And.intro (fun h1=>?_) (fun h1=>?_)
  ·walk_at "g"
   refine up (t_octets hC hw (.inr rfl)) rfl fun v H2 h=>?_
   obtain ⟨rfl,g2⟩:=h
   have hd2:=g2 _ _ hd1
   walk_at "g"
   refine subL (.inl hd2) (by decide) (by decide) rfl ?_
   walk_at "g"
   refine And.intro (fun h2=>by first | exact absurd h2 (by decide) | omega) (fun h2=>?_)
   walk_at "g"
   refine subL (.inl hd2) (by decide) (by decide) rfl ?_
   walk_at "g"
   intro ra hra
   have z:=fin ra H2 g2 hra
   rw [show e.row (-1) sa .none=⟨now,zone,byteArr (octL wire 3),8,-1,kd,sa,decide (d5≠3),.none⟩ by
    show (⟨now,zone,byteArr (octL wire (if d6=7 then 3 else 0)),if d6=6 then 64 else 8,-1,kd,sa,decide (d5≠3),.none⟩:RowD)=_
    rw [if_pos h1,if_neg h2]] at z
   walk_at "g"
   exact z _ rfl
  ·walk_at "g"
   refine up (t_octets hC hw (.inl rfl)) rfl fun v H2 h=>?_
   obtain ⟨rfl,g2⟩:=h
   have hd2:=g2 _ _ hd1
   walk_at "g"
   refine subL (.inl hd2) (by decide) (by decide) rfl ?_
   walk_at "g"
   refine And.intro (fun h2=>?_) (fun h2=>?_)
   ·walk_at "g"
    refine subL (.inl hd2) (by decide) (by decide) rfl ?_
    walk_at "g"
    intro ra hra
    have z:=fin ra H2 g2 hra
    rw [show e.row (-1) sa .none=⟨now,zone,byteArr (octL wire 0),64,-1,kd,sa,decide (d5≠3),.none⟩ by
     show (⟨now,zone,byteArr (octL wire (if d6=7 then 3 else 0)),if d6=6 then 64 else 8,-1,kd,sa,decide (d5≠3),.none⟩:RowD)=_
     rw [if_neg h1,if_pos h2]] at z
    walk_at "g"
    exact z _ rfl
   ·walk_at "g"
    refine subL (.inl hd2) (by decide) (by decide) rfl ?_
    walk_at "g"
    intro ra hra
    have z:=fin ra H2 g2 hra
    rw [show e.row (-1) sa .none=⟨now,zone,byteArr (octL wire 0),8,-1,kd,sa,decide (d5≠3),.none⟩ by
     show (⟨now,zone,byteArr (octL wire (if d6=7 then 3 else 0)),if d6=6 then 64 else 8,-1,kd,sa,decide (d5≠3),.none⟩:RowD)=_
     rw [if_neg h1,if_neg h2]] at z
    walk_at "g"
    exact z _ rfl
 refine wp_ok (C:=C) (n:=5) (sc:=scOf (stAt 80)) hC.wok 300 (.exn 1 _ _ _ _) ?_
 walk_at "g"
 refine And.intro (fun h1=>?_) (fun h1=>?_)
 ·walk_at "g"
  intro sa hsa
  walk_at "g"
  exact key [s,s2] (fun x hx=>by
   rcases List.mem_cons.mp hx with rfl | hx
   ·exact hs
   ·rw [List.mem_singleton.mp hx]; exact hs2) (Nat.le_refl 2) sa hsa _ rfl
 ·walk_at "g"
  intro sa hsa
  walk_at "g"
  exact key [] (fun x hx=>nomatch hx) (Nat.zero_le _) sa hsa _ rfl
end
section
variable {C:Cfg}(hC:CK C) {H:GHeap}{F:List Cell}
include hC
theorem t_e7 {w:Wd}{now zone number kd km way mr:Int}{wire:Wire}{dg:Addr}{d0 d1 d2 d3 d4 d5 d6:Int}{s:Spec}(W:WOk w) (hw:WireOk wire) (hz:zone=0∨zone=1) (hs:SpecOk s) (hsp:s.port≤100) (h0:0≤d6) (h8:d6<8)
  (o:Own H ((w.addW (zone,wire)).cells++F)) (hdg:H dg=some (.list (([d0,d1,d2,d3,d4,d5,d6]:List Int).map .int))) :
  ExOk C 5 (scOf (stAt 80)) ((bodyOf (stAt 80)).drop 7) [("spec",s.pv),("more",.int mr),("kind",.int kd),("is_kept_mark",.int km),("digits",.ref dg),("wire",wire.pv),("zone",.int zone),("now",.int now),("number",.int number),("world",.ref w.wa),("way",.int way)] H fun fl _ H'=>EvPost w H' F now zone number wire (flv fl):=by
 have s0:=hs.port0
 refine wp_ok (C:=C) (n:=5) (sc:=scOf (stAt 80)) hC.wok 300 (.exn 1 _ _ _ _) ?_
 walk_at "g"
 refine inIntTup (ks:=[1,2]) (boolT (fun h1=>?_) (fun h1=>?_))
 ·walk_at "g"
  exact (t_e8 hC (s:=s) (s2:=⟨s.p,s.port,s.span+5*mr,s.most+mr/2,s.nf⟩) (d0:=d0) (d1:=d1) (d2:=d2) (d3:=d3) (d4:=d4) (d5:=d5) (d6:=d6) W hw hz hs ⟨hs.p,hs.port0,hs.port1⟩ h0 h8 o hdg (mr:=mr)).looks (subF_is rfl)
 ·walk_at "g"
  exact (t_e8 hC (s:=s) (s2:=⟨s.p,s.port+2,s.span+5*mr,s.most+mr/2,s.nf⟩) (d0:=d0) (d1:=d1) (d2:=d2) (d3:=d3) (d4:=d4) (d5:=d5) (d6:=d6) W hw hz hs ⟨hs.p,(by show 0≤s.port+2; lia),(by show s.port+2<256; lia)⟩ h0 h8 o hdg (mr:=mr)).looks (subF_is rfl)
theorem t_e6 {w:Wd}{now zone number kd km way mr po ti mo pr nf:Int}{wire:Wire}{dg:Addr}{d0 d1 d2 d3 d4 d5 d6:Int}(W:WOk w) (hw:WireOk wire) (hz:zone=0∨zone=1) (h0:0≤d6) (h8:d6<8) (hpo:0≤po∧po<3) (hti:0≤ti∧ti<4) (hnf:0≤nf∧nf<5)
  (o:Own H ((w.addW (zone,wire)).cells++F)) (hdg:H dg=some (.list (([d0,d1,d2,d3,d4,d5,d6]:List Int).map .int))) :
  ExOk C 5 (scOf (stAt 80)) ((bodyOf (stAt 80)).drop 6) [("protocol",.int pr),("port",.int po),("timeout",.int ti),("most",.int mo),("nfproto",.int nf),("more",.int mr),("kind",.int kd),("is_kept_mark",.int km),("digits",.ref dg),("wire",wire.pv),("zone",.int zone),("now",.int now),("number",.int number),("world",.ref w.wa),("way",.int way)] H fun fl _ H'=>EvPost w H' F now zone number wire (flv fl):=by
 have key:∀p,(p=17∨p=132)→∀port∈([7,9,0]:List Int),∀span,∀nf,∀fr',subF [("spec",.tup [.int p,.int port,.int span,.int ((mo+1)%4),.int nf]),("more",.int mr),("kind",.int kd),("is_kept_mark",.int km),("digits",.ref dg),("wire",wire.pv),("zone",.int zone),("now",.int now),("number",.int number),("world",.ref w.wa),("way",.int way)] fr' →
   ExOk C 5 (scOf (stAt 80)) ((bodyOf (stAt 80)).drop 7) fr' H fun fl _ H'=>EvPost w H' F now zone number wire (flv fl):=fun p hp port hport span nf fr' l=>by
  have hq:0≤port∧port≤100:=(show ∀d∈([7,9,0]:List Int),0≤d∧d≤100 by decide) port hport
  exact (t_e7 hC (s:=⟨p,port,span,(mo+1)%4,nf⟩) (d0:=d0) (d1:=d1) (d2:=d2) (d3:=d3) (d4:=d4) (d5:=d5) (d6:=d6) W hw hz ⟨hp,hq.1,Int.lt_of_le_of_lt hq.2 (by decide)⟩ hq.2 h0 h8 o hdg).looks (subF_is l)
 refine wp_ok (C:=C) (n:=5) (sc:=scOf (stAt 80)) hC.wok 300 (.exn 1 _ _ _ _) ?_
 walk_at "g"
 refine And.intro (fun h1=>?_) (fun h1=>?_)
 ·walk_at "g"
  refine intIdx [7,9,0] hpo.1 hpo.2 (by decide) fun port hport=>?_
  walk_at "g"
  refine intIdx [40000,700,0,200000] hti.1 hti.2 (by decide) fun span _=>?_
  walk_at "g"
  refine intIdx [2,2,2,0,10] hnf.1 hnf.2 (by decide) fun nf _=>?_
  walk_at "g"
  exact key 132 (.inr rfl) port hport span nf _ rfl
 ·walk_at "g"
  refine intIdx [7,9,0] hpo.1 hpo.2 (by decide) fun port hport=>?_
  walk_at "g"
  refine intIdx [40000,700,0,200000] hti.1 hti.2 (by decide) fun span _=>?_
  walk_at "g"
  refine intIdx [2,2,2,0,10] hnf.1 hnf.2 (by decide) fun nf _=>?_
  walk_at "g"
  exact key 17 (.inl rfl) port hport span nf _ rfl
theorem t_event {w:Wd}{now number a b c:Int}{dr:Addr}(W:WOk w) (I:WInv w) (o:Own H (w.cells++F)) (ha:0≤a) (hb:0≤b) (hc:0≤c) (hdr:H dr=some (.list (([a,b,c]:List Int).map .int))) :
  CallOk C 6 (.ref 526) [.ref w.wa,.int now,.ref dr,.int number] H fun v H'=>∃now' zone wire,EvPost w H' F now' zone number wire v:=by
 refine fn4 hC (stAt 80) "world" "now" "draws" "number" rfl rfl rfl (by kernel_rfl) (by walk_at "f") 6 ?_
 walk_at "g"
 refine subL (.inl hdr) (by decide) (by decide) rfl ?_
 walk_at "g"
 intro b1 hb1
 have g1:=Gr.new (g:=.list (([6,8,8]:List Int).map .int)) hb1
 walk_at "g"
 refine up (t_digits hC (ks:=[6,8,8]) (n:=a) (GHeap.set_same _ _ _) (by decide) (by decide)) rfl fun v H1 h=>?_
 refine byP fun PG kG=>?_
 obtain ⟨l1,rfl,hl1,g2,_⟩:=h
 refine kG ?_
 replace g2:=g1.trans g2
 walk_at "g"
 refine ⟨_,.inl hl1,?_⟩
 walk_at "g"
 refine subL (.inl (g2 _ _ hdr)) (by decide) (by decide) rfl ?_
 walk_at "g"
 intro b2 hb2
 have g3:=Gr.new (g:=.list (([6,3,2,4,4,4,8]:List Int).map .int)) hb2
 walk_at "g"
 refine up (t_digits hC (ks:=[6,3,2,4,4,4,8]) (n:=b) (GHeap.set_same _ _ _) (by decide) (by decide)) rfl fun v H2 h=>?_
 refine byP fun PG kG=>?_
 obtain ⟨dg,rfl,hdg,g4,hdg0⟩:=h
 refine kG ?_
 have od:=(o.gr (g2.trans g3)).adoptF g4 hdg0 hdg
 replace g4:=g2.trans (g3.trans g4)
 walk_at "g"
 refine subL (.inl (g4 _ _ hdr)) (by decide) (by decide) rfl ?_
 walk_at "g"
 intro b3 hb3
 have g5:=Gr.new (g:=.list (([4,4,3,4,4,5,2,5]:List Int).map .int)) hb3
 walk_at "g"
 refine up (t_digits hC (ks:=[4,4,3,4,4,5,2,5]) (n:=c) (GHeap.set_same _ _ _) (by decide) (by decide)) rfl fun v H3 h=>?_
 refine byP fun PG kG=>?_
 obtain ⟨l3,rfl,hl3,g6,_⟩:=h
 refine kG ?_
 replace od:=od.gr (g5.trans g6)
 replace g6:=g4.trans (g5.trans g6)
 walk_at "g"
 refine ⟨_,.inl hl3,?_⟩
 walk_at "g"
 have nn:∀n m:Int,0<m→0≤n%m∧n%m<m:=fun n m hm=>⟨Int.emod_nonneg _ (by exact Int.ne_of_gt (by assumption)),Int.emod_lt_of_pos _ hm⟩
 refine intIdx [0,700,2001,14999,15001,30000,61000,120000] (nn _ 8 (by decide)).1 (nn _ 8 (by decide)).2 (by decide) fun dt _=>?_
 have o1:=od
 have D:DigOk (b%6) (b/6%3) (b/6/3%2) (b/6/3/2%4) (b/6/3/2/4%4):=⟨(nn _ 6 (by decide)).1,(nn _ 6 (by decide)).2,(nn _ 3 (by decide)).1,(nn _ 3 (by decide)).2,(nn _ 2 (by decide)).1,(nn _ 2 (by decide)).2⟩
 walk_at "g"
 refine up (t_wire hC (way:=a%6) o1 I (nn _ 8 (by decide)).1 D o1.inF) rfl fun v H4 h=>?_
 refine byP fun PG kG=>?_
 obtain ⟨⟨zone,wire,rfl,hz,hw⟩,g7⟩:=h
 refine kG ?_
 have o2:=o1.gr g7
 walk_at "g"
 refine subS (w_hd o2) rfl ?_
 walk_at "g"
 refine methL (w_wl o2) rfl ?_
 walk_at "g"
 refine c_append (w_wl o2) (by rw [List.length_map]; exact I.wl) ?_
 have o3:=w_addW (x:=(zone,wire)) o2
 have hdg3:=o3.inF
 have o4:Own _ ((w.addW (zone,wire)).cells++F):=o3.sub (List.Sublist.append_left (List.sublist_cons_self _ _) _)
 have c:=t_e6 hC (now:=now+dt) (number:=number) (kd:=c%4) (km:=c/4/4/3/4/4/5%2) (way:=a%6) (mr:=c/4/4/3/4/4/5/2%5) (po:=c/4/4%3) (ti:=c/4/4/3%4) (mo:=c/4%4) (pr:=c/4/4/3/4%4) (nf:=c/4/4/3/4/4%5) W hw hz (nn _ 8 (by decide)).1 (nn _ 8 (by decide)).2 (nn _ 3 (by decide)) (nn _ 4 (by decide)) (nn _ 5 (by decide)) o4 hdg3
 walk_at "g"
 exact (c.mono fun fl _ H' h=>⟨_,_,_,h⟩).looks (subF_is rfl)
end
section
theorem and_low {n y:Nat}(h:y<256):(n*256) &&& y=0:=by
 refine Nat.eq_of_testBit_eq fun i=>?_
 rw [Nat.testBit_and,Nat.zero_testBit,show n*256=2^8*n from Nat.mul_comm n 256,Nat.testBit_two_pow_mul]
 by_cases hi:8≤i
 ·rw [Nat.testBit_lt_two_pow (x:=y) (i:=i) (Nat.lt_of_lt_of_le h (Nat.pow_le_pow_right (n:=2) (by decide) hi)),Bool.and_false]
 ·rw [decide_eq_false hi,Bool.false_and,Bool.false_and]
theorem or_byte {n y:Int}(hn:0≤n) (h0:0≤y) (h1:y<256):Builtin.bitOr (n*256) y=n*256+y:=by
 obtain ⟨n,rfl⟩:=Int.eq_ofNat_of_zero_le hn
 obtain ⟨y,rfl⟩:=Int.eq_ofNat_of_zero_le h0
 rw [bitOr_and,bitAnd_pp (show (0:Int)≤n*256 from Int.natCast_nonneg (n*256)) h0,show ((n:Int)*256).toNat &&& (y:Int).toNat=0 from and_low (Int.ofNat_lt.mp h1)]; simp
noncomputable def numZ (ks:List Int):Int:=ks.foldl (fun n o=>n*256+o) 0
section
variable {C:Cfg}{n:Nat}{H:GHeap}{Q:PV→GHeap→Prop}{a:Addr}
theorem byte_nat {k:Int}(h0:0≤k) (h1:k<256):((k.toNat.toUInt8).toNat:Int)=k:=by
 obtain ⟨n,rfl⟩:=Int.eq_ofNat_of_zero_le h0
 exact congrArg Int.ofNat (Nat.mod_eq_of_lt (Int.ofNat_lt.mp h1))
theorem barr_ints {ks:List Int}(hk:∀k∈ks,0≤k∧k<256):(byteArr ks).toList.map (fun x=>PV.int x.toNat)=ks.map PV.int:=by
 unfold byteArr
 rw [List.map_map]
 refine List.map_congr_left fun k hm=>?_
 show PV.int _=_
 rw [byte_nat (hk k hm).1 (hk k hm).2]
theorem giB {ks:List Int}{i:Int}{k:Int}(e:H a=some (.barr (byteArr ks))) (hk:∀k∈ks,0≤k∧k<256) (hz:ks.length≤1000) (h0:0≤i) (hi:ks[i.toNat]?=some k) (q:Q (.int k) H):SubOf C H (.ref a)∧Op2Ok C n getItem (.ref a) (.int i) H Q:=by
 have hlt:=(List.getElem?_eq_some_iff.mp hi).1
 have hm:=List.mem_of_getElem? hi
 refine ⟨.barr e,gi_barr (j:=i.toNat) (x:=k.toNat.toUInt8) e (by lia) (by lia) ?_ ?_ ?_⟩
 ·unfold seqIndex?
  rw [byteArr_size]
  have:(if i<0 then i+ks.length else i)=i:=if_neg (Int.not_lt.mpr h0)
  simp only [this]
  rw [if_pos (by first | exact ⟨h0,(Int.toNat_lt h0).mp hlt⟩ | (simp; lia))]
 ·unfold byteArr
  rw [List.getElem?_toArray,List.getElem?_map,hi]; rfl
 ·rw [byte_nat (hk k hm).1 (hk k hm).2]; exact q
theorem giS {ks:List Int}{lo hi:Nat}(e:H a=some (.barr (byteArr ks))) (hab:lo≤hi) (hb:hi≤ks.length) (hz:ks.length≤1000) (q:∀c,H c=none→Q (.ref c) (H.set c (.barr (byteArr ((ks.drop lo).take (hi-lo)))))) :
  SubOf C H (.ref a)∧Op2Ok C n getItem (.ref a) (.slc (some lo) (some hi)) H Q:=by
 refine ⟨.barr e,gi_barr_slice e hab (by rw [byteArr_size]; exact hb) (by rw [byteArr_size]; exact hz) ?_⟩
 have:(((byteArr ks).toList.drop lo).take (hi-lo)).toArray=byteArr ((ks.drop lo).take (hi-lo)):=by
  unfold byteArr
  rw [List.map_take,List.map_drop]
 rw [this]; exact q
end
noncomputable def stInd (r s a c d:Bool):Int:=(if r then 1 else 0)+(if s then 2 else 0)+(if a then 4 else 0)+(if c then 8 else 0)+(if d then 512 else 0)
theorem st_or2:∀r s a c d,Builtin.bitOr (stInd r s a c d) 2=stInd r true a c d:=by decide +kernel
theorem st_or4:∀r s a c d,Builtin.bitOr (stInd r s a c d) 4=stInd r s true c d:=by decide +kernel
theorem st_or8:∀r s a c d,Builtin.bitOr (stInd r s a c d) 8=stInd r s a true d:=by decide +kernel
theorem st_and1:∀r s a c d,Builtin.bitAnd (stInd r s a c d) 1=if r then 1 else 0:=by decide +kernel
theorem st_and2:∀r s a c d,Builtin.bitAnd (stInd r s a c d) 2=if s then 2 else 0:=by decide +kernel
theorem st_and8:∀r s a c d,Builtin.bitAnd (stInd r s a c d) 8=if c then 8 else 0:=by decide +kernel
theorem st_and520:∀r s a c d,Builtin.bitAnd (stInd r s a c d) 520=(if c then 8 else 0)+(if d then 512 else 0):=by decide +kernel
end
section
structure Pk where
 ad:Addr
 dx:Addr
 da:Addr
 la:Addr
 me:Addr
 oct:List Int
 l4:Int
 off:Int
 place:Int
noncomputable def Pk.kv (p:Pk):List (Str×PV):=[("data",.ref p.da),("link",.ref p.la),("kind",.int 2048),("l4",.int p.l4),("off",.int p.off),("place",.int p.place),("meta",.ref p.me)]
noncomputable def Pk.cells (p:Pk):List Cell:=[(p.ad,.inst 80 p.dx),(p.dx,.sdict p.kv),(p.da,.barr (byteArr p.oct))]
noncomputable def Pk.looked (p:Pk) (w:Wire) (piece:Int):Pk:={p with l4:=w.p,off:=if piece=0 then 20 else -1,place:=piece*8}
variable {C:Cfg}(hC:CK C) {H:GHeap}{F:List Cell}
include hC
theorem t_number {ks:List Int}{a:Addr}(h:H a=some (.barr (byteArr ks))) (hk:∀k∈ks,0≤k∧k<256) (hz:ks.length≤4):CallOk C 1 (.ref 21) [.ref a] H (fun v H'=>v=.int (numZ ks)∧H'=H):=by
 refine fn1 hC (stAt 1) "octets" rfl rfl rfl (by kernel_rfl) (by walk_at "f") 100 ?_
 have e:=barr_ints hk
 have src:Src C H (.barr a) (.ref a) (ks.map PV.int):=by rw [←e]; exact .barr h
 walk_at "g"
 refine ⟨_,_,src,Nat.lt_of_le_of_lt (by rw [List.length_map]; exact hz) (show 4<2^62 by decide),?_⟩
 refine for_st hC.wok (σ:=Int) (fun s=>[("number",.int s)]) (fun j s H'=>H'=H∧0≤s∧s<256^j∧s=numZ (ks.take j)) 0 rfl ⟨rfl,Int.le_refl _,by decide,rfl⟩ (fun j s H' h=>h.1▸src) (fun j y s H' hy h=>?_) (fun s H' h=>?_)
 ·obtain ⟨rfl,hs,hb,he⟩:=h
  rw [List.getElem?_map] at hy
  obtain ⟨k,hk',rfl⟩:=Option.map_eq_some_iff.mp hy
  obtain ⟨k0,k1⟩:=hk k (List.mem_of_getElem? hk')
  have hj:=(List.getElem?_eq_some_iff.mp hk').1
  have hb4:(256:Int)^j≤4294967296:=(show ∀j:Nat,j<4→(256:Int)^j≤4294967296 by decide) j (by first | exact Nat.lt_of_lt_of_le hj hz | omega)
  walk_at "g"
  conv=>whnf
  rw [decide_eq_true (show s.natAbs<2^64 from Int.ofNat_lt.mp (by rw [Int.natAbs_of_nonneg hs]; exact Int.lt_trans (Int.lt_of_lt_of_le hb hb4) (by decide)))]
  walk_at "g"
  refine ⟨s*256+k,congrArg (fun z=>[some (PV.int z)]) (or_byte hs k0 k1),rfl,Int.add_nonneg (Int.mul_nonneg hs (by decide)) k0,?_,?_⟩
  ·rw [Int.pow_succ]
   have z:=Int.mul_le_mul_of_nonneg_right (Int.add_one_le_of_lt hb) (show (0:Int)≤256 by decide)
   rw [Int.add_mul,Int.one_mul] at z
   exact Int.lt_of_lt_of_le (Int.add_lt_add_left k1 _) z
  ·rw [List.take_add_one,hk']
   unfold numZ
   rw [List.foldl_append,he]; rfl
 ·obtain ⟨rfl,hs,_,he⟩:=h
  walk_at "g"
  rw [List.length_map,List.take_length] at he
  exact ⟨by rw [he]; rfl,rfl⟩
theorem t_look4 {w:Wire}{piece:Int}{a:Addr}(h:H a=some (.barr (byteArr (octL w piece)))) (hw:WireOk w) (hp:piece=0∨piece=3) :
  CallOk C 2 (.ref 28) [.ref a] H (fun v H'=>v=.tup [.int w.p,.int 20,.int (piece*8),.bool false]∧Gr H H'):=by
 have hk:=octL_ok hw hp
 have hz:(octL w piece).length≤1000:=Nat.le_of_ble_eq_true rfl
 have hz2:(byteArr (octL w piece)).size=28:=byteArr_size _
 refine fn1 hC (stAt 3) "data" rfl rfl rfl (by kernel_rfl) (by walk_at "f") 100 ?_
 walk_at "g"
 refine c_len_b h (by rw [hz2]; decide) ?_
 rw [hz2]
 walk_at "g"
 refine giB h hk hz (by decide) (k:=69) rfl ?_
 walk_at "g"
 refine giB h hk hz (by decide) (k:=69) rfl ?_
 walk_at "g"
 refine c_len_b h (by rw [hz2]; decide) ?_
 rw [hz2]
 walk_at "g"
 refine giS (lo:=6) (hi:=8) h (by decide) (Nat.le_of_ble_eq_true rfl) hz fun c hc=>?_
 have g1:=Gr.new (g:=.barr (byteArr (((octL w piece).drop 6).take 2))) hc
 have fin:∀pc:Int,(pc=0∨pc=3)→Builtin.bitAnd pc 8191*8=pc*8∧Builtin.bitAnd pc 8192=0:=fun pc h=>by rcases h with rfl | rfl<;>decide +kernel
 obtain ⟨f1,f2⟩:=fin piece hp
 walk_at "g"
 refine up (t_number hC (ks:=((octL w piece).drop 6).take 2) (GHeap.set_same _ _ _) (fun k hm=>hk k (List.mem_of_mem_drop (List.mem_of_mem_take hm))) (Nat.le_of_ble_eq_true rfl)) rfl fun v H1 h1=>?_
 obtain ⟨rfl,rfl⟩:=h1
 have num:numZ (((octL w piece).drop 6).take 2)=piece:=by
  exact Int.zero_add piece
 rw [num]
 walk_at "g"
 refine giB (g1 _ _ h) hk hz (by decide) (k:=w.p) rfl ?_
 walk_at "g"
 rcases hp with rfl | rfl
 ·walk_at "g"
  exact ⟨rfl,g1⟩
 ·walk_at "g"
  exact ⟨rfl,g1⟩
theorem t_look {p:Pk}{w:Wire}{piece:Int}(o:Own H (p.cells++F)) (hoct:p.oct=octL w piece) (hw:WireOk w) (hp:piece=0∨piece=3) :
  CallOk C 3 (.ref 91) [.ref p.ad] H (fun v H'=>v=.none∧Own H' ((p.looked w piece).cells++F)):=by
 have upd:∀{H:GHeap}{p:Pk}(o:Own H (p.cells++F)) (p':Pk),p'.ad=p.ad→p'.dx=p.dx→p'.da=p.da→p'.oct=p.oct→Own (H.set p.dx (.sdict p'.kv)) (p'.cells++F):=fun {H p} o p' a1 a2 a3 a4=>by
  have z:=Own.putF (A:=[(p.ad,.inst 80 p.dx)]) (a:=p.dx) (g:=.sdict p.kv) (g':=.sdict p'.kv) (F:=(p.da,.barr (byteArr p.oct))::F) o
  unfold Pk.cells
  rw [a1,a2,a3,a4]; exact z
 refine fn1 hC (stAt 12) "packet" rfl rfl rfl (by kernel_rfl) (by walk_at "f") 100 ?_
 have i0:=o.at_ (p.ad,.inst 80 p.dx) (.head _)
 have d0:=o.at_ (p.dx,.sdict p.kv) (.tail _ (.head _))
 walk_at "g"
 refine putI hC i0 d0 rfl (kvs':=Pk.kv {p with l4:=-1}) rfl rfl ?_
 have o1:=upd o {p with l4:=-1} rfl rfl rfl rfl
 have i1:=o1.at_ (p.ad,.inst 80 p.dx) (.head _)
 have d1:=o1.at_ (p.dx,.sdict (Pk.kv {p with l4:=-1})) (.tail _ (.head _))
 walk_at "g"
 refine putI hC i1 d1 rfl (kvs':=Pk.kv {p with l4:=-1,off:=-1}) rfl rfl ?_
 have o2:=upd o1 {p with l4:=-1,off:=-1} rfl rfl rfl rfl
 have i2:=o2.at_ (p.ad,.inst 80 p.dx) (.head _)
 have d2:=o2.at_ (p.dx,.sdict (Pk.kv {p with l4:=-1,off:=-1})) (.tail _ (.head _))
 walk_at "g"
 refine putI hC i2 d2 rfl (kvs':=Pk.kv {p with l4:=-1,off:=-1,place:=0}) rfl rfl ?_
 have o3:=upd o2 {p with l4:=-1,off:=-1,place:=0} rfl rfl rfl rfl
 have i3:=o3.at_ (p.ad,.inst 80 p.dx) (.head _)
 have d3:=o3.at_ (p.dx,.sdict (Pk.kv {p with l4:=-1,off:=-1,place:=0})) (.tail _ (.head _))
 have b3:=o3.at_ (p.da,.barr (byteArr p.oct)) (.tail _ (.tail _ (.head _)))
 rw [hoct] at b3
 walk_at "g"
 refine getI hC i3 d3 rfl rfl rfl ?_
 walk_at "g"
 refine getI hC i3 d3 rfl rfl rfl ?_
 walk_at "g"
 refine up (t_look4 hC b3 hw hp) rfl fun v H4 h=>?_
 obtain ⟨rfl,g⟩:=h
 have o4:=o3.gr g
 walk_at "g"
 refine putI hC (g _ _ i3) (g _ _ d3) rfl (kvs':=Pk.kv {p with l4:=w.p,off:=-1,place:=0}) rfl rfl ?_
 have o5:=upd o4 {p with l4:=w.p,off:=-1,place:=0} rfl rfl rfl rfl
 have i5:=o5.at_ (p.ad,.inst 80 p.dx) (.head _)
 have d5:=o5.at_ (p.dx,.sdict (Pk.kv {p with l4:=w.p,off:=-1,place:=0})) (.tail _ (.head _))
 walk_at "g"
 refine putI hC i5 d5 rfl (kvs':=Pk.kv {p with l4:=w.p,off:=-1,place:=piece*8}) rfl rfl ?_
 have o6:=upd o5 {p with l4:=w.p,off:=-1,place:=piece*8} rfl rfl rfl rfl
 have i6:=o6.at_ (p.ad,.inst 80 p.dx) (.head _)
 have d6:=o6.at_ (p.dx,.sdict (Pk.kv {p with l4:=w.p,off:=-1,place:=piece*8})) (.tail _ (.head _))
 have b6:=o6.at_ (p.da,.barr (byteArr p.oct)) (.tail _ (.tail _ (.head _)))
 have hz2:(byteArr p.oct).size=28:=by rw [hoct]; exact byteArr_size _
 walk_at "g"
 refine And.intro (fun h1=>?_) (fun h1=>?_)
 ·walk_at "g"
  refine getI hC i6 d6 rfl rfl rfl ?_
  walk_at "g"
  refine c_len_b b6 (by rw [hz2]; decide) ?_
  rw [hz2]
  walk_at "g"
  refine putI hC i6 d6 rfl (kvs':=Pk.kv (p.looked w piece)) (by
   have:piece=0:=by lia
   subst this; rfl) rfl ?_
  have o7:=upd o6 (p.looked w piece) rfl rfl rfl rfl
  walk_at "g"
  exact ⟨rfl,o7⟩
 ·walk_at "g"
  refine ⟨rfl,?_⟩
  have:p.looked w piece={p with l4:=w.p,off:=-1,place:=piece*8}:=by
   unfold Pk.looked
   rw [if_neg (by lia)]
  rw [this]; exact o6
end
theorem at_K {C:Cfg}(hC:CK C) {h:Heap}(X:C.K.In h) {a:Addr}{o:Obj}(e:(KL C.w.params).lookup a=some o):h.get? a=some o:=X a o (by rw [hC.k]; exact e)
theorem wp_of_eq {α:Type}{M:Model}{A:Around}{Q:α→Shared→Prop}{E:Value→Shared→Prop}{s:Shared}{t t':Sem α}(h:wpAny M A t' Q E s) (e:t=t'):wpAny M A t Q E s:=e▸h
noncomputable def makeB (K:Frag) (cl fI:Addr):Bool:=makesIn K cl&&findIn K (.ref cl) "__init__" == some (some (.ref fI))&&typeIn K (.ref fI) == some (.type "function")
theorem all_make (P:Params):([(80,77),(123,120),(145,142),(262,259),(408,405)]:List (Nat×Nat)).all (fun p=>makeB (KL P) p.1 p.2)=true:=by kernel_rfl
theorem makeable {C:Cfg}(hC:CK C) {p:Nat×Nat}(h:p∈([(80,77),(123,120),(145,142),(262,259),(408,405)]:List (Nat×Nat))):Makeable C p.1 p.2:=by
 have z:=List.all_eq_true.mp (all_make C.w.params) p h
 rw [←hC.k] at z
 unfold makeB at z
 simp only [Bool.and_eq_true,beq_iff_eq] at z
 exact ⟨z.1.1,z.1.2,z.2⟩
theorem Own.snd {H:GHeap}{c d:Cell}{L:List Cell}(o:Own H (c::d::L)):H d.1=some d.2:=o.at_ _ (.tail _ (.head _))
theorem Own.put2 {H:GHeap}{c:Cell}{a:Addr}{g g':GObj}{L:List Cell}(o:Own H (c::(a,g)::L)):Own (H.set a g') (c::(a,g')::L):=Own.putF (A:=[c]) o
theorem Own.putN {C:Cfg}{H:GHeap}{F:List Cell}{x dx cl:Addr}{kvs kvs':List (Str×PV)}{name:Str}{v:PV}{Q:GHeap→Prop}(o:Own H ((x,.inst cl dx)::(dx,.sdict kvs)::F)) (hC:CK C) (h3:atOk cl name=true) (h4:putD name v kvs=kvs') (h5:isSmall 500 kvs=true)
  (q:∀H',Own H' ((x,.inst cl dx)::(dx,.sdict kvs')::F)→Q H'):∃H',PutA C H (.ref x) name v H'∧Q H':=putI hC o.hd o.snd h3 h4 h5 (q _ o.put2)
theorem Own.putA {C:Cfg}{H:GHeap}{F:List Cell}{x dx cl:Addr}{kvs:List (Str×PV)}{name:Str}{v:PV}{Q:GHeap→Prop}(o:Own H ((x,.inst cl dx)::(dx,.sdict kvs)::F)) (hC:CK C) (h3:atOk cl name=true) (h4:putD name v kvs=kvs++[(name,v)]) (h5:isSmall 500 kvs=true)
  (q:∀H',Own H' ((x,.inst cl dx)::(dx,.sdict (kvs++[(name,v)]))::F)→Q H'):∃H',PutA C H (.ref x) name v H'∧Q H':=o.putN hC h3 h4 h5 q
theorem Own.kv {H:GHeap}{F:List Cell}{x dx cl:Addr}{kvs kvs':List (Str×PV)}(o:Own H ((x,.inst cl dx)::(dx,.sdict kvs)::F)) (e:kvs=kvs'):Own H ((x,.inst cl dx)::(dx,.sdict kvs')::F):=e▸o
theorem Own.dict0 {C:Cfg}{n:Nat}{sc:Scope}{fr:Vars}{pos:Pos}{H:GHeap}{F:List Cell}{c1 c2:Cell}{Q:PV→GHeap→Prop}(o:Own H (c1::c2::F)) {g:GObj}(hg:g=.sdict []∨g=.idict []∨g=.tdict [])
  (q:∀a H',Own H' (c1::c2::(a,g)::F)→Q (.ref a) H'):EvOk C n sc (.Dict [] [] pos) fr H Q:=ev_dict0 hg fun a e=>q a _ (Own.newF (A:=[c1,c2]) o e)
theorem i_talk {C:Cfg}(hC:CK C) {H:GHeap}{F:List Cell}{x dx:Addr}{n t r z:PV}(o:Own H ((x,.inst 123 dx)::(dx,.sdict [])::F)) :
  CodeOk C 1 (.ref 120) [.ref x,n,t,r,z] H (fun v H'=>v=.none∧Own H' ((x,.inst 123 dx)::(dx,.sdict [("number",n),("original",t),("reply",r),("zone",z),("until",.int 0),("since",.int 0),("mark",.int 0),("status",.int 0),("state",.int 0),("sides",.none),("master",.int 0)])::F)):=by
 refine fn_code hC (metAt 17 0) (dv:=[]) (dx:=[]) (fr:=[("self",.ref x),("number",n),("original",t),("reply",r),("zone",z)]) rfl rfl rfl (by kernel_rfl) (fun s X v0 v1 v2 v3 v4=>BindsTo.of_eq (by kernel_rfl)) (fun _=>.nil) ?_
 refine wp_ok (C:=C) (n:=0) (sc:=scOf (metAt 17 0)) hC.wok 300 (.ex _ _ _ _) ?_
 iterate 11 (walk_at "g"; refine o.putA hC rfl (by kernel_rfl) (by kernel_rfl) fun H o=>?_)
 walk_at "g"
 exact ⟨rfl,o⟩
theorem i_expect {C:Cfg}(hC:CK C) {H:GHeap}{F:List Cell}{x dx:Addr}{m t z u:PV}(o:Own H ((x,.inst 262 dx)::(dx,.sdict [])::F)) :
  CodeOk C 1 (.ref 259) [.ref x,m,t,z,u] H (fun v H'=>v=.none∧Own H' ((x,.inst 262 dx)::(dx,.sdict [("master",m),("t",t),("zone",z),("until",u)])::F)):=by
 refine fn_code hC (metAt 42 0) (dv:=[]) (dx:=[]) (fr:=[("self",.ref x),("master",m),("t",t),("zone",z),("until",u)]) rfl rfl rfl (by kernel_rfl) (fun s X v0 v1 v2 v3 v4=>BindsTo.of_eq (by kernel_rfl)) (fun _=>.nil) ?_
 refine wp_ok (C:=C) (n:=0) (sc:=scOf (metAt 42 0)) hC.wok 300 (.ex _ _ _ _) ?_
 iterate 4 (walk_at "g"; refine o.putA hC rfl (by kernel_rfl) (by kernel_rfl) fun H o=>?_)
 walk_at "g"
 exact ⟨rfl,o⟩
structure Sc where
 ad:Addr
 dx:Addr
 packet:PV
 now:Int
 talk:PV
 state:Int
 isReply:Int
 talks:PV
 fields:PV
 a:Addr
 b:Addr
 c:Addr
 d:Addr
 e:Addr
 f:Addr
 g:Addr
 h:Addr
 i:Addr
noncomputable def Sc.kv (s:Sc):List (Str×PV):=[("packet",s.packet),("now",.int s.now),("hook",.str "input"),("talk",s.talk),("state",.int s.state),("is_reply",.int s.isReply),("talks",s.talks),("sets",.ref s.a),("objects",.ref s.b),("fields",s.fields),("readers",.ref s.c),("doers",.ref s.d),("ops",.ref s.e),("tools",.ref s.f),("order",.str "little"),("log",.ref s.g),("replies",.ref s.h),("steps",.none),("homes",.ref s.i)]
noncomputable def Sc.cells (s:Sc):List Cell:=[(s.ad,.inst 408 s.dx),(s.dx,.sdict s.kv)]
theorem bind_scene {C:Cfg}(hC:CK C) {q:Str}{m c:Value}(s:Shared) (v0 v1 v2 v3:Value) (X:C.K.In s.heap) :
  BindsTo s (fnOf (metAt 61 0) q (.ref 398) m c) ⟨[v0,v1,v2,v3],[]⟩ [("self",v0),("packet",v1),("fields",v2),("now",v3),("hook",.str "input" 820)]:=by
 intro M A E Q hq
 unfold bindArgs
 refine wpAny_bind (wpAny_pure ?_)
 refine wpAny_bind (wpAny_seqItems (at_K hC X (a:=398) rfl) rfl ?_)
 refine wp_of_eq (wpAny_pure hq) ?_
 kernel_rfl
theorem bind_book {C:Cfg}(hC:CK C) {q:Str}{m c:Value}(s:Shared) (v0 v1:Value) (X:C.K.In s.heap) :
  BindsTo s (fnOf (metAt 18 0) q (.ref 135) m c) ⟨[v0,v1],[]⟩ [("self",v0),("most",v1),("seed",.int 0 383),("tries",.int 128 384)]:=by
 intro M A E Q hq
 unfold bindArgs
 refine wpAny_bind (wpAny_pure ?_)
 refine wpAny_bind (wpAny_seqItems (at_K hC X (a:=135) rfl) rfl ?_)
 refine wp_of_eq (wpAny_pure hq) ?_
 kernel_rfl
theorem i_scene {C:Cfg}(hC:CK C) {H:GHeap}{F:List Cell}{x dx:Addr}{p fl:PV}{nw:Int}(o:Own H ((x,.inst 408 dx)::(dx,.sdict [])::F)) :
  CodeOk C 1 (.ref 405) [.ref x,p,fl,.int nw] H (fun v H'=>v=.none∧∃s:Sc,s.ad=x∧s.dx=dx∧s.packet=p∧s.now=nw∧s.talk=.none∧s.state=1∧s.isReply=0∧s.talks=.none∧s.fields=fl∧Own H' (s.cells++F)):=by
 refine fn_code hC (metAt 61 0) (dv:=[.str "input" 820]) (dx:=[.str "input"]) (fr:=[("self",.ref x),("packet",p),("fields",fl),("now",.int nw),("hook",.str "input")]) rfl rfl rfl (by kernel_rfl) (fun s X v0 v1 v2 v3=>bind_scene hC s v0 v1 v2 v3 X) (fun _=>.cons (.str _ _) .nil) ?_
 refine wp_ok (C:=C) (n:=0) (sc:=scOf (metAt 61 0)) hC.wok 300 (.ex _ _ _ _) ?_
 iterate 7 (walk_at "g"; refine o.putA hC rfl (by kernel_rfl) (by kernel_rfl) fun H o=>?_)
 walk_at "g"
 refine o.dict0 (g:=.sdict []) (.inl rfl) fun a H o=>?_
 walk_at "g"
 refine o.putA hC rfl (by kernel_rfl) (by kernel_rfl) fun H o=>?_
 walk_at "g"
 refine o.dict0 (g:=.sdict []) (.inl rfl) fun b H o=>?_
 iterate 2 (walk_at "g"; refine o.putA hC rfl (by kernel_rfl) (by kernel_rfl) fun H o=>?_)
 walk_at "g"
 refine o.dict0 (g:=.sdict []) (.inl rfl) fun c H o=>?_
 walk_at "g"
 refine o.putA hC rfl (by kernel_rfl) (by kernel_rfl) fun H o=>?_
 walk_at "g"
 refine o.dict0 (g:=.sdict []) (.inl rfl) fun d H o=>?_
 walk_at "g"
 refine o.putA hC rfl (by kernel_rfl) (by kernel_rfl) fun H o=>?_
 walk_at "g"
 refine o.dict0 (g:=.sdict []) (.inl rfl) fun e H o=>?_
 walk_at "g"
 refine o.putA hC rfl (by kernel_rfl) (by kernel_rfl) fun H o=>?_
 walk_at "g"
 refine o.dict0 (g:=.sdict []) (.inl rfl) fun f H o=>?_
 iterate 2 (walk_at "g"; refine o.putA hC rfl (by kernel_rfl) (by kernel_rfl) fun H o=>?_)
 walk_at "g"
 intro g hg
 replace o:=Own.newF (A:=[_,_]) (g:=.list []) o hg
 walk_at "g"
 refine o.putA hC rfl (by kernel_rfl) (by kernel_rfl) fun H o=>?_
 walk_at "g"
 intro h hh
 replace o:=Own.newF (A:=[_,_]) (g:=.list []) o hh
 iterate 2 (walk_at "g"; refine o.putA hC rfl (by kernel_rfl) (by kernel_rfl) fun H o=>?_)
 walk_at "g"
 refine o.dict0 (g:=.sdict []) (.inl rfl) fun i H o=>?_
 walk_at "g"
 refine o.putA hC rfl (by kernel_rfl) (by kernel_rfl) fun H o=>?_
 walk_at "g"
 refine ⟨rfl,⟨x,dx,p,nw,.none,1,0,.none,fl,a,b,c,d,e,f,g,h,i⟩,rfl,rfl,rfl,rfl,rfl,rfl,rfl,rfl,rfl,?_⟩
 exact (o.kv (kvs':=Sc.kv ⟨x,dx,p,nw,.none,1,0,.none,fl,a,b,c,d,e,f,g,h,i⟩) (by kernel_rfl)).sub (List.Sublist.append_left (List.sublist_append_right [_,_,_,_,_,_,_,_,_] F) [_,_])
theorem i_book {C:Cfg}(hC:CK C) {H:GHeap}{F:List Cell}{x dx:Addr}  (o:Own H ((x,.inst 145 dx)::(dx,.sdict [])::F)) :
  CodeOk C 1 (.ref 142) [.ref x,.int 64] H (fun v H'=>v=.none∧∃tb tk tr xl fl,Own H' ((x,.inst 145 dx)::(dx,.sdict [("most",.int 64),("seed",.int 0),("tries",.int 128),("table",.ref tb),("talks",.ref tk),("last",.int 0),("trackers",.ref tr),("expects",.ref xl),("flows",.ref fl),("is_loose",.bool true)])::(fl,.idict [])::(xl,.list [])::(tr,.idict [])::(tk,.idict [])::(tb,.tdict [])::F)):=by
 refine fn_code hC (metAt 18 0) (dv:=[.int 0 383,.int 128 384]) (dx:=[.int 0,.int 128]) (fr:=[("self",.ref x),("most",.int 64),("seed",.int 0),("tries",.int 128)]) rfl rfl rfl (by kernel_rfl) (fun s X v0 v1=>bind_book hC s v0 v1 X) (fun _=>.cons (.int _ _) (.cons (.int _ _) .nil)) ?_
 refine wp_ok (C:=C) (n:=0) (sc:=scOf (metAt 18 0)) hC.wok 300 (.ex _ _ _ _) ?_
 iterate 3 (walk_at "g"; refine o.putA hC rfl (by kernel_rfl) (by kernel_rfl) fun H o=>?_)
 walk_at "g"
 refine o.dict0 (g:=.tdict []) (.inr (.inr rfl)) fun tb H o=>?_
 walk_at "g"
 refine o.putA hC rfl (by kernel_rfl) (by kernel_rfl) fun H o=>?_
 walk_at "g"
 refine o.dict0 (g:=.idict []) (.inr (.inl rfl)) fun tk H o=>?_
 iterate 2 (walk_at "g"; refine o.putA hC rfl (by kernel_rfl) (by kernel_rfl) fun H o=>?_)
 walk_at "g"
 refine o.dict0 (g:=.idict []) (.inr (.inl rfl)) fun tr H o=>?_
 walk_at "g"
 refine o.putA hC rfl (by kernel_rfl) (by kernel_rfl) fun H o=>?_
 walk_at "g"
 intro xl hxl
 replace o:=Own.newF (A:=[_,_]) (g:=.list []) o hxl
 walk_at "g"
 refine o.putA hC rfl (by kernel_rfl) (by kernel_rfl) fun H o=>?_
 walk_at "g"
 refine o.dict0 (g:=.idict []) (.inr (.inl rfl)) fun fl H o=>?_
 iterate 2 (walk_at "g"; refine o.putA hC rfl (by kernel_rfl) (by kernel_rfl) fun H o=>?_)
 walk_at "g"
 exact ⟨rfl,tb,tk,tr,xl,fl,o⟩
section
variable {C:Cfg}(hC:CK C) {H:GHeap}{F:List Cell}
include hC
theorem t_meta:CallOk C 1 (.ref 63) [] H (fun v H'=>∃b,v=.ref b∧Gr H H'):=by
 refine fn0 hC (stAt 10) rfl rfl rfl (by kernel_rfl) (by kernel_rfl) 100 ?_
 walk_at "g"
 refine ev_dict0 (g:=.sdict []) (.inl rfl) fun b hb=>?_
 walk_at "g"
 refine ⟨_,_,.tup ((["mark", "priority", "iif", "oif", "iifname", "oifname", "pkttype"]:List Str).map PV.str),Nat.lt_of_lt_of_le (show 7<8 by decide) (by decide),?_⟩
 refine for_st hC.wok (σ:=Unit) (fun _=>[("out",.ref b)]) (fun j _ H'=>Gr H H'∧∃kvs,H' b=some (.sdict kvs)∧kvs.length≤j) () rfl ⟨Gr.new hb,[],GHeap.set_same _ _ _,Nat.le_refl _⟩ (fun _ _ _ _=>.tup _) (fun j y _ H1 hy h1=>?_) (fun _ H1 h1=>?_)
 ·obtain ⟨g,kvs,hk,hl⟩:=h1
  rw [List.getElem?_map] at hy
  obtain ⟨a,ha,rfl⟩:=Option.map_eq_some_iff.mp hy
  have hj:=(List.getElem?_eq_some_iff.mp ha).1
  walk_at "g"
  refine si_sdict hk rfl (Nat.le_trans hl (Nat.le_trans (Nat.le_of_lt hj) (by decide))) ?_
  walk_at "g"
  exact ⟨(),rfl,g.put hb _,_,GHeap.set_same _ _ _,Nat.le_trans (putD_length_le _ _ _) (Nat.succ_le_succ hl)⟩
 ·obtain ⟨g,kvs,hk,hl⟩:=h1
  have hl':kvs.length≤7:=hl
  walk_at "g"
  refine si_sdict hk rfl (Nat.le_trans hl' (by decide)) ?_
  walk_at "g"
  refine si_sdict (GHeap.set_same _ _ _) rfl (Nat.le_trans (putD_length_le _ _ _) (Nat.le_trans (Nat.succ_le_succ hl') (by decide))) ?_
  walk_at "g"
  exact ⟨b,rfl,(g.put hb _).put hb _⟩
omit hC in
theorem exN_wp (hW:WOK C) {n:Nat}{sc:Scope}{ss:List Stmt}{fr:Vars}{Q:Fl→Vars→GHeap→Prop}(h:wp C n sc 300 (.ex ss fr H Q)):ExN C n sc ss fr H Q:=(wp_ok (C:=C) (n:=n) (sc:=sc) hW _ (.ex _ _ _ _) h:ExOk C n sc ss fr H Q).calm
theorem i_packet {x dx:Addr}{oct:List Int}(hz:oct.length≤1000) (o:Own H ((x,.inst 80 dx)::(dx,.sdict [])::F)) :
  CodeN C 2 (.ref 77) [.ref x,.bytes (byteArr oct),.int 2048,.bytes (Array.mk [])] H (fun v H'=>v=.none∧∃p:Pk,p.ad=x∧p.oct=oct∧Own H' (p.cells++F)):=by
 refine fn_codeN hC (metAt 11 0) (dv:=[]) (dx:=[]) (fr:=[("self",.ref x),("data",.bytes (byteArr oct)),("kind",.int 2048),("link",.bytes (Array.mk []))]) rfl rfl rfl (by kernel_rfl) (fun s X v0 v1 v2 v3=>BindsTo.of_eq (by kernel_rfl)) (fun _=>.nil) ?_
 have W:∀j,wp C 1 (scOf (metAt 11 0)) 300 j→j.Ok C 1 (scOf (metAt 11 0)):=wp_ok hC.wok 300
 refine exN_cons (stN_assign (evN_call (W (.ev _ _ _ _) ?_) (by with_unfolding_all rfl) (by with_unfolding_all rfl)) (by with_unfolding_all rfl) (fun _=>by with_unfolding_all rfl) (fun _=>by with_unfolding_all rfl))
 walk_at "g"
 refine ⟨trivial,evsN_cons (EvOk.calm (W (.ev _ _ _ _) ?_)) (by with_unfolding_all rfl)⟩
 walk_at "g"
 refine W (.evs _ _ _ _) ?_
 walk_at "g"
 refine c_bytearray (by rw [byteArr_size]; exact hz) fun da hda=>?_
 replace o:=Own.newF (A:=[_,_]) (g:=.barr (byteArr oct)) o hda
 refine W (.as _ _ _ _ _) ?_
 walk_at "g"
 refine o.putA hC rfl (by kernel_rfl) (by kernel_rfl) fun H o=>?_
 refine exN_cons (stN_assign (evN_call (W (.ev _ _ _ _) ?_) (by with_unfolding_all rfl) (by with_unfolding_all rfl)) (by with_unfolding_all rfl) (fun _=>by with_unfolding_all rfl) (fun _=>by with_unfolding_all rfl))
 walk_at "g"
 refine ⟨trivial,evsN_cons (EvOk.calm (W (.ev _ _ _ _) ?_)) (by with_unfolding_all rfl)⟩
 walk_at "g"
 refine W (.evs _ _ _ _) ?_
 walk_at "g"
 refine c_bytearray (by decide) fun la hla=>?_
 replace o:=Own.newF (A:=[_,_]) (g:=.barr (Array.mk [])) o hla
 refine W (.as _ _ _ _ _) ?_
 walk_at "g"
 refine o.putA hC rfl (by kernel_rfl) (by kernel_rfl) fun H o=>?_
 refine exN_wp hC.wok ?_
 walk_at "g"
 refine o.putA hC rfl (by kernel_rfl) (by kernel_rfl) fun H o=>?_
 walk_at "g"
 refine o.putA hC rfl (by kernel_rfl) (by kernel_rfl) fun H o=>?_
 walk_at "g"
 refine o.putA hC rfl (by kernel_rfl) (by kernel_rfl) fun H o=>?_
 walk_at "g"
 refine o.putA hC rfl (by kernel_rfl) (by kernel_rfl) fun H o=>?_
 walk_at "g"
 refine up (t_meta hC) rfl fun v H1 h=>?_
 obtain ⟨me,rfl,g⟩:=h
 replace o:=o.gr g
 walk_at "g"
 refine o.putA hC rfl (by kernel_rfl) (by kernel_rfl) fun H o=>?_
 walk_at "g"
 refine ⟨rfl,⟨x,dx,da,la,me,oct,-1,-1,0⟩,rfl,rfl,?_⟩
 exact o.sub (List.Sublist.cons₂ _ (List.Sublist.cons₂ _ (List.sublist_cons_self _ _)))
end
section
variable {C:Cfg}(hC:CK C) {H:GHeap}{F:List Cell}
noncomputable def Sc.put (s:Sc) (tk:PV) (st r:Int):Sc:={s with talk:=tk,state:=st,isReply:=r}
theorem CodeN.mono {C:Cfg}{n:Nat}{f:PV}{args:List PV}{H:GHeap}{Q Q':PV→GHeap→Prop}(h:CodeN C n f args H Q) (q:∀x H',Q x H'→Q' x H'):CodeN C n f args H Q':=⟨fun A kp s v vs hA S a b =>
 codeN_mono (h.run A kp s v vs hA S a b) fun _ _ ⟨u,e,x,H',a,c,d⟩=>⟨u,e,x,H',a,c,q _ _ d⟩⟩
theorem numZ_addr {a:Int}(h0:0≤a) (h1:a<2^32):numZ (addrL a)=a:=by
 show (((0*256+a/2^24)*256+a/65536%256)*256+a/256%256)*256+a%256=a
 rw [show a/2^24=a/256/256/256 from by rw [Int.ediv_ediv_of_nonneg (by decide),Int.ediv_ediv_of_nonneg (by decide)]; rfl,show a/65536=a/256/256 from by rw [Int.ediv_ediv_of_nonneg (by decide)]; rfl,Int.zero_mul,Int.zero_add,Int.ediv_mul_add_emod,Int.ediv_mul_add_emod,Int.ediv_mul_add_emod]
theorem key_back (w:Wire):w.back.key=w.key.inv:=by
 unfold Wire.key Wire.back T6.inv
 dsimp only
 split<;>rfl
theorem key_p (w:Wire):w.key.p=w.p:=by unfold Wire.key; split<;>rfl
theorem Own.mk2 {H:GHeap}{L:List Cell}{cl dx x:Addr}(o:Own H L) (h1:H dx=none) (h2:(H.set dx (.sdict [])) x=none):Own ((H.set dx (.sdict [])).set x (.inst cl dx)) ((x,.inst cl dx)::(dx,.sdict [])::L):=(o.new h1).new h2
theorem bind_pk {C:Cfg}(hC:CK C) {q:Str}{m c:Value}(s:Shared) (v:Value) (X:C.K.In s.heap) :
  BindsTo s (fnOf (stAt 13) q (.ref 92) m c) ⟨[v],[]⟩ [("octets",v),("kind",.int 2048 305),("link",.bytes (Array.mk []) 306)]:=by
 intro M A E Q hq
 unfold bindArgs
 refine wpAny_bind (wpAny_pure ?_)
 refine wpAny_bind (wpAny_seqItems (at_K hC X (a:=92) rfl) rfl ?_)
 refine wp_of_eq (wpAny_pure hq) ?_
 kernel_rfl
include hC
theorem t_packet {w:Wire}{piece:Int}(o:Own H F) (hw:WireOk w) (hp:piece=0∨piece=3) :
  CallN C 5 (.ref 99) [.bytes (byteArr (octL w piece))] H (fun v H'=>∃p:Pk,v=.ref p.ad∧p.oct=octL w piece∧Own H' ((p.looked w piece).cells++F)):=by
 refine CodeN.call ?_
 refine fn_codeN hC (stAt 13) (n:=4) (dv:=[.int 2048 305,.bytes (Array.mk []) 306]) (dx:=[.int 2048,.bytes (Array.mk [])]) (fr:=[("octets",.bytes (byteArr (octL w piece))),("kind",.int 2048),("link",.bytes (Array.mk []))]) rfl rfl rfl (by kernel_rfl) (fun s X v0=>bind_pk hC s v0 X) (fun _=>.cons (.int _ _) (.cons (.bytes _ _) .nil)) ?_
 have W:∀j,wp C 4 (scOf (stAt 13)) 300 j→j.Ok C 4 (scOf (stAt 13)):=wp_ok hC.wok 300
 refine exN_cons (stN_assign (evN_call (W (.ev _ _ _ _) ?_) (by with_unfolding_all rfl) (by with_unfolding_all rfl)) (by with_unfolding_all rfl) (fun _=>by with_unfolding_all rfl) (fun _=>by with_unfolding_all rfl))
 walk_at "g"
 refine ⟨fnKnown_is hC.wok rfl,evsN_cons (EvOk.calm (W (.ev _ _ _ _) ?_)) (by with_unfolding_all rfl)⟩
 walk_at "g"
 refine W (.evs _ _ _ _) ?_
 walk_at "g"
 refine (CodeN.call (call_classN (n:=3) (makeable hC (p:=(80,77)) (.head _)) fun x dx h1 h2=>?_)).le (by decide)
 have z:=i_packet hC (oct:=octL w piece) (Nat.le_of_ble_eq_true rfl) (o.mk2 (cl:=80) h1 h2)
 refine CodeN.mono (CodeN.le (n:=3) z (by decide)) fun v H1 h=>?_
 obtain ⟨rfl,p,rfl,hoct,o1⟩:=h
 refine ⟨rfl,?_⟩
 refine W (.as _ _ _ _ _) ?_
 walk_at "g"
 refine exN_wp hC.wok ?_
 walk_at "g"
 refine up (t_look hC o1 hoct hw hp) rfl fun v H2 h=>?_
 obtain ⟨rfl,o2⟩:=h
 walk_at "g"
 exact ⟨p,rfl,hoct,o2⟩
theorem t_family {p:Pk}(o:Own H (p.cells++F)):CallOk C 1 (.ref 106) [.ref p.ad] H (fun v H'=>v=.int 2∧H'=H):=by
 have i0:=o.at_ (p.ad,.inst 80 p.dx) (.head _)
 have d0:=o.at_ (p.dx,.sdict p.kv) (.tail _ (.head _))
 refine fn1 hC (stAt 14) "packet" rfl rfl rfl (by kernel_rfl) (by walk_at "f") 100 ?_
 walk_at "g"
 refine getI hC i0 d0 rfl rfl rfl ?_
 walk_at "g"
 exact ⟨rfl,rfl⟩
theorem t_icmp {p:Int}(hp:p=17∨p=132):CallOk C 1 (.ref 156) [.int 2,.int p] H (fun v H'=>v=.bool false∧H'=H):=by
 refine fn2 hC (stAt 19) "nfproto" "protocol" rfl rfl rfl (by kernel_rfl) (by walk_at "f") 100 ?_
 rcases hp with rfl | rfl
 ·walk_at "g"
  exact ⟨rfl,rfl⟩
 ·walk_at "g"
  exact ⟨rfl,rfl⟩
omit hC in
theorem pk_slice {w:Wire}{a:Addr}{n lo hi:Nat}{Q:PV→GHeap→Prop}(h:H a=some (.barr (byteArr (octL w 0)))) (hab:lo≤hi) (hb:hi≤28) (q:∀c,H c=none→Q (.ref c) (H.set c (.barr (byteArr (((octL w 0).drop lo).take (hi-lo)))))) :
  SubOf C H (.ref a)∧Op2Ok C n getItem (.ref a) (.slc (some lo) (some hi)) H Q:=giS h hab hb (Nat.le_of_ble_eq_true rfl) q
theorem t_ports {w:Wire}{a:Addr}(h:H a=some (.barr (byteArr (octL w 0)))) (hw:WireOk w):CallOk C 2 (.ref 170) [.ref a,.int 2,.int w.p,.int 20] H (fun v H'=>v=.tup [.int w.key.b,.int w.key.d]∧Gr H H'):=by
 have hk:=octL_ok hw (.inl rfl)
 have hz2:(byteArr (octL w 0)).size=28:=byteArr_size _
 refine fn4 hC (stAt 21) "octets" "nfproto" "protocol" "off" rfl rfl rfl (by kernel_rfl) (by walk_at "f") 100 ?_
 walk_at "g"
 refine And.intro (fun h1=>?_) (fun h1=>?_)
 ·exact absurd h1 (by rcases hw.p with z | z<;>rw [z]<;>decide)
 walk_at "g"
 refine And.intro (fun h2=>?_) (fun h2=>?_)
 ·have hkey:w.key=⟨w.p,w.s,w.sp,w.t,w.dp⟩:=if_pos h2
  walk_at "g"
  refine c_len_b h (by rw [hz2]; decide) ?_
  rw [hz2]
  walk_at "g"
  refine pk_slice (lo:=20) (hi:=22) h (by decide) (by decide) fun c hc=>?_
  have g1:=Gr.new (g:=.barr (byteArr (((octL w 0).drop 20).take 2))) hc
  walk_at "g"
  refine up (t_number hC (ks:=((octL w 0).drop 20).take 2) (GHeap.set_same _ _ _) (fun k hm=>hk k (List.mem_of_mem_drop (List.mem_of_mem_take hm))) (Nat.le_of_ble_eq_true rfl)) rfl fun v H1 h1=>?_
  obtain ⟨rfl,rfl⟩:=h1
  have n1:numZ (((octL w 0).drop 20).take 2)=w.sp:=by
   exact Int.zero_add w.sp
  rw [n1]
  walk_at "g"
  refine pk_slice (lo:=22) (hi:=24) (g1 _ _ h) (by decide) (by decide) fun d hd=>?_
  have g2:=Gr.new (g:=.barr (byteArr (((octL w 0).drop 22).take 2))) hd
  walk_at "g"
  refine up (t_number hC (ks:=((octL w 0).drop 22).take 2) (GHeap.set_same _ _ _) (fun k hm=>hk k (List.mem_of_mem_drop (List.mem_of_mem_take hm))) (Nat.le_of_ble_eq_true rfl)) rfl fun v H1 h1=>?_
  obtain ⟨rfl,rfl⟩:=h1
  have n2:numZ (((octL w 0).drop 22).take 2)=w.dp:=by
   exact Int.zero_add w.dp
  rw [n2]
  walk_at "g"
  exact ⟨by rw [hkey]<;>rfl,g1.trans g2⟩
 ·have hkey:w.key=⟨w.p,w.s,0,w.t,0⟩:=if_neg h2
  walk_at "g"
  refine up (t_icmp hC hw.p) rfl fun v H1 h1=>?_
  obtain ⟨rfl,rfl⟩:=h1
  walk_at "g"
  exact ⟨by rw [hkey]<;>rfl,Gr.refl _⟩
theorem t_tupleAt {w:Wire}{a:Addr}(h:H a=some (.barr (byteArr (octL w 0)))) (hw:WireOk w):CallOk C 3 (.ref 177) [.ref a,.int 2,.int w.p,.int 20] H (fun v H'=>v=w.key.pv∧Gr H H'):=by
 have hk:=octL_ok hw (.inl rfl)
 refine fn4 hC (stAt 22) "octets" "nfproto" "protocol" "off" rfl rfl rfl (by kernel_rfl) (by walk_at "f") 100 ?_
 walk_at "g"
 refine up (t_ports hC h hw) rfl fun v H1 h1=>?_
 obtain ⟨rfl,g0⟩:=h1
 walk_at "g"
 refine pk_slice (lo:=12) (hi:=16) (g0 _ _ h) (by decide) (by decide) fun c hc=>?_
 have g1:=g0.trans (Gr.new (g:=.barr (byteArr (((octL w 0).drop 12).take 4))) hc)
 walk_at "g"
 refine up (t_number hC (ks:=((octL w 0).drop 12).take 4) (GHeap.set_same _ _ _) (fun k hm=>hk k (List.mem_of_mem_drop (List.mem_of_mem_take hm))) (Nat.le_of_ble_eq_true rfl)) rfl fun v H1 h1=>?_
 obtain ⟨rfl,rfl⟩:=h1
 rw [show numZ (((octL w 0).drop 12).take 4)=w.s from numZ_addr hw.s0 hw.s1]
 walk_at "g"
 refine pk_slice (lo:=16) (hi:=20) (g1 _ _ h) (by decide) (by decide) fun d hd=>?_
 have g2:=g1.trans (Gr.new (g:=.barr (byteArr (((octL w 0).drop 16).take 4))) hd)
 walk_at "g"
 refine up (t_number hC (ks:=((octL w 0).drop 16).take 4) (GHeap.set_same _ _ _) (fun k hm=>hk k (List.mem_of_mem_drop (List.mem_of_mem_take hm))) (Nat.le_of_ble_eq_true rfl)) rfl fun v H1 h1=>?_
 obtain ⟨rfl,rfl⟩:=h1
 rw [show numZ (((octL w 0).drop 16).take 4)=w.t from numZ_addr hw.t0 hw.t1]
 walk_at "g"
 refine ⟨?_,g2⟩
 show PV.tup [.int 2,.int w.p,.int w.s,.int w.key.b,.int w.t,.int w.key.d]=w.key.pv
 unfold Wire.key T6.pv
 split<;>rfl
theorem t_tupleOf {p:Pk}{w:Wire}{piece:Int}(o:Own H ((p.looked w piece).cells++F)) (hoct:p.oct=octL w piece) (hw:WireOk w) (hp:piece=0∨piece=3) :
  CallOk C 4 (.ref 184) [.ref p.ad] H (fun v H'=>v=(if piece=0 then w.key.pv else .none)∧Gr H H'):=by
 have i0:=o.at_ (p.ad,.inst 80 p.dx) (.head _)
 have d0:=o.at_ (p.dx,.sdict (p.looked w piece).kv) (.tail _ (.head _))
 have b0:=o.at_ (p.da,.barr (byteArr p.oct)) (.tail _ (.tail _ (.head _)))
 have tf:=t_family hC (p:=p.looked w piece) o
 refine fn1 hC (stAt 23) "packet" rfl rfl rfl (by kernel_rfl) (by walk_at "f") 100 ?_
 walk_at "g"
 refine up tf rfl fun v H1 h1=>?_
 obtain ⟨rfl,rfl⟩:=h1
 walk_at "g"
 refine notin_tup (.ints [2,10]) (.int 2) rfl rfl (boolT (fun h1=>?_) (fun h1=>?_))
 ·cases h1
 walk_at "g"
 rcases hp with rfl | rfl
 ·have d1:H1 p.dx=some (.sdict [("data",.ref p.da),("link",.ref p.la),("kind",.int 2048),("l4",.int w.p),("off",.int 20),("place",.int 0),("meta",.ref p.me)]):=d0
  refine getI hC i0 d1 rfl rfl rfl ?_
  walk_at "g"
  refine getI hC i0 d1 rfl rfl rfl ?_
  walk_at "g"
  refine getI hC i0 d1 rfl rfl rfl ?_
  walk_at "g"
  refine getI hC i0 d1 rfl rfl rfl ?_
  walk_at "g"
  rw [hoct] at b0
  refine up (t_tupleAt hC b0 hw) rfl fun v H1 h1=>?_
  obtain ⟨rfl,g⟩:=h1
  walk_at "g"
  exact ⟨rfl,g⟩
 ·have d1:H1 p.dx=some (.sdict [("data",.ref p.da),("link",.ref p.la),("kind",.int 2048),("l4",.int w.p),("off",.int (-1)),("place",.int 24),("meta",.ref p.me)]):=d0
  refine getI hC i0 d1 rfl rfl rfl ?_
  walk_at "g"
  exact ⟨rfl,Gr.refl _⟩
theorem t_invert {t:T6}(hp:t.p=17∨t.p=132):CallOk C 2 (.ref 191) [t.pv] H (fun v H'=>v=t.inv.pv∧H'=H):=by
 refine fn1 hC (stAt 24) "t" rfl rfl rfl (by kernel_rfl) (by walk_at "f") 100 ?_
 walk_at "g"
 refine up (t_icmp hC hp) rfl fun v H1 h1=>?_
 obtain ⟨rfl,rfl⟩:=h1
 walk_at "g"
 exact ⟨rfl,rfl⟩
theorem t_side {x:BT'}{dir:Int}(hi:H x.ad=some (.inst 123 x.dx)) (hd:H x.dx=some (.sdict x.kv)):CallOk C 1 (.ref 198) [.ref x.ad,.int dir] H (fun v H'=>v=(if dir=0 then x.d.a else x.d.b).pv∧H'=H):=by
 refine fn2 hC (stAt 25) "talk" "direction" rfl rfl rfl (by kernel_rfl) (by walk_at "f") 100 ?_
 walk_at "g"
 refine And.intro (fun h1=>?_) (fun h1=>?_)
 ·walk_at "g"
  refine getI hC hi hd rfl rfl rfl ?_
  walk_at "g"
  rw [if_neg h1]; exact ⟨rfl,rfl⟩
 ·walk_at "g"
  refine getI hC hi hd rfl rfl rfl ?_
  walk_at "g"
  rw [if_pos h1]; exact ⟨rfl,rfl⟩
theorem t_put {s:Sc}{tk:PV}{st r:Int}(o:Own H (s.cells++F)):CallOk C 1 (.ref 347) [.ref s.ad,tk,.int st,.int r] H (fun v H'=>v=.none∧Own H' ((s.put tk st r).cells++F)):=by
 refine fn4 hC (stAt 53) "scene" "talk" "state" "is_reply" rfl rfl rfl (by kernel_rfl) (by walk_at "f") 100 ?_
 walk_at "g"
 refine putI hC o.hd o.snd rfl (kvs':=Sc.kv {s with talk:=tk}) rfl rfl ?_
 have o1:Own _ (({s with talk:=tk}:Sc).cells++F):=Own.put2 (g':=.sdict (Sc.kv {s with talk:=tk})) o
 walk_at "g"
 refine putI hC o1.hd o1.snd rfl (kvs':=Sc.kv {s with talk:=tk,state:=st}) rfl rfl ?_
 have o2:Own _ (({s with talk:=tk,state:=st}:Sc).cells++F):=Own.put2 (g':=.sdict (Sc.kv {s with talk:=tk,state:=st})) o1
 walk_at "g"
 refine putI hC o2.hd o2.snd rfl (kvs':=Sc.kv (s.put tk st r)) rfl rfl ?_
 have o3:Own _ ((s.put tk st r).cells++F):=Own.put2 (g':=.sdict (Sc.kv (s.put tk st r))) o2
 walk_at "g"
 exact ⟨rfl,o3⟩
end
section
theorem lookup_mem' {K α:Type} [BEq K] [LawfulBEq K]:∀{l:List (K×α)}{k:K}{v:α},(l.map (·.1)).Nodup→(k,v)∈l→l.lookup k=some v
 | (y,w)::r,k,v,hn,hm=>by
  rw [List.map_cons,List.nodup_cons] at hn
  rw [List.lookup_cons]
  rcases List.mem_cons.mp hm with e | hm'
  ·cases e; rw [beq_self_eq_true]
  ·have:k≠y:=fun e=>hn.1 (e▸List.mem_map_of_mem (f:=(·.1)) hm')
   rw [beq_eq_false_iff_ne.mpr this]
   exact lookup_mem' hn.2 hm'
theorem lookup_none' {K α:Type} [BEq K] [LawfulBEq K]:∀{l:List (K×α)}{k:K},(∀p∈l,p.1≠k)→l.lookup k=none
 | [],_,_=>rfl
 | (y,w)::r,k,h=>by
  rw [List.lookup_cons,beq_eq_false_iff_ne.mpr (fun e=>h _ (.head _) e.symm)]
  exact lookup_none' fun p hp=>h p (.tail _ hp)
theorem split_at {α:Type}:∀{l:List α}{i:Nat}{x:α},l[i]?=some x→∃l1 l2,l=l1++x::l2∧l1.length=i∧∀y,l.set i y=l1++y::l2
 | y::r,0,x,h=>by cases h; exact ⟨[],r,rfl,rfl,fun _=>rfl⟩
 | y::r,i+1,x,h=>by
  refine byP fun PG kG=>?_
  obtain ⟨l1,l2,e1,e2,e3⟩:=split_at (l:=r) (i:=i) h
  refine kG ?_
  exact ⟨y::l1,l2,by rw [e1]; rfl,by rw [List.length_cons,e2],fun z=>by rw [List.set_cons_succ,e3]; rfl⟩
theorem filter_id {α:Type}{p:α→Bool}{l:List α}(h:∀x∈l,p x=true):l.filter p=l:=List.filter_eq_self.mpr h
noncomputable def Bk.cellsW (b:Bk) (tab:List (TKey×PV)) (ids:List (Int×PV)) (xs:List PV):List Cell:=(b.ba,.inst 145 b.bd)::(b.bd,.sdict b.kv)::(b.tb,.tdict tab)::(b.tk,.idict ids)::(b.xl,.list xs)::(b.fix++(b.talks.flatMap BT'.cells++b.exps.flatMap BE.cells))
theorem cellsW_is (b:Bk):b.cells=b.cellsW b.tab b.ids b.xs:=by
 unfold Bk.cells Bk.base Bk.baseW Bk.cellsW
 simp only [List.cons_append,List.nil_append,List.append_assoc]
section
variable {H:GHeap}{F:List Cell}{b:Bk}{tab:List (TKey×PV)}{ids:List (Int×PV)}{xs:List PV}
theorem b_ba (o:Own H (b.cellsW tab ids xs++F)):H b.ba=some (.inst 145 b.bd):=o.at_ (_,_) (.head _)
theorem b_bd (o:Own H (b.cellsW tab ids xs++F)):H b.bd=some (.sdict b.kv):=o.at_ (_,_) (.tail _ (.head _))
theorem b_tb (o:Own H (b.cellsW tab ids xs++F)):H b.tb=some (.tdict tab):=o.at_ (_,_) (.tail _ (.tail _ (.head _)))
theorem b_tk (o:Own H (b.cellsW tab ids xs++F)):H b.tk=some (.idict ids):=o.at_ (_,_) (.tail _ (.tail _ (.tail _ (.head _))))
theorem b_xl (o:Own H (b.cellsW tab ids xs++F)):H b.xl=some (.list xs):=o.at_ (_,_) (.tail _ (.tail _ (.tail _ (.tail _ (.head _)))))
theorem b_tr (o:Own H (b.cellsW tab ids xs++F)):H b.tr=some (.idict [(17,.ref b.t17),(-1,.ref b.tm)]):=o.at_ (_,_) (.tail _ (.tail _ (.tail _ (.tail _ (.tail _ (.head _))))))
theorem b_t17 (o:Own H (b.cellsW tab ids xs++F)):H b.t17=some (.sdict [("begin",.ref 217),("go",.ref 224)]):=o.at_ (_,_) (.tail _ (.tail _ (.tail _ (.tail _ (.tail _ (.tail _ (.head _)))))))
theorem b_tm (o:Own H (b.cellsW tab ids xs++F)):H b.tm=some (.sdict [("begin",.ref 217),("go",.ref 231)]):=o.at_ (_,_) (.tail _ (.tail _ (.tail _ (.tail _ (.tail _ (.tail _ (.tail _ (.head _))))))))
theorem b_fl (o:Own H (b.cellsW tab ids xs++F)):H b.fl=some (.idict []):=o.at_ (_,_) (.tail _ (.tail _ (.tail _ (.tail _ (.tail _ (.tail _ (.tail _ (.tail _ (.head _)))))))))
theorem b_talk {x:BT'}(o:Own H (b.cellsW tab ids xs++F)) (hx:x∈b.talks) {c:Cell}(hc:c∈x.cells):H c.1=some c.2 :=
 o.at_ c (List.mem_append_left _ (.tail _ (.tail _ (.tail _ (.tail _ (.tail _ (List.mem_append_right _ (List.mem_append_left _ (List.mem_flatMap.mpr ⟨x,hx,hc⟩)))))))))
theorem b_ti {x:BT'}(o:Own H (b.cellsW tab ids xs++F)) (hx:x∈b.talks):H x.ad=some (.inst 123 x.dx):=b_talk o hx (c:=(_,_)) (.head _)
theorem b_td {x:BT'}(o:Own H (b.cellsW tab ids xs++F)) (hx:x∈b.talks):H x.dx=some (.sdict x.kv):=b_talk o hx (c:=(_,_)) (.tail _ (.head _))
theorem b_exp {x:BE}(o:Own H (b.cellsW tab ids xs++F)) (hx:x∈b.exps) {c:Cell}(hc:c∈x.cells):H c.1=some c.2 :=
 o.at_ c (List.mem_append_left _ (.tail _ (.tail _ (.tail _ (.tail _ (.tail _ (List.mem_append_right _ (List.mem_append_right _ (List.mem_flatMap.mpr ⟨x,hx,hc⟩)))))))))
theorem b_ei {x:BE}(o:Own H (b.cellsW tab ids xs++F)) (hx:x∈b.exps):H x.ad=some (.inst 262 x.dx):=b_exp o hx (c:=(_,_)) (.head _)
theorem b_ed {x:BE}(o:Own H (b.cellsW tab ids xs++F)) (hx:x∈b.exps):H x.dx=some (.sdict x.kv):=b_exp o hx (c:=(_,_)) (.tail _ (.head _))
theorem b_setTab (o:Own H (b.cellsW tab ids xs++F)) (tab':List (TKey×PV)):Own (H.set b.tb (.tdict tab')) (b.cellsW tab' ids xs++F):=Own.putF (A:=[_,_]) o
theorem b_setIds (o:Own H (b.cellsW tab ids xs++F)) (ids':List (Int×PV)):Own (H.set b.tk (.idict ids')) (b.cellsW tab ids' xs++F):=Own.putF (A:=[_,_,_]) o
theorem b_setXs (o:Own H (b.cellsW tab ids xs++F)) (xs':List PV):Own (H.set b.xl (.list xs')) (b.cellsW tab ids xs'++F):=Own.putF (A:=[_,_,_,_]) o
noncomputable def Bk.setT (b:Bk) (i:Nat) (x:BT'):Bk:={b with talks:=b.talks.set i x}
noncomputable def Bk.setE (b:Bk) (i:Nat) (x:BE):Bk:={b with exps:=b.exps.set i x}
theorem b_setTd (o:Own H (b.cellsW tab ids xs++F)) {i:Nat}{x x':BT'}(h:b.talks[i]?=some x) (ha:x'.ad=x.ad) (hd:x'.dx=x.dx):Own (H.set x.dx (.sdict x'.kv)) ((b.setT i x').cellsW tab ids xs++F):=by
 have q:∀b:Bk,b.cellsW tab ids xs++F=((b.ba,.inst 145 b.bd)::(b.bd,.sdict b.kv)::(b.tb,.tdict tab)::(b.tk,.idict ids)::(b.xl,.list xs)::b.fix)++(b.talks.flatMap BT'.cells++(b.exps.flatMap BE.cells++F)):=fun b=>by
  unfold Bk.cellsW; simp only [List.cons_append,List.append_assoc]
 rw [q] at o ⊢
 have z:=own_flat (x':=x') (a:=x.dx) (g:=.sdict x.kv) (c:=[(x.ad,.inst 123 x.dx)]) (g':=.sdict x'.kv) o h (List.Perm.swap _ _ _) (by unfold BT'.cells; rw [ha,hd]; exact List.Perm.swap _ _ _)
 exact z
theorem b_setEd (o:Own H (b.cellsW tab ids xs++F)) {i:Nat}{x x':BE}(h:b.exps[i]?=some x) (ha:x'.ad=x.ad) (hd:x'.dx=x.dx):Own (H.set x.dx (.sdict x'.kv)) ((b.setE i x').cellsW tab ids xs++F):=by
 have q:∀b:Bk,b.cellsW tab ids xs++F=((b.ba,.inst 145 b.bd)::(b.bd,.sdict b.kv)::(b.tb,.tdict tab)::(b.tk,.idict ids)::(b.xl,.list xs)::(b.fix++b.talks.flatMap BT'.cells))++(b.exps.flatMap BE.cells++F):=fun b=>by
  unfold Bk.cellsW; simp only [List.cons_append,List.append_assoc]
 rw [q] at o ⊢
 have z:=own_flat (x':=x') (a:=x.dx) (g:=.sdict x.kv) (c:=[(x.ad,.inst 262 x.dx)]) (g':=.sdict x'.kv) o h (List.Perm.swap _ _ _) (by unfold BE.cells; rw [ha,hd]; exact List.Perm.swap _ _ _)
 exact z
end
noncomputable def BTalk.k0 (x:BTalk):TKey:=(x.zone,x.a.l)
noncomputable def BTalk.k1 (x:BTalk):TKey:=(x.zone,x.b.l)
noncomputable def offKey (k:TKey) (l:List (TKey×PV)):List (TKey×PV):=l.filter fun kv=>!(kv.1 == k)
structure BInv (b:Bk):Prop where
 tab:(b.tab.map (·.1)).Nodup
 ids:(b.ids.map (·.1)).Nodup
 ne:∀x∈b.talks,x.d.a≠x.d.b
 many:b.talks.length≤60
 exps:b.exps.length≤900
theorem tab_split {b:Bk}{l1 l2:List BT'}{x:BT'}(e:b.talks=l1++x::l2) (hin:x.d.isIn=true):b.tab=(l1.filter (·.d.isIn)).flatMap (·.d.rows)++(x.d.rows++(l2.filter (·.d.isIn)).flatMap (·.d.rows)):=by
 unfold Bk.tab
 rw [e,List.filter_append,List.filter_cons,if_pos hin,List.flatMap_append,List.flatMap_cons]
theorem off_two {A B:List (TKey×PV)}{k0 k1:TKey}{v0 v1:PV}(hn:((A++((k0,v0)::(k1,v1)::B)).map (·.1)).Nodup):offKey k1 (offKey k0 (A++((k0,v0)::(k1,v1)::B)))=A++B:=by
 have notin:∀k∈[k0,k1],∀p,(p∈A∨p∈B)→p.1≠k:=fun k hk p hp e=>by
  rw [List.map_append,List.nodup_append] at hn
  obtain ⟨_,h2,h3⟩:=hn
  rcases hp with hp | hp
  ·have hm:k∈((k0,v0)::(k1,v1)::B).map (·.1):=by
    simp only [List.map_cons,List.mem_cons]
    rcases List.mem_cons.mp hk with h | h
    ·exact .inl h
    ·exact .inr (.inl (List.mem_singleton.mp h))
   exact h3 _ (List.mem_map_of_mem (f:=(·.1)) hp) _ hm e
  ·simp only [List.map_cons,List.nodup_cons,List.mem_cons,not_or] at h2
   have hm:p.1∈B.map (·.1):=List.mem_map_of_mem (f:=(·.1)) hp
   rw [e] at hm
   rcases List.mem_cons.mp hk with h | h
   ·exact h2.1.2 (h▸hm)
   ·exact h2.2.1 (List.mem_singleton.mp h▸hm)
 have keep:∀k∈[k0,k1],∀L:List (TKey×PV),(∀p∈L,p∈A∨p∈B)→offKey k L=L:=fun k hk L hL=>filter_id fun p hp=>by
  have:=notin k hk p (hL p hp)
  simpa using this
 unfold offKey at *
 rw [List.filter_append,keep k0 (.head _) A fun p h=>.inl h,List.filter_append,keep k1 (.tail _ (.head _)) A fun p h=>.inl h]
 congr 1
 rw [List.filter_cons,if_neg (by simp),List.filter_cons]
 have hne:(k1 == k0)=false:=by
  rw [beq_eq_false_iff_ne]
  rw [List.map_append,List.nodup_append] at hn
  have h2:=hn.2.1
  simp only [List.map_cons,List.nodup_cons,List.mem_cons,not_or] at h2
  exact fun e=>h2.1.1 e.symm
 rw [if_pos (by rw [hne]; rfl),List.filter_cons,if_neg (by simp),keep k0 (.head _) B fun p h=>.inr h,keep k1 (.tail _ (.head _)) B fun p h=>.inr h]
end
section
noncomputable def BT'.off (x:BT'):BT':={x with d:={x.d with isIn:=false,status:=Builtin.bitOr x.d.status 512}}
noncomputable def BE.dead (e:BE):BE:={e with d:={e.d with gone:=true}}
noncomputable def BE.kill (n:Int) (e:BE):BE:=if e.d.master=n then e.dead else e
noncomputable def Bk.drop (b:Bk) (i:Nat) (x:BT') (xl:Addr):Bk:={b with talks:=b.talks.set i x.off,exps:=b.exps.map (BE.kill x.d.num),xl}
theorem kill_cells (n:Int) (e:BE):(e.kill n).cells=e.cells:=by unfold BE.kill; split<;>rfl
theorem kills_cells (n:Int) (l:List BE):(l.map (BE.kill n)).flatMap BE.cells=l.flatMap BE.cells:=by
 rw [List.flatMap_map]
 induction l with
 | nil=>rfl
 | cons e r ih=>rw [List.flatMap_cons,List.flatMap_cons,ih,kill_cells]
theorem kills_xs (n:Int) (l:List BE):((l.map (BE.kill n)).filter (!·.d.gone)).map (fun x:BE=>PV.ref x.ad)=((l.filter (!·.d.gone)).filter fun e=>!decide (e.d.master=n)).map fun x:BE=>PV.ref x.ad:=by
 rw [List.filter_filter]
 induction l with
 | nil=>rfl
 | cons e r ih =>
  rw [List.map_cons,List.filter_cons,List.filter_cons]
  unfold BE.kill BE.dead at *
  by_cases h:e.d.master=n
  ·rw [if_pos h,if_neg (by simp),if_neg (by simp [h])]; exact ih
  ·rw [if_neg h]
   cases hg:e.d.gone with
   | true=>rw [if_neg (by simp),if_neg (by simp [h])]; exact ih
   | false=>rw [if_pos (by simp),if_pos (by simp [h]),List.map_cons,List.map_cons,ih]
section
variable {H:GHeap}{F:List Cell}{b:Bk}{tab:List (TKey×PV)}{ids:List (Int×PV)}{xs xs':List PV}
theorem b_newXl {a:Addr}(o:Own H ((a,.list xs')::(b.cellsW tab ids xs++F))):Own (H.set b.bd (.sdict (Bk.kv {b with xl:=a}))) (({b with xl:=a}:Bk).cellsW tab ids xs'++F):=by
 have p:((a,.list xs')::(b.cellsW tab ids xs++F)).Perm ((b.ba,.inst 145 b.bd)::(b.bd,.sdict b.kv)::(b.tb,.tdict tab)::(b.tk,.idict ids)::(a,.list xs')::(b.xl,.list xs)::((b.fix++(b.talks.flatMap BT'.cells++b.exps.flatMap BE.cells))++F)) :=
  (List.Perm.swap _ _ _).trans (List.Perm.cons _ ((List.Perm.swap _ _ _).trans (List.Perm.cons _ ((List.Perm.swap _ _ _).trans (List.Perm.cons _ (List.Perm.swap _ _ _))))))
 have o1:=Own.put2 (g':=.sdict (Bk.kv {b with xl:=a})) (o.perm p)
 exact o1.sub (List.Sublist.cons_cons _ (List.Sublist.cons_cons _ (List.Sublist.cons_cons _ (List.Sublist.cons_cons _ (List.Sublist.cons_cons _ (List.sublist_cons_self _ _))))))
end
variable {C:Cfg}(hC:CK C) {H:GHeap}{F:List Cell}
theorem methD {C:Cfg}{H:GHeap}{a:Addr}{kvs:List (TKey×PV)}{P:Prop}{name:Str}{id:String}(h:H a=some (.tdict kvs)) (e:methT name=some ("dict",id)) (p:P):(∃T,methT name=some (T,id)∧MethOf C H (.ref a) T)∧P:=⟨⟨_,e,.tdict h⟩,p⟩
include hC
theorem t_drop2 {b:Bk}{i:Nat}{x:BT'}{tab:List (TKey×PV)}{ids:List (Int×PV)}(o:Own H (b.cellsW tab ids b.xs++F)) (hx:b.talks[i]?=some x) (hz:b.exps.length≤900) :
  ExOk C 1 (scOf (stAt 26)) ((bodyOf (stAt 26)).drop 2) [("book",.ref b.ba),("talk",.ref x.ad)] H fun fl _ H'=>flv fl=.none∧∃xl,Own H' ((b.drop i x xl).cellsW tab ids (b.drop i x xl).xs++F):=by
 have hm:=List.mem_of_getElem? hx
 refine wp_ok (C:=C) (n:=1) (sc:=scOf (stAt 26)) hC.wok 300 (.ex _ _ _ _) ?_
 walk_at "g"
 refine getI hC (b_ba o) (b_bd o) rfl rfl rfl ?_
 walk_at "g"
 refine c_list_i (b_fl o) (by decide) fun c hc=>?_
 have o1:=o.gr (Gr.new (g:=.list []) hc)
 refine srcL (GHeap.set_same _ _ _) (by decide) ?_
 refine for_nil (.list (.inl (GHeap.set_same _ _ _))) rfl ?_
 walk_at "g"
 refine getI hC (b_ba o1) (b_bd o1) rfl rfl rfl ?_
 walk_at "g"
 have hxl:=b_xl o1
 refine compL hC.wok (f:=fun e:BE=>PV.ref e.ad) (b.exps.filter (!·.d.gone)) (fun e=>if (!decide (e.d.master=x.d.num))=true then some (.ref e.ad) else none) hxl (Nat.le_trans (List.length_filter_le _ _) (Nat.le_trans hz (by decide))) (fun e H' hm' hg=>?_) (fun H' a hg ha=>?_)
 ·have oe:=o1.gr hg
  have hme:=(List.mem_filter.mp hm').1
  walk_at "g"
  refine getI hC (b_ei oe hme) (b_ed oe hme) rfl rfl rfl ?_
  walk_at "g"
  refine getI hC (b_ti oe hm) (b_td oe hm) rfl rfl rfl ?_
  walk_at "g"
  refine And.intro (fun h1=>?_) (fun h1=>?_)
  ·walk_at "g"
   refine ⟨rfl,?_⟩
   walk_at "g"
   exact ⟨if_pos (by rw [decide_eq_false h1]; rfl),hg⟩
  ·walk_at "g"
   exact ⟨rfl,if_neg (by rw [decide_eq_true h1]; exact Bool.false_ne_true),hg⟩
 ·rw [fm_filter,←kills_xs]
  have o2:=(o1.gr hg).new (g:=.list (((b.exps.map (BE.kill x.d.num)).filter (!·.d.gone)).map fun x:BE=>PV.ref x.ad)) ha
  have i2:=b_ba (b:=b) (F:=F) (tab:=tab) (ids:=ids) (xs:=b.xs) o2.tl
  have d2:=b_bd (b:=b) (F:=F) (tab:=tab) (ids:=ids) (xs:=b.xs) o2.tl
  walk_at "g"
  refine putI hC i2 d2 rfl (kvs':=Bk.kv {b with xl:=a}) rfl rfl ?_
  have o3:=b_newXl o2
  have i3:=b_ti o3 hm
  have d3:=b_td o3 hm
  walk_at "g"
  refine getI hC i3 d3 rfl rfl rfl ?_
  walk_at "g"
  refine putI hC i3 d3 rfl (kvs':=x.off.kv) rfl rfl ?_
  have o4:=b_setTd (x':=x.off) o3 hx rfl rfl
  walk_at "g"
  refine ⟨rfl,a,?_⟩
  have e:(b.drop i x a).cellsW tab ids (b.drop i x a).xs=(({b with xl:=a}:Bk).setT i x.off).cellsW tab ids (((b.exps.map (BE.kill x.d.num)).filter (!·.d.gone)).map fun x:BE=>PV.ref x.ad):=by
   unfold Bk.cellsW Bk.drop Bk.setT Bk.xs
   dsimp only
   rw [kills_cells]; rfl
  rw [e]; exact o4
omit hC in
theorem tab_parts {b:Bk}{i:Nat}{x:BT'}(hx:b.talks[i]?=some x) (hin:x.d.isIn=true):∃A B,b.tab=A++((x.d.k0,.tup [.int x.d.num,.int 0])::(x.d.k1,.tup [.int x.d.num,.int 1])::B)∧∀xl,(b.drop i x xl).tab=A++B:=by
 refine byP fun PG kG=>?_
 obtain ⟨l1,l2,e,_,es⟩:=split_at hx
 refine kG ?_
 refine ⟨(l1.filter (·.d.isIn)).flatMap (·.d.rows),(l2.filter (·.d.isIn)).flatMap (·.d.rows),tab_split e hin,fun xl=>?_⟩
 unfold Bk.tab Bk.drop
 dsimp only
 rw [es,List.filter_append,List.filter_cons,if_neg (by simp [BT'.off]),List.flatMap_append]
omit hC in
theorem ids_parts {b:Bk}{i:Nat}{x:BT'}(hx:b.talks[i]?=some x) (hin:x.d.isIn=true):∃A B,b.ids=A++((x.d.num,.ref x.ad)::B)∧∀xl,(b.drop i x xl).ids=A++B:=by
 refine byP fun PG kG=>?_
 obtain ⟨l1,l2,e,_,es⟩:=split_at hx
 refine kG ?_
 refine ⟨(l1.filter (·.d.isIn)).map fun x=>(x.d.num,.ref x.ad),(l2.filter (·.d.isIn)).map fun x=>(x.d.num,.ref x.ad),?_,fun xl=>?_⟩
 ·unfold Bk.ids
  rw [e,List.filter_append,List.filter_cons,if_pos hin,List.map_append,List.map_cons]
 ·unfold Bk.ids Bk.drop
  dsimp only
  rw [es,List.filter_append,List.filter_cons,if_neg (by simp [BT'.off]),List.map_append]
omit hC in
theorem notIn_parts {b:Bk}{i:Nat}{x:BT'}(hx:b.talks[i]?=some x) (hin:x.d.isIn=false) (xl:Addr):(b.drop i x xl).tab=b.tab∧(b.drop i x xl).ids=b.ids:=by
 refine byP fun PG kG=>?_
 obtain ⟨l1,l2,e,_,es⟩:=split_at hx
 refine kG ?_
 unfold Bk.tab Bk.ids Bk.drop
 dsimp only
 rw [es,e]
 simp only [List.filter_append,List.filter_cons,BT'.off,hin]
 exact ⟨rfl,rfl⟩
omit hC in
theorem off_one {A B:List (Int×PV)}{k:Int}{v:PV}(hn:((A++((k,v)::B)).map (·.1)).Nodup):(A++((k,v)::B)).filter (fun kv=>!(kv.1 == k))=A++B:=by
 rw [List.map_append,List.nodup_append] at hn
 obtain ⟨_,h2,h3⟩:=hn
 rw [List.map_cons,List.nodup_cons] at h2
 rw [List.filter_append,List.filter_cons,if_neg (by simp)]
 rw [filter_id (l:=A),filter_id (l:=B)]
 ·intro p hp
  have:p.1≠k:=fun e=>h2.1 (e▸List.mem_map_of_mem (f:=(·.1)) hp)
  simpa using this
 ·intro p hp
  have:p.1≠k:=fun e=>h3 _ (List.mem_map_of_mem (f:=(·.1)) hp) k (.head _) e
  simpa using this
structure OutOk (b:Bk) (x:BT'):Prop where
 t0:∀p∈b.tab,p.1≠x.d.k0
 t1:∀p∈b.tab,p.1≠x.d.k1
 n:∀p∈b.ids,p.1≠x.d.num
noncomputable def kJ (x:BTalk) (j:Nat):TKey:=if j=0 then x.k0 else x.k1
noncomputable def tabJ (x:BTalk) (t:List (TKey×PV)) (j:Nat):List (TKey×PV):=if x.isIn=true then (if j=0 then t else if j=1 then offKey x.k0 t else offKey x.k1 (offKey x.k0 t)) else t
theorem t_drop {b:Bk}{i:Nat}{x:BT'}(o:Own H (b.cells++F)) (hx:b.talks[i]?=some x) (I:BInv b) (hn:x.d.isIn=false→OutOk b x) (hz:b.tab.length≤200) :
  CallOk C 2 (.ref 203) [.ref b.ba,.ref x.ad] H (fun v H'=>v=.none∧∃xl,Own H' ((b.drop i x xl).cells++F)):=by
 rw [cellsW_is] at o
 have hm:=List.mem_of_getElem? hx
 refine fn2 hC (stAt 26) "book" "talk" rfl rfl rfl (by kernel_rfl) (by walk_at "f") 2 ?_
 walk_at "g"
 refine ⟨_,_,.tup (([0,1]:List Int).map PV.int),Nat.lt_of_lt_of_le (show 2<3 by decide) (by decide),?_⟩
 refine for_st hC.wok (σ:=Unit) (fun _=>[("book",.ref b.ba),("talk",.ref x.ad)]) (fun j _ H'=>Own H' (b.cellsW (tabJ x.d b.tab j) b.ids b.xs++F)) () rfl (by
  rw [show tabJ x.d b.tab 0=b.tab by unfold tabJ; split<;>rfl]; exact o) (fun _ _ _ _=>.tup _) (fun j y _ H1 hy o1=>?_) (fun _ H1 o1=>?_)
 ·rw [List.getElem?_map] at hy
  obtain ⟨d,hd,rfl⟩:=Option.map_eq_some_iff.mp hy
  have hj:d=(j:Int)∧(j=0∨j=1):=by
   match j,hd with
   | 0,hd=>cases hd; exact ⟨rfl,.inl rfl⟩
   | 1,hd=>cases hd; exact ⟨rfl,.inr rfl⟩
  obtain ⟨rfl,hj⟩:=hj
  have hi1:=b_ti o1 hm
  have hd1:=b_td o1 hm
  walk_at "g"
  refine getI hC hi1 hd1 rfl rfl rfl ?_
  walk_at "g"
  refine up (t_side hC hi1 hd1) rfl fun v H2 h=>?_
  obtain ⟨rfl,rfl⟩:=h
  walk_at "g"
  refine getI hC (b_ba o1) (b_bd o1) rfl rfl rfl ?_
  walk_at "g"
  refine methD (b_tb o1) rfl ?_
  have hk:PV.tup [.int x.d.zone,(if (j:Int)=0 then x.d.a else x.d.b).pv]=tkPV (kJ x.d j):=by rcases hj with rfl | rfl<;>rfl
  have hlen:(tabJ x.d b.tab j).length≤1000:=by
   refine Nat.le_trans ?_ (Nat.le_trans hz (by decide))
   unfold tabJ offKey
   split
   ·split
    ·exact Nat.le_refl _
    ·split
     ·exact List.length_filter_le _ _
     ·exact Nat.le_trans (List.length_filter_le _ _) (List.length_filter_le _ _)
   ·exact Nat.le_refl _
  walk_at "g"
  refine c_get (b_tb o1) hk ?_
  walk_at "g"
  refine getI hC hi1 hd1 rfl rfl rfl ?_
  walk_at "g"
  cases hin:x.d.isIn with
  | true =>
   obtain ⟨A,B,hAB,_⟩:=tab_parts hx hin
   have hnd:=I.tab
   rw [hAB] at hnd
   have hlk:(tabJ x.d b.tab j).lookup (kJ x.d j)=some (.tup [.int x.d.num,.int j]):=by
    rcases hj with rfl | rfl
    ·rw [show tabJ x.d b.tab 0=b.tab by unfold tabJ; rw [hin]; rfl,hAB]
     exact lookup_mem' hnd (List.mem_append_right _ (.head _))
    ·rw [show tabJ x.d b.tab 1=offKey x.d.k0 b.tab by unfold tabJ; rw [hin]; rfl,hAB]
     refine lookup_mem' ?_ ?_
     ·exact (List.filter_sublist.map _).nodup hnd
     ·refine List.mem_filter.mpr ⟨List.mem_append_right _ (.tail _ (.head _)),?_⟩
      rw [List.map_append,List.nodup_append] at hnd
      have h2:=hnd.2.1
      simp only [List.map_cons,List.nodup_cons,List.mem_cons,not_or] at h2
      have:x.d.k1≠x.d.k0:=fun e=>h2.1.1 e.symm
      show (!(x.d.k1 == x.d.k0))=true
      simpa using this
   have hstep:tabJ x.d b.tab (j+1)=offKey (kJ x.d j) (tabJ x.d b.tab j):=by
    unfold tabJ kJ
    rw [hin]
    rcases hj with rfl | rfl<;>rfl
   rw [hlk]
   refine eqInts (ks:=[x.d.num,j]) (ls:=[x.d.num,j]) rfl rfl (boolP (fun _=>?_) (fun h=>absurd rfl h))
   walk_at "g"
   refine getI hC (b_ba o1) (b_bd o1) rfl rfl rfl ?_
   walk_at "g"
   refine di_tdict (b_tb o1) hk (by rw [hlk]; rfl) hlen ?_
   walk_at "g"
   refine ⟨(),rfl,?_⟩
   conv=>whnf
   rw [hstep]
   exact b_setTab o1 _
  | false =>
   have ok:=hn hin
   have hlk:(tabJ x.d b.tab j).lookup (kJ x.d j)=none:=by
    rw [show tabJ x.d b.tab j=b.tab by unfold tabJ; rw [hin]; rfl]
    refine lookup_none' fun p hp=>?_
    unfold kJ
    split
    ·exact ok.t0 p hp
    ·exact ok.t1 p hp
   have hstep:tabJ x.d b.tab (j+1)=tabJ x.d b.tab j:=by unfold tabJ; rw [hin]; rfl
   rw [hlk]
   refine op_eq_deep .none (.tup (.ints [x.d.num,j])) rfl rfl (boolT (fun h=>by cases h) (fun _=>?_))
   walk_at "g"
   refine ⟨(),rfl,?_⟩
   conv=>whnf
   rw [hstep]
   exact o1
 ·have hi1:=b_ti o1 hm
  have hd1:=b_td o1 hm
  have hlen2:(([0,1]:List Int).map PV.int).length=2:=rfl
  rw [hlen2] at o1
  walk_at "g"
  refine getI hC hi1 hd1 rfl rfl rfl ?_
  walk_at "g"
  refine getI hC (b_ba o1) (b_bd o1) rfl rfl rfl ?_
  walk_at "g"
  cases hin:x.d.isIn with
  | true =>
   obtain ⟨A,B,hAB,htab⟩:=tab_parts hx hin
   obtain ⟨A',B',hAB',hids⟩:=ids_parts hx hin
   have hnd:=I.tab
   have hnd':=I.ids
   rw [hAB] at hnd
   rw [hAB'] at hnd'
   have ht2:tabJ x.d b.tab 2=A++B:=by
    rw [show tabJ x.d b.tab 2=offKey x.d.k1 (offKey x.d.k0 b.tab) by unfold tabJ; rw [hin]; rfl,hAB]
    exact off_two hnd
   have hlk:b.ids.lookup x.d.num=some (.ref x.ad):=by
    rw [hAB']
    exact lookup_mem' hnd' (List.mem_append_right _ (.head _))
   have hoff:b.ids.filter (fun kv=>!(kv.1 == x.d.num))=A'++B':=by rw [hAB']; exact off_one hnd'
   refine in_idict (b_tk o1) ?_
   rw [hlk]
   refine boolT (fun _=>?_) (fun h=>by cases h)
   walk_at "g"
   refine getI hC (b_ba o1) (b_bd o1) rfl rfl rfl ?_
   walk_at "g"
   refine getI hC hi1 hd1 rfl rfl rfl ?_
   walk_at "g"
   refine di_idict (b_tk o1) (by rw [hlk]; rfl) ?_ ?_
   ·unfold Bk.ids
    rw [List.length_map]
    exact Nat.le_trans (List.length_filter_le _ _) (Nat.le_trans I.many (by decide))
   rw [hoff]
   have o2:=b_setIds o1 (A'++B')
   rw [ht2] at o2
   walk_at "g"
   refine ((t_drop2 hC o2 hx I.exps).mono fun fl _ H' h=>?_).looks (subF_is rfl)
   obtain ⟨hf,xl,oF⟩:=h
   refine ⟨hf,xl,?_⟩
   rw [cellsW_is,htab xl,hids xl]
   exact oF
  | false =>
   have ok:=hn hin
   have ht2:tabJ x.d b.tab 2=b.tab:=by unfold tabJ; rw [hin]; rfl
   refine in_idict (b_tk o1) ?_
   rw [lookup_none' ok.n]
   refine boolT (fun h=>by cases h) (fun _=>?_)
   rw [ht2] at o1
   walk_at "g"
   refine ((t_drop2 hC o1 hx I.exps).mono fun fl _ H' h=>?_).looks (subF_is rfl)
   obtain ⟨hf,xl,oF⟩:=h
   refine ⟨hf,xl,?_⟩
   have z:=notIn_parts hx hin xl
   rw [cellsW_is,z.1,z.2]
   exact oF
end
section
theorem mem_lookup {K α:Type} [BEq K] [LawfulBEq K]:∀{l:List (K×α)}{k:K}{v:α},l.lookup k=some v→(k,v)∈l
 | (y,w)::r,k,v,h=>by
  rw [List.lookup_cons] at h
  cases hb:k == y with
  | true=>rw [hb] at h; cases h; rw [beq_iff_eq.mp hb]; exact .head _
  | false=>rw [hb] at h; exact .tail _ (mem_lookup h)
theorem none_lookup {K α:Type} [BEq K] [LawfulBEq K]:∀{l:List (K×α)}{k:K},l.lookup k=none→∀p∈l,p.1≠k
 | (y,w)::r,k,h,p,hp=>by
  rw [List.lookup_cons] at h
  cases hb:k == y with
  | true=>rw [hb] at h; cases h
  | false =>
   rw [hb] at h
   rcases List.mem_cons.mp hp with rfl | hp
   ·exact fun e=>by rw [show y=k from e,beq_self_eq_true] at hb; cases hb
   ·exact none_lookup h p hp
noncomputable def hitB (x:BTalk) (zone:Int) (t:T6):Prop:=x.isIn=true∧x.zone=zone∧(t=x.a∨t=x.b)
inductive LookB (b:Bk) (zone:Int) (t:T6) (now:Int):PV→Bk→Prop
 | none:(∀p∈b.tab,p.1≠(zone,t.l))→LookB b zone t now .none b
 | old {i:Nat}{x:BT'}{xl:Addr}:b.talks[i]?=some x→hitB x.d zone t→x.d.until_≤now→LookB b zone t now .none (b.drop i x xl)
 | hit {i:Nat}{x:BT'}{dir:Int}:b.talks[i]?=some x→hitB x.d zone t→¬x.d.until_≤now→dir=(if t=x.d.a then 0 else 1)→LookB b zone t now (.tup [.ref x.ad,.int dir]) b
theorem tab_mem {b:Bk}{zone:Int}{t:T6}{v:PV}(I:BInv b) (h:((zone,t.l),v)∈b.tab):∃(i:Nat) (x:BT') (dir:Int),b.talks[i]?=some x∧hitB x.d zone t∧dir=(if t=x.d.a then 0 else 1)∧v=.tup [.int x.d.num,.int dir]∧b.ids.lookup x.d.num=some (.ref x.ad):=by
 unfold Bk.tab at h
 refine byP fun PG kG=>?_
 obtain ⟨x,hx,hr⟩:=List.mem_flatMap.mp h
 obtain ⟨hm,hin⟩:=List.mem_filter.mp hx
 refine kG ?_
 obtain ⟨i,hi⟩:=List.getElem?_of_mem hm
 have hid:b.ids.lookup x.d.num=some (.ref x.ad):=lookup_mem' I.ids (List.mem_map.mpr ⟨x,hx,rfl⟩)
 unfold BTalk.rows at hr
 rcases List.mem_cons.mp hr with e | e
 ·simp only [Prod.mk.injEq] at e
  refine byP fun PG kG=>?_
  obtain ⟨⟨e1,e2⟩,e3⟩:=e
  refine kG ?_
  have et:=T6.l_inj.mp e2
  exact ⟨i,x,0,hi,⟨hin,e1.symm,.inl et⟩,(if_pos et).symm,e3,hid⟩
 ·have e:=List.mem_singleton.mp e
  simp only [Prod.mk.injEq] at e
  refine byP fun PG kG=>?_
  obtain ⟨⟨e1,e2⟩,e3⟩:=e
  refine kG ?_
  have et:=T6.l_inj.mp e2
  have ne:¬t=x.d.a:=fun z=>I.ne x hm (z.symm.trans et)
  exact ⟨i,x,1,hi,⟨hin,e1.symm,.inr et⟩,(if_neg ne).symm,e3,hid⟩
theorem tab_len {b:Bk}(I:BInv b):b.tab.length≤200:=by
 unfold Bk.tab
 have:∀l:List BT',(l.flatMap (·.d.rows)).length=2*l.length:=fun l=>by
  induction l with
  | nil=>rfl
  | cons x r ih=>rw [List.flatMap_cons,List.length_append,ih]; show 2+_=2*(r.length+1); lia
 rw [this]
 have:=List.length_filter_le (fun x:BT'=>x.d.isIn) b.talks
 have:=I.many
 lia
variable {C:Cfg}(hC:CK C) {H:GHeap}{F:List Cell}
include hC
theorem t_lookup {b:Bk}{zone now:Int}{t:T6}(o:Own H (b.cells++F)) (I:BInv b) :
  CallOk C 3 (.ref 210) [.ref b.ba,.int zone,t.pv,.int now] H (fun v H'=>∃b',LookB b zone t now v b'∧Own H' (b'.cells++F)):=by
 have o0:=o
 rw [cellsW_is] at o
 refine fn4 hC (stAt 27) "book" "zone" "t" "now" rfl rfl rfl (by kernel_rfl) (by walk_at "f") 100 ?_
 walk_at "g"
 refine getI hC (b_ba o) (b_bd o) rfl rfl rfl ?_
 walk_at "g"
 refine methD (b_tb o) rfl ?_
 walk_at "g"
 refine c_get (k:=(zone,t.l)) (b_tb o) rfl ?_
 cases hl:b.tab.lookup (zone,t.l) with
 | none =>
  walk_at "g"
  exact ⟨b,.none (none_lookup hl),o0⟩
 | some v =>
  refine byP fun PG kG=>?_
  obtain ⟨i,x,dir,hi,hh,hdir,rfl,hid⟩:=tab_mem I (mem_lookup hl)
  refine kG ?_
  have hm:=List.mem_of_getElem? hi
  walk_at "g"
  refine getI hC (b_ba o) (b_bd o) rfl rfl rfl ?_
  walk_at "g"
  refine subI (b_tk o) hid ?_
  walk_at "g"
  refine getI hC (b_ti o hm) (b_td o hm) rfl rfl rfl ?_
  walk_at "g"
  refine And.intro (fun h1=>?_) (fun h1=>?_)
  ·walk_at "g"
   refine up (t_drop hC o0 hi I (fun z=>by rw [hh.1] at z; cases z) (tab_len I)) rfl fun v H1 h=>?_
   refine byP fun PG kG=>?_
   obtain ⟨rfl,xl,o1⟩:=h
   refine kG ?_
   walk_at "g"
   exact ⟨_,.old hi hh h1,o1⟩
  ·walk_at "g"
   exact ⟨b,.hit hi hh h1 hdir,o0⟩
end
section
noncomputable def doesW (e:Exp) (zone:Int) (t:T6):Bool:=decide (e.zone=zone)&&([-1,t.a].contains e.source&&decide ([e.nf,e.p,e.t,e.port]=[2,t.p,t.c,t.d]))
theorem fitW_eq (e:Exp) (zone:Int) (t:T6) (now:Int):fitW e zone t now=(!e.gone&&decide (now<e.until_)&&doesW e zone t):=by
 unfold fitW doesW
 cases e.gone<;>cases decide (now<e.until_)<;>rfl
theorem filter_at {α:Type}{p:α→Bool}:∀{l:List α}{j:Nat}{y:α},(l.filter p)[j]?=some y→∃l1 l2,l=l1++y::l2∧l1.filter p=(l.filter p).take j∧p y=true
 | x::r,j,y,h=>by
  rw [List.filter_cons] at h ⊢
  split at h
  ·rename_i hx
   rw [if_pos hx]
   induction j using Nat.casesOn with
   | zero=>cases h; exact ⟨[],r,rfl,rfl,hx⟩
   | succ j =>
    refine byP fun PG kG=>?_
    obtain ⟨l1,l2,e1,e2,e3⟩:=filter_at (l:=r) (j:=j) h
    refine kG ?_
    exact ⟨x::l1,l2,by rw [e1]; rfl,by rw [List.filter_cons,if_pos hx,e2]; rfl,e3⟩
  ·rename_i hx
   rw [if_neg hx]
   refine byP fun PG kG=>?_
   obtain ⟨l1,l2,e1,e2,e3⟩:=filter_at (l:=r) (j:=j) h
   refine kG ?_
   exact ⟨x::l1,l2,by rw [e1]; rfl,by rw [List.filter_cons,if_neg hx,e2],e3⟩
inductive TakeB (b:Bk) (zone:Int) (t:T6) (now:Int):PV→Bk→Prop
 | none:(∀e∈b.exps,fitW e.d zone t now=false)→TakeB b zone t now .none b
 | take {l1 l2:List BE}{e:BE}:b.exps=l1++e::l2→(∀y∈l1,fitW y.d zone t now=false)→fitW e.d zone t now=true→TakeB b zone t now (.ref e.ad) {b with exps:=l1++e.dead::l2}
variable {C:Cfg}(hC:CK C) {H:GHeap}{F:List Cell}
include hC
theorem t_does {e:BE}{zone:Int}{t:T6}(hi:H e.ad=some (.inst 262 e.dx)) (hd:H e.dx=some (.sdict e.kv)):CallOk C 1 (.ref 280) [.ref e.ad,.int zone,t.pv] H (fun v H'=>v=.bool (doesW e.d zone t)∧H'=H):=by
 refine fn3 hC (stAt 44) "expect" "zone" "t" rfl rfl rfl (by kernel_rfl) (by walk_at "f") 100 ?_
 walk_at "g"
 refine getI hC hi hd rfl rfl rfl ?_
 walk_at "g"
 refine getI hC hi hd rfl rfl rfl ?_
 walk_at "g"
 refine And.intro (fun h1=>?_) (fun h1=>?_)
 ·walk_at "g"
  rw [show doesW e.d zone t=false by unfold doesW; rw [decide_eq_false h1]; rfl]; exact ⟨rfl,rfl⟩
 walk_at "g"
 refine And.intro (fun h2=>?_) (fun h2=>?_)
 ·walk_at "g"
  rw [show doesW e.d zone t=false by
   unfold doesW
   rw [decide_eq_false (show ¬[e.d.nf,e.d.p,e.d.t,e.d.port]=[2,t.p,t.c,t.d] from fun z=>h2 (List.cons.inj z).1),Bool.and_false,Bool.and_false]]
  exact ⟨rfl,rfl⟩
 walk_at "g"
 refine And.intro (fun h3=>?_) (fun h3=>?_)
 ·walk_at "g"
  rw [show doesW e.d zone t=false by
   unfold doesW
   rw [decide_eq_false (show ¬[e.d.nf,e.d.p,e.d.t,e.d.port]=[2,t.p,t.c,t.d] from fun z=>h3 (List.cons.inj (List.cons.inj z).2).1),Bool.and_false,Bool.and_false]]
  exact ⟨rfl,rfl⟩
 have rest:∀s:Bool,[-1,t.a].contains e.d.source=s→doesW e.d zone t=(s&&(decide (e.d.t=t.c)&&decide (e.d.port=t.d))):=fun s hs=>by
  unfold doesW
  rw [decide_eq_true h1,hs,h2,h3]
  have:decide ([2,t.p,e.d.t,e.d.port]=[2,t.p,t.c,t.d])=(decide (e.d.t=t.c)&&decide (e.d.port=t.d)):=by
   by_cases x:e.d.t=t.c<;>by_cases y:e.d.port=t.d<;>simp [x,y]
  rw [this,Bool.true_and]
 walk_at "g"
 refine And.intro (fun h4=>?_) (fun h4=>?_)
 ·have hs:=rest true (by rw [List.contains_cons,show (e.d.source == -1)=true from h4]; rfl)
  walk_at "g"
  refine And.intro (fun _=>?_) (fun h5=>by rw [h4] at h5; cases h5)
  walk_at "g"
  refine And.intro (fun h6=>?_) (fun h6=>?_)
  ·walk_at "g"
   rw [hs,h6]; exact ⟨rfl,rfl⟩
  ·walk_at "g"
   rw [hs,h6]; exact ⟨rfl,rfl⟩
 ·walk_at "g"
  refine And.intro (fun h5=>?_) (fun h5=>?_)
  ·have hs:=rest true (by rw [List.contains_cons,List.contains_cons,show (e.d.source == t.a)=true from h5]; simp)
   walk_at "g"
   refine And.intro (fun h6=>?_) (fun h6=>?_)
   ·walk_at "g"
    rw [hs,h6]; exact ⟨rfl,rfl⟩
   ·walk_at "g"
    rw [hs,h6]; exact ⟨rfl,rfl⟩
  ·have hs:=rest false (by rw [List.contains_cons,List.contains_cons,show (e.d.source == -1)=false from h4,show (e.d.source == t.a)=false from h5]; rfl)
   walk_at "g"
   rw [hs,h5]; exact ⟨rfl,rfl⟩
theorem t_take {b:Bk}{zone now:Int}{t:T6}(o:Own H (b.cells++F)) (I:BInv b):CallOk C 2 (.ref 287) [.ref b.ba,.int zone,t.pv,.int now] H (fun v H'=>∃b',TakeB b zone t now v b'∧Own H' (b'.cells++F)):=by
 have o0:=o
 rw [cellsW_is] at o
 have hz:b.xs.length≤1000:=by
  unfold Bk.xs
  rw [List.length_map]
  exact Nat.le_trans (List.length_filter_le _ _) (Nat.le_trans I.exps (by decide))
 refine fn4 hC (stAt 45) "book" "zone" "t" "now" rfl rfl rfl (by kernel_rfl) (by walk_at "f") 100 ?_
 walk_at "g"
 refine getI hC (b_ba o) (b_bd o) rfl rfl rfl ?_
 walk_at "g"
 refine c_len (.inl (b_xl o)) (Nat.le_trans hz (by decide)) ?_
 walk_at "g"
 refine c_range ?_
 walk_at "g"
 refine ⟨_,_,.rng b.xs.length (Nat.lt_of_le_of_lt hz (by decide)),by rw [List.length_map,List.length_range]; exact Nat.lt_of_le_of_lt hz (by decide),?_⟩
 refine for_st hC.wok (σ:=Unit) (fun _=>[("book",.ref b.ba),("zone",.int zone),("t",t.pv),("now",.int now)]) (fun j _ H'=>Own H' (b.cells++F)∧∀y∈(b.exps.filter (!·.d.gone)).take j,fitW y.d zone t now=false) () rfl ⟨o0,fun y hy=>by simp at hy⟩ (fun _ _ _ _=>.rng _ (Nat.lt_of_le_of_lt hz (by decide))) (fun j y _ H1 hy h=>?_) (fun _ H1 h=>?_)
 ·obtain ⟨o1',hno⟩:=h
  have o1:=o1'
  rw [cellsW_is] at o1
  rw [List.getElem?_map] at hy
  obtain ⟨j',hj',rfl⟩:=Option.map_eq_some_iff.mp hy
  have hlt:=(List.getElem?_eq_some_iff.mp hj').1
  rw [List.length_range] at hlt
  obtain rfl:j'=j:=by
   rw [List.getElem?_range hlt] at hj'
   exact (Option.some.inj hj').symm
  have hxs:b.xs.length=(b.exps.filter (!·.d.gone)).length:=by unfold Bk.xs; rw [List.length_map]
  have hlt2:j'<(b.exps.filter (!·.d.gone)).length:=hxs▸hlt
  obtain ⟨e,he⟩:∃e,(b.exps.filter (!·.d.gone))[j']?=some e:=⟨_,List.getElem?_eq_getElem hlt2⟩
  obtain ⟨l1,l2,e1,e2,e3⟩:=filter_at he
  have hm:e∈b.exps:=(List.mem_filter.mp (List.mem_of_getElem? he)).1
  have hi:=b_ei o1 hm
  have hd:=b_ed o1 hm
  have next:fitW e.d zone t now=false→∀y∈(b.exps.filter (!·.d.gone)).take (j'+1),fitW y.d zone t now=false:=fun hf y hy=>by
   rw [List.take_add_one,he] at hy
   rcases List.mem_append.mp hy with hy | hy
   ·exact hno y hy
   ·rw [List.mem_singleton.mp hy]; exact hf
  walk_at "g"
  refine getI hC (b_ba o1) (b_bd o1) rfl rfl rfl ?_
  walk_at "g"
  refine subL (.inl (b_xl o1)) (Int.natCast_nonneg _) (by omega) (x:=.ref e.ad) (by
   rw [Int.toNat_natCast]
   unfold Bk.xs
   rw [List.getElem?_map,he]; rfl) ?_
  walk_at "g"
  refine getI hC hi hd rfl rfl rfl ?_
  walk_at "g"
  have hg:e.d.gone=false:=by simpa using e3
  refine And.intro (fun h1=>?_) (fun h1=>?_)
  ·walk_at "g"
   refine up (t_does hC (zone:=zone) (t:=t) hi hd) rfl fun v H2 h=>?_
   obtain ⟨rfl,rfl⟩:=h
   walk_at "g"
   refine And.intro (fun h2=>?_) (fun h2=>?_)
   ·walk_at "g"
    refine getI hC (b_ba o1) (b_bd o1) rfl rfl rfl ?_
    walk_at "g"
    refine di_list (b_xl o1) (Int.natCast_nonneg _) (by first | exact Int.ofNat_lt.mpr hlt | omega) hz ?_
    have o2:=b_setXs o1 (b.xs.eraseIdx (Int.toNat (j':Int)))
    walk_at "g"
    refine ⟨_,.take e1 (fun y hy=>?_) (by rw [fitW_eq,hg,decide_eq_true h1,h2]; rfl),?_⟩
    ·cases hgy:y.d.gone with
     | true=>rw [fitW_eq,hgy]; rfl
     | false =>
      refine hno y ?_
      rw [←e2]
      exact List.mem_filter.mpr ⟨hy,by rw [hgy]; rfl⟩
    ·rw [cellsW_is]
     have ex:({b with exps:=l1++e.dead::l2}:Bk).xs=b.xs.eraseIdx (Int.toNat (j':Int)):=by
      unfold Bk.xs
      rw [Int.toNat_natCast,e1,List.filter_append,List.filter_append,List.filter_cons,if_neg (by simp [BE.dead]),List.filter_cons,if_pos (by rw [hg]; rfl),List.map_append,List.map_append,List.map_cons]
      have hl:((l1.filter (!·.d.gone)).map fun x:BE=>PV.ref x.ad).length=j':=by
       rw [List.length_map,e2,List.length_take]; exact Nat.min_eq_left (Nat.le_of_lt hlt2)
      rw [List.eraseIdx_append_of_length_le (Nat.le_of_eq hl),hl,Nat.sub_self]; rfl
     have ec:(l1++e.dead::l2).flatMap BE.cells=b.exps.flatMap BE.cells:=by
      rw [e1,List.flatMap_append,List.flatMap_append]; rfl
     have:({b with exps:=l1++e.dead::l2}:Bk).cellsW ({b with exps:=l1++e.dead::l2}:Bk).tab ({b with exps:=l1++e.dead::l2}:Bk).ids ({b with exps:=l1++e.dead::l2}:Bk).xs=b.cellsW b.tab b.ids (b.xs.eraseIdx (Int.toNat (j':Int))):=by
      rw [ex]
      unfold Bk.cellsW
      dsimp only
      rw [ec]; rfl
     rw [this]; exact o2
   ·walk_at "g"
    exact ⟨(),rfl,o1',next (by rw [fitW_eq,h2,Bool.and_false])⟩
  ·walk_at "g"
   exact ⟨(),rfl,o1',next (by rw [fitW_eq,decide_eq_false h1,Bool.and_false,Bool.false_and])⟩
 ·obtain ⟨o1,hno⟩:=h
  walk_at "g"
  refine ⟨b,.none (fun e he=>?_),o1⟩
  cases hg:e.d.gone with
  | true=>rw [fitW_eq,hg]; rfl
  | false =>
   refine hno e ?_
   rw [List.length_map,List.length_range]
   have hxs:b.xs.length=(b.exps.filter (!·.d.gone)).length:=by unfold Bk.xs; rw [List.length_map]
   rw [hxs,List.take_length]
   exact List.mem_filter.mpr ⟨he,by rw [hg]; rfl⟩
end
section
theorem filter_map_set {α β:Type}(p:α→Bool) (f:α→β) {l:List α}{i:Nat}{x x':α}(h:l[i]?=some x) (hp:p x'=p x) (hf:f x'=f x):((l.set i x').filter p).map f=(l.filter p).map f:=by
 refine byP fun PG kG=>?_
 obtain ⟨l1,l2,e,_,es⟩:=split_at h
 refine kG ?_
 rw [es,e,List.filter_append,List.filter_append,List.filter_cons,List.filter_cons,hp]
 split
 ·simp only [List.map_append,List.map_cons,hf]
 ·rfl
structure SameB (x x':BT'):Prop where
 ad:x'.ad=x.ad
 dx:x'.dx=x.dx
 num:x'.d.num=x.d.num
 zone:x'.d.zone=x.d.zone
 a:x'.d.a=x.d.a
 b:x'.d.b=x.d.b
 isIn:x'.d.isIn=x.d.isIn
section
variable {H:GHeap}{F:List Cell}{b:Bk}{i:Nat}{x x':BT'}
theorem setT_tab (h:b.talks[i]?=some x) (s:SameB x x'):(b.setT i x').tab=b.tab∧(b.setT i x').ids=b.ids:=by
 constructor
 ·unfold Bk.tab Bk.setT
  dsimp only
  rw [List.flatMap_def,List.flatMap_def,filter_map_set (fun x:BT'=>x.d.isIn) (fun x=>x.d.rows) h s.isIn (by unfold BTalk.rows; rw [s.num,s.zone,s.a,s.b])]
 ·unfold Bk.ids Bk.setT
  dsimp only
  rw [filter_map_set (fun x:BT'=>x.d.isIn) (fun x:BT'=>(x.d.num,PV.ref x.ad)) h s.isIn (by rw [s.num,s.ad])]
theorem b_set (o:Own H (b.cells++F)) (h:b.talks[i]?=some x) (s:SameB x x'):Own (H.set x.dx (.sdict x'.kv)) ((b.setT i x').cells++F):=by
 rw [cellsW_is] at o ⊢
 have z:=b_setTd (x':=x') o h s.ad s.dx
 have e:=setT_tab h s
 rw [e.1,e.2]; exact z
theorem BInv.setT (I:BInv b) (h:b.talks[i]?=some x) (s:SameB x x'):BInv (b.setT i x'):=by
 have e:=setT_tab h s
 have hm:=List.mem_of_getElem? h
 refine ⟨by rw [e.1]; exact I.tab,by rw [e.2]; exact I.ids,fun y hy=>?_,?_,I.exps⟩
 ·rcases List.mem_or_eq_of_mem_set hy with hy | rfl
  ·exact I.ne y hy
  ·rw [s.a,s.b]; exact I.ne x hm
 ·show (b.talks.set i x').length≤60
  rw [List.length_set]; exact I.many
theorem b_i (o:Own H (b.cells++F)) (hm:x∈b.talks):H x.ad=some (.inst 123 x.dx):=by rw [cellsW_is] at o; exact b_ti o hm
theorem b_d (o:Own H (b.cells++F)) (hm:x∈b.talks):H x.dx=some (.sdict x.kv):=by rw [cellsW_is] at o; exact b_td o hm
end
noncomputable def BT'.till (x:BT') (u:Int):BT':={x with d:={x.d with until_:=u}}
noncomputable def BT'.stat (x:BT') (s:Int):BT':={x with d:={x.d with status:=s}}
theorem bw {H:GHeap}{F:List Cell}{b:Bk}(o:Own H (b.cells++F)):Own H (b.cellsW b.tab b.ids b.xs++F):=cellsW_is b▸o
theorem same_till (x:BT') (u:Int):SameB x (x.till u):=⟨rfl,rfl,rfl,rfl,rfl,rfl,rfl⟩
theorem same_stat (x:BT') (u:Int):SameB x (x.stat u):=⟨rfl,rfl,rfl,rfl,rfl,rfl,rfl⟩
theorem putB {C:Cfg}(hC:CK C) {H:GHeap}{F:List Cell}{b:Bk}{i:Nat}{x x':BT'}{name:Str}{v:PV}{Q:GHeap→Prop}(o:Own H (b.cells++F)) (h:b.talks[i]?=some x) (s:SameB x x') (h3:atOk 123 name=true) (h4:putD name v x.kv=x'.kv)
  (q:∀H',Own H' ((b.setT i x').cells++F)→(b.setT i x').talks[i]?=some x'→Q H'):∃H',PutA C H (.ref x.ad) name v H'∧Q H' :=
 putI hC (b_i o (List.mem_of_getElem? h)) (b_d o (List.mem_of_getElem? h)) h3 h4 rfl (q _ (b_set o h s) (set_at h x'))
noncomputable def goB (x:BT') (now:Int):BT':=if x.d.a.p=17 then (if ¬Builtin.bitAnd x.d.status 2=0∧x.d.since+2000<now then (x.till (now+120000)).stat (Builtin.bitOr x.d.status 4) else x.till (now+30000)) else x.till (now+600000)
theorem goB_same (x:BT') (now:Int):SameB x (goB x now):=by
 unfold goB
 split
 ·split<;>exact ⟨rfl,rfl,rfl,rfl,rfl,rfl,rfl⟩
 ·exact ⟨rfl,rfl,rfl,rfl,rfl,rfl,rfl⟩
variable {C:Cfg}(hC:CK C) {H:GHeap}{F:List Cell}
include hC
theorem t_goudp {b:Bk}{i:Nat}{x:BT'}{pk:PV}{dir now:Int}(o:Own H (b.cells++F)) (hx:b.talks[i]?=some x) (hp:x.d.a.p=17) :
  CallOk C 1 (.ref 224) [.ref b.ba,.ref x.ad,pk,.int dir,.int now] H (fun v H'=>v=.str "ok" ∧ Own H' ((b.setT i (goB x now)).cells++F)):=by
 have hm:=List.mem_of_getElem? hx
 have hi:=b_i o hm
 have hd:=b_d o hm
 refine fn5 hC (stAt 38) "book" "talk" "packet" "direction" "now" rfl rfl rfl (by kernel_rfl) (by walk_at "f") 100 ?_
 have plain:¬(¬Builtin.bitAnd x.d.status 2=0∧x.d.since+2000<now)→Own (H.set x.dx (.sdict (x.till (now+30000)).kv)) ((b.setT i (goB x now)).cells++F):=fun h=>by
  rw [show goB x now=x.till (now+30000) by unfold goB; rw [if_pos hp,if_neg h]]
  exact b_set o hx ⟨rfl,rfl,rfl,rfl,rfl,rfl,rfl⟩
 walk_at "g"
 refine getI hC hi hd rfl rfl rfl ?_
 walk_at "g"
 refine And.intro (fun h1=>?_) (fun h1=>?_)
 ·walk_at "g"
  refine getI hC hi hd rfl rfl rfl ?_
  walk_at "g"
  refine And.intro (fun h2=>?_) (fun h2=>?_)
  ·walk_at "g"
   refine putB hC o hx (same_till x (now+120000)) rfl rfl fun H1 o1 hx1=>?_
   walk_at "g"
   refine getI hC (b_i (x:=x.till (now+120000)) o1 (List.mem_of_getElem? hx1)) (b_d o1 (List.mem_of_getElem? hx1)) rfl rfl rfl ?_
   walk_at "g"
   refine putB (x:=x.till (now+120000)) hC o1 hx1 (same_stat _ (Builtin.bitOr x.d.status 4)) rfl rfl fun H2 o2 _=>?_
   walk_at "g"
   refine ⟨rfl,?_⟩
   have e:(b.setT i (x.till (now+120000))).setT i ((x.till (now+120000)).stat (Builtin.bitOr x.d.status 4))=b.setT i (goB x now):=by
    unfold Bk.setT goB
    dsimp only
    rw [List.set_set,if_pos hp,if_pos ⟨h1,h2⟩]
   exact e▸o2
  ·walk_at "g"
   refine putI hC hi hd rfl (kvs':=(x.till (now+30000)).kv) rfl rfl ?_
   walk_at "g"
   exact ⟨rfl,plain fun z=>h2 z.2⟩
 ·walk_at "g"
  refine putI hC hi hd rfl (kvs':=(x.till (now+30000)).kv) rfl rfl ?_
  walk_at "g"
  exact ⟨rfl,plain fun z=>z.1 h1⟩
theorem t_goplain {b:Bk}{i:Nat}{x:BT'}{pk:PV}{dir now:Int}(o:Own H (b.cells++F)) (hx:b.talks[i]?=some x) (hp:¬x.d.a.p=17) :
  CallOk C 1 (.ref 231) [.ref b.ba,.ref x.ad,pk,.int dir,.int now] H (fun v H'=>v=.str "ok" ∧ Own H' ((b.setT i (goB x now)).cells++F)):=by
 have hm:=List.mem_of_getElem? hx
 have hi:=b_i o hm
 have hd:=b_d o hm
 refine fn5 hC (stAt 39) "book" "talk" "packet" "direction" "now" rfl rfl rfl (by kernel_rfl) (by walk_at "f") 100 ?_
 walk_at "g"
 refine putB hC o hx (same_till x (now+600000)) rfl rfl fun H1 o1 _=>?_
 walk_at "g"
 rw [show goB x now=x.till (now+600000) from if_neg hp]
 exact ⟨rfl,o1⟩
noncomputable def BT'.sinceAt (x:BT') (s:Int):BT':={x with d:={x.d with since:=s}}
theorem t_beginany {b:Bk}{i:Nat}{x:BT'}{pk:PV}{now:Int}(o:Own H (b.cells++F)) (hx:b.talks[i]?=some x) :
  CallOk C 1 (.ref 217) [.ref b.ba,.ref x.ad,pk,.int now] H (fun v H'=>v=.bool true∧Own H' ((b.setT i (x.sinceAt now)).cells++F)):=by
 have hm:=List.mem_of_getElem? hx
 have hi:=b_i o hm
 have hd:=b_d o hm
 refine fn4 hC (stAt 37) "book" "talk" "packet" "now" rfl rfl rfl (by kernel_rfl) (by walk_at "f") 100 ?_
 walk_at "g"
 refine putB hC o hx (x':=x.sinceAt now) ⟨rfl,rfl,rfl,rfl,rfl,rfl,rfl⟩ rfl rfl fun H1 o1 _=>?_
 walk_at "g"
 exact ⟨rfl,o1⟩
theorem t_tracker {b:Bk}{p:Int}(o:Own H (b.cells++F)):CallOk C 1 (.ref 326) [.ref b.ba,.int p] H (fun v H'=>v=.ref (if p=17 then b.t17 else b.tm)∧H'=H):=by
 rw [cellsW_is] at o
 refine fn2 hC (stAt 50) "book" "protocol" rfl rfl rfl (by kernel_rfl) (by walk_at "f") 100 ?_
 walk_at "g"
 refine getI hC (b_ba o) (b_bd o) rfl rfl rfl ?_
 walk_at "g"
 refine in_idict (b_tr o) ?_
 by_cases h1:p=17
 ·subst h1
  refine boolT (fun _=>?_) (fun h=>by cases h)
  walk_at "g"
  refine getI hC (b_ba o) (b_bd o) rfl rfl rfl ?_
  walk_at "g"
  refine subI (b_tr o) rfl ?_
  walk_at "g"
  exact ⟨rfl,rfl⟩
 ·by_cases h2:p=-1
  ·subst h2
   refine boolT (fun _=>?_) (fun h=>by cases h)
   walk_at "g"
   refine getI hC (b_ba o) (b_bd o) rfl rfl rfl ?_
   walk_at "g"
   refine subI (b_tr o) rfl ?_
   walk_at "g"
   exact ⟨rfl,rfl⟩
  ·have e:([(17,PV.ref b.t17),(-1,PV.ref b.tm)]:List (Int×PV)).lookup p=none:=lookup_none' fun q hq=>by
    rcases List.mem_cons.mp hq with rfl | hq
    ·exact fun z=>h1 z.symm
    ·rw [List.mem_singleton.mp hq]; exact fun z=>h2 z.symm
   rw [e]
   refine boolT (fun h=>by cases h) (fun _=>?_)
   walk_at "g"
   refine getI hC (b_ba o) (b_bd o) rfl rfl rfl ?_
   walk_at "g"
   refine in_idict (b_tr o) ?_
   refine boolT (fun _=>?_) (fun h=>by cases h)
   walk_at "g"
   refine getI hC (b_ba o) (b_bd o) rfl rfl rfl ?_
   walk_at "g"
   refine subI (b_tr o) rfl ?_
   walk_at "g"
   rw [if_neg h1]
   exact ⟨rfl,rfl⟩
end
section
theorem Own.swap {H:GHeap}{A B F:List Cell}(o:Own H (A++(B++F))):Own H (B++(A++F)):=o.perm (by
 rw [←List.append_assoc,←List.append_assoc]
 exact List.perm_append_comm.append_right _)
noncomputable def stB (x:BTalk) (dir:Int):Int:=if dir=1∨¬Builtin.bitAnd x.status 2=0 then 2 else if ¬Builtin.bitAnd x.status 1=0 then 4 else 8
inductive FoundB (b:Bk) (s:Sc) (zone:Int) (t:T6):Bool→Bk→Sc→Prop
 | no {b':Bk}:LookB b zone t s.now .none b'→FoundB b s zone t false b' s
 | yes {i:Nat}{x:BT'}{dir:Int}:b.talks[i]?=some x→hitB x.d zone t→¬x.d.until_≤s.now→dir=(if t=x.d.a then 0 else 1)→FoundB b s zone t true b (s.put (.ref x.ad) (stB x.d dir) dir)
variable {C:Cfg}(hC:CK C) {H:GHeap}{F:List Cell}
include hC
theorem t_found {b:Bk}{s:Sc}{zone:Int}{t:T6}(o:Own H (s.cells++(b.cells++F))) (I:BInv b) (hs:s.talks=.ref b.ba) :
  CallOk C 4 (.ref 354) [.ref s.ad,.int zone,t.pv] H (fun v H'=>∃r b' s',FoundB b s zone t r b' s'∧v=.bool r∧Own H' (s'.cells++(b'.cells++F))):=by
 have i0:=o.at_ (s.ad,.inst 408 s.dx) (.head _)
 have d0:=o.at_ (s.dx,.sdict s.kv) (.tail _ (.head _))
 refine fn3 hC (stAt 54) "scene" "zone" "t" rfl rfl rfl (by kernel_rfl) (by walk_at "f") 100 ?_
 walk_at "g"
 refine getI hC i0 d0 rfl (show _=some (.ref b.ba) by rw [←hs]; rfl) rfl ?_
 walk_at "g"
 refine getI hC i0 d0 rfl rfl rfl ?_
 walk_at "g"
 refine up (t_lookup hC o.swap I) rfl fun v H1 h=>?_
 obtain ⟨b',hl,o1⟩:=h
 have o1:=o1.swap
 have no:LookB b zone t s.now .none b'→∃r b'' s',FoundB b s zone t r b'' s'∧PV.bool false=.bool r∧Own H1 (s'.cells++(b''.cells++F)):=fun h=>⟨false,b',s,.no h,rfl,o1⟩
 cases hl with
 | none h =>
  walk_at "g"
  exact no (.none h)
 | old h1 h2 h3 =>
  walk_at "g"
  exact no (.old h1 h2 h3)
 | @hit i x dir h1 h2 h3 h4 =>
  have hm:=List.mem_of_getElem? h1
  have ob:=o1.swap
  have hi:=b_i ob hm
  have hd:=b_d ob hm
  have fin:∀st,st=stB x.d dir→∀dir',dir'=dir→CallOk C 3 (.ref 347) [.ref s.ad,.ref x.ad,.int st,.int dir'] H1 fun v H'=>v=.none∧∃r b'' s',FoundB b s zone t r b'' s'∧PV.bool true=.bool r∧Own H' (s'.cells++(b''.cells++F)):=fun st hst dir' hdir=>by
   subst hst; subst hdir
   exact up (t_put hC o1) rfl fun v H' h=>⟨h.1,true,b,_,.yes h1 h2 h3 h4,rfl,h.2⟩
  walk_at "g"
  refine And.intro (fun h5=>?_) (fun h5=>?_)
  ·walk_at "g"
   refine up (fin 2 (if_pos (.inl h5)).symm dir rfl) rfl fun v H' h=>?_
   obtain ⟨rfl,h⟩:=h
   walk_at "g"
   exact h
  ·walk_at "g"
   refine getI hC hi hd rfl rfl rfl ?_
   walk_at "g"
   refine And.intro (fun h6=>?_) (fun h6=>?_)
   ·walk_at "g"
    refine up (fin 2 (if_pos (.inr h6)).symm dir rfl) rfl fun v H' h=>?_
    obtain ⟨rfl,h⟩:=h
    walk_at "g"
    exact h
   ·have hn:¬(dir=1∨¬Builtin.bitAnd x.d.status 2=0):=fun z=>z.elim h5 fun z=>z h6
    have hd0:(0:Int)=dir:=by
     rw [h4] at h5 ⊢
     split
     ·rfl
     ·rename_i z; rw [if_neg z] at h5; exact absurd rfl h5
    walk_at "g"
    refine getI hC hi hd rfl rfl rfl ?_
    walk_at "g"
    refine And.intro (fun h7=>?_) (fun h7=>?_)
    ·walk_at "g"
     refine up (fin 4 (by unfold stB; rw [if_neg hn,if_pos h7]) 0 hd0) rfl fun v H' h=>?_
     obtain ⟨rfl,h⟩:=h
     walk_at "g"
     exact h
    ·walk_at "g"
     refine up (fin 8 (by unfold stB; rw [if_neg hn,if_neg (fun z=>z h7)]) 0 hd0) rfl fun v H' h=>?_
     obtain ⟨rfl,h⟩:=h
     walk_at "g"
     exact h
noncomputable def BT'.rel (x:BT') (m mk:Int):BT':={x with d:={x.d with status:=Builtin.bitOr x.d.status 1,master:=m,mark:=mk}}
noncomputable def IsMark (b:Bk) (n m:Int):Prop:=(∃y∈b.talks,y.d.isIn=true∧y.d.num=n∧m=y.d.mark)∨((∀y∈b.talks,y.d.isIn=true→y.d.num≠n)∧m=0)
inductive RelB (b:Bk) (i:Nat) (x:BT') (zone now:Int):Bool→Bk→Prop
 | no:(∀e∈b.exps,fitW e.d zone x.d.a now=false)→RelB b i x zone now false b
 | yes {l1 l2:List BE}{e:BE}{mk:Int}:b.exps=l1++e::l2→(∀y∈l1,fitW y.d zone x.d.a now=false)→fitW e.d zone x.d.a now=true→IsMark b e.d.master mk →
   RelB b i x zone now true (({b with exps:=l1++e.dead::l2}:Bk).setT i (x.rel e.d.master mk))
omit hC in
theorem setT_setT {b:Bk}{i:Nat}{x y:BT'}:(b.setT i x).setT i y=b.setT i y:=congrArg (fun l=>({b with talks:=l}:Bk)) (List.set_set ..)
omit hC in
theorem other_at {α:Type}{l:List α}{i:Nat}{x x' y:α}(h:l[i]?=some x) (hy:y∈l) (ne:y≠x):y∈l.set i x':=by
 obtain ⟨j,hj⟩:=List.mem_iff_getElem?.mp hy
 have hij:i≠j:=fun e=>ne (Option.some.inj (hj.symm.trans (e▸h)))
 exact List.mem_of_getElem? (i:=j) (by rw [List.getElem?_set_ne hij]; exact hj)
theorem t_relate {b:Bk}{s:Sc}{zone:Int}{i:Nat}{x:BT'}(o:Own H (s.cells++(b.cells++F))) (I:BInv b) (hs:s.talks=.ref b.ba) (hx:b.talks[i]?=some x) (hm0:x.d.mark=0) (hin:x.d.isIn=false) :
  CallOk C 3 (.ref 361) [.ref s.ad,.ref x.ad,.int zone] H (fun v H'=>∃r b',RelB b i x zone s.now r b'∧v=.bool r∧Own H' (s.cells++(b'.cells++F))):=by
 have i0:=o.at_ (s.ad,.inst 408 s.dx) (.head _)
 have d0:=o.at_ (s.dx,.sdict s.kv) (.tail _ (.head _))
 have hm:=List.mem_of_getElem? hx
 refine fn3 hC (stAt 55) "scene" "talk" "zone" rfl rfl rfl (by kernel_rfl) (by walk_at "f") 100 ?_
 walk_at "g"
 refine getI hC i0 d0 rfl (show _=some (.ref b.ba) by rw [←hs]; rfl) rfl ?_
 walk_at "g"
 refine getI hC (b_i o.swap hm) (b_d o.swap hm) rfl rfl rfl ?_
 walk_at "g"
 refine getI hC i0 d0 rfl rfl rfl ?_
 walk_at "g"
 refine up (t_take hC o.swap I) rfl fun v H1 h=>?_
 obtain ⟨b',ht,o1⟩:=h
 cases ht with
 | none hno =>
  walk_at "g"
  exact ⟨false,b,.no hno,rfl,o1.swap⟩
 | @take l1 l2 e he hno hyes =>
  obtain ⟨b2,o1,ht,he2,hs2,hids,fin⟩:∃b2:Bk,Own H1 (b2.cells++(s.cells++F))∧b2.talks=b.talks∧e.dead∈b2.exps∧s.talks=.ref b2.ba∧b2.ids=b.ids ∧
    ∀H' mk,IsMark b e.d.master mk→Own H' ((b2.setT i (x.rel e.d.master mk)).cells++(s.cells++F))→∃r b',RelB b i x zone s.now r b'∧PV.bool true=.bool r∧Own H' (s.cells++(b'.cells++F)) :=
   ⟨_,o1,rfl,List.mem_append_right _ (.head _),hs,rfl,fun H' mk h o=>⟨true,_,.yes he hno hyes h,rfl,o.swap⟩⟩
  have hx:b2.talks[i]?=some x:=ht▸hx
  have hm1:=List.mem_of_getElem? hx
  have mark:∀n,(∃y∈b2.talks,y.d.isIn=true∧y.d.num=n∧b2.ids.lookup n=some (.ref y.ad)∧IsMark b n y.d.mark)∨(b2.ids.lookup n=none∧IsMark b n 0):=fun n=>by
   rw [hids,ht]
   cases hl:b.ids.lookup n with
   | none=>exact .inr ⟨rfl,.inr ⟨fun y hy hyin hn=>none_lookup hl (y.d.num,.ref y.ad) (List.mem_map.mpr ⟨y,List.mem_filter.mpr ⟨hy,hyin⟩,rfl⟩) hn,rfl⟩⟩
   | some v =>
    obtain ⟨y,hy,hyv⟩:=List.mem_map.mp (mem_lookup hl)
    obtain ⟨hym,hyin⟩:=List.mem_filter.mp hy
    exact .inl ⟨y,hym,hyin,congrArg Prod.fst hyv,congrArg some (congrArg Prod.snd hyv).symm,.inl ⟨y,hym,hyin,congrArg Prod.fst hyv,rfl⟩⟩
  clear he hno hyes hs hids ht o i0 d0 I
  walk_at "g"
  refine getI hC (b_i o1 hm1) (b_d o1 hm1) rfl rfl rfl ?_
  walk_at "g"
  refine putB hC o1 hx (same_stat x (Builtin.bitOr x.d.status 1)) rfl rfl fun H2 o2 hx2=>?_
  walk_at "g"
  refine getI hC (b_ei (x:=e.dead) (bw o2) he2) (b_ed (x:=e.dead) (bw o2) he2) rfl rfl rfl ?_
  walk_at "g"
  refine putB (x:=x.stat (Builtin.bitOr x.d.status 1)) hC o2 hx2 (x':=x.rel e.d.master 0) ⟨rfl,rfl,rfl,rfl,rfl,rfl,rfl⟩ rfl (by
   show putD _ _ (BT'.kv _)=_
   unfold BT'.rel
   rw [←hm0]; rfl) fun H3 o3 hx3=>?_
  rw [setT_setT] at o3 hx3
  have tk3:H3 b2.tk=some (.idict b2.ids):=(setT_tab (x':=x.rel e.d.master 0) hx ⟨rfl,rfl,rfl,rfl,rfl,rfl,rfl⟩).2▸b_tk (b:=b2.setT i (x.rel e.d.master 0)) (bw o3)
  have i3:=o3.swap.at_ (s.ad,.inst 408 s.dx) (.head _)
  have d3:=o3.swap.at_ (s.dx,.sdict s.kv) (.tail _ (.head _))
  have hs3:s.kv.lookup ("talks" : Str)=some (PV.ref b2.ba):=by rw [←hs2]; rfl
  walk_at "g"
  refine getI hC (b_ei (x:=e.dead) (bw o3) he2) (b_ed (x:=e.dead) (bw o3) he2) rfl rfl rfl ?_
  walk_at "g"
  refine getI hC i3 d3 rfl hs3 rfl ?_
  walk_at "g"
  refine getI hC (b_ba (b:=b2.setT i (x.rel e.d.master 0)) (bw o3)) (b_bd (bw o3)) rfl rfl rfl ?_
  walk_at "g"
  refine in_idict tk3 ?_
  rw [show e.dead.d.master=e.d.master from rfl]
  rcases mark e.d.master with ⟨y,hym,hyin,hyn,hl,hmk⟩ | ⟨hl,hmk⟩
  ·rw [hl]
   refine boolT (fun _=>?_) (fun h=>by cases h)
   walk_at "g"
   refine getI hC i3 d3 rfl hs3 rfl ?_
   walk_at "g"
   refine getI hC (b_ba (b:=b2.setT i (x.rel e.d.master 0)) (bw o3)) (b_bd (bw o3)) rfl rfl rfl ?_
   walk_at "g"
   refine getI hC (b_ei (x:=e.dead) (bw o3) he2) (b_ed (x:=e.dead) (bw o3) he2) rfl rfl rfl ?_
   walk_at "g"
   refine subI tk3 hl ?_
   walk_at "g"
   have hy3:y∈(b2.setT i (x.rel e.d.master 0)).talks:=other_at hx hym fun e=>by rw [e,hin] at hyin; cases hyin
   refine getI hC (b_i o3 hy3) (b_d o3 hy3) rfl rfl rfl ?_
   walk_at "g"
   refine putB (x:=x.rel e.d.master 0) hC o3 hx3 (x':=x.rel e.d.master y.d.mark) ⟨rfl,rfl,rfl,rfl,rfl,rfl,rfl⟩ rfl rfl fun H4 o4 _=>?_
   rw [setT_setT] at o4
   walk_at "g"
   exact fin _ _ hmk o4
  ·rw [hl]
   refine boolT (fun h=>by cases h) (fun _=>?_)
   walk_at "g"
   exact fin _ _ hmk o3
end
section
noncomputable def newB (b:Bk) (zone now:Int) (t:T6):BTalk:={num:=b.last+1,zone,a:=t,b:=t.inv,until_:=0,since:=now,mark:=0,status:=0,master:=0,isIn:=false}
noncomputable def Bk.next (b:Bk):Bk:={b with last:=b.last+1}
noncomputable def Bk.addT (b:Bk) (x:BT'):Bk:={b with talks:=b.talks++[x]}
noncomputable def Bk.addE (b:Bk) (x:BE):Bk:={b with exps:=b.exps++[x]}
section
variable {H:GHeap}{F:List Cell}{b:Bk}{x:BT'}
theorem addT_tab (h:x.d.isIn=false):(b.addT x).tab=b.tab∧(b.addT x).ids=b.ids:=by
 unfold Bk.tab Bk.ids Bk.addT
 dsimp only
 rw [List.filter_append,List.filter_cons,if_neg (by rw [h]; exact Bool.false_ne_true),List.filter_nil,List.append_nil]
 exact ⟨rfl,rfl⟩
theorem own_addT (o:Own H (x.cells++(b.cells++F))) (h:x.d.isIn=false):Own H ((b.addT x).cells++F):=by
 have e:=addT_tab (b:=b) h
 refine o.perm ?_
 unfold Bk.cells Bk.base
 rw [e.1,e.2,show (b.addT x).xs=b.xs from rfl]
 show List.Perm _ ((b.baseW b.tab b.ids b.xs++((b.talks++[x]).flatMap BT'.cells++b.exps.flatMap BE.cells))++F)
 rw [List.flatMap_append,List.flatMap_cons,List.flatMap_nil,List.append_nil]
 simp only [←List.append_assoc]
 refine List.Perm.append_right _ (List.Perm.append_right _ ?_)
 simp only [List.append_assoc]
 rw [←List.append_assoc (b.baseW b.tab b.ids b.xs)]
 exact List.perm_append_comm
theorem BInv.addT (I:BInv b) (h:x.d.isIn=false) (hn:x.d.a≠x.d.b) (hl:b.talks.length<60):BInv (b.addT x):=by
 have e:=addT_tab (b:=b) h
 refine ⟨by rw [e.1]; exact I.tab,by rw [e.2]; exact I.ids,fun y hy=>?_,?_,I.exps⟩
 ·rcases List.mem_append.mp hy with hy | hy
  ·exact I.ne y hy
  ·rw [List.mem_singleton.mp hy]; exact hn
 ·show (b.talks++[x]).length≤60
  rw [List.length_append]; exact hl
theorem BInv.next (I:BInv b):BInv b.next:=⟨I.tab,I.ids,I.ne,I.many,I.exps⟩
theorem own_next (o:Own H (b.cells++F)):Own (H.set b.bd (.sdict b.next.kv)) (b.next.cells++F):=Own.put2 (g':=.sdict b.next.kv) o
theorem set_end {α:Type}(l:List α) (x y:α):(l++[x]).set l.length y=l++[y]:=by simp
theorem at_end {α:Type}(l:List α) (x:α):(l++[x])[l.length]?=some x:=by simp
theorem addT_set (y:BT'):(b.addT x).setT b.talks.length y=b.addT y:=by
 unfold Bk.setT Bk.addT
 dsimp only
 rw [set_end]
theorem addT_at:(b.addT x).talks[b.talks.length]?=some x:=at_end _ _
theorem b_go {p:Int}(o:Own H (b.cells++F)):H (if p=17 then b.t17 else b.tm)=some (.sdict [("begin",.ref 217),("go",.ref (if p=17 then 224 else 231))]):=by
 rw [cellsW_is] at o
 split
 ·exact b_t17 o
 ·exact b_tm o
theorem ids_len (I:BInv b):b.ids.length≤b.talks.length:=by
 unfold Bk.ids
 rw [List.length_map]
 exact List.length_filter_le _ _
end
inductive BeginB (b:Bk) (s:Sc) (zone:Int) (t:T6):Bk→Sc→Prop
 | mk {ad dx:Addr}{r:Bool}{b':Bk}:RelB (b.next.addT ⟨ad,dx,newB b zone s.now t⟩) b.talks.length ⟨ad,dx,newB b zone s.now t⟩ zone s.now r b'→BeginB b s zone t b' (s.put (.ref ad) (if r then 4 else 8) 0)
variable {C:Cfg}(hC:CK C) {H:GHeap}{F:List Cell}
include hC
theorem t_mkTalk {n t r z:PV}(o:Own H F):CallOk C 2 (.ref 123) [n,t,r,z] H (fun v H'=>∃ad dx,v=.ref ad∧Own H' ((ad,.inst 123 dx)::(dx,.sdict [("number",n),("original",t),("reply",r),("zone",z),("until",.int 0),("since",.int 0),("mark",.int 0),("status",.int 0),("state",.int 0),("sides",.none),("master",.int 0)])::F)) :=
 CodeOk.call (call_class (makeable hC (p:=(123,120)) (.tail _ (.head _))) fun x dx h1 h2=>CodeOk.mono (i_talk hC (o.mk2 h1 h2)) fun v H' h=>⟨h.1,x,dx,rfl,h.2⟩)
theorem t_mkExpect {m t z u:PV}(o:Own H F):CallOk C 2 (.ref 262) [m,t,z,u] H (fun v H'=>∃ad dx,v=.ref ad∧Own H' ((ad,.inst 262 dx)::(dx,.sdict [("master",m),("t",t),("zone",z),("until",u)])::F)) :=
 CodeOk.call (call_class (makeable hC (p:=(262,259)) (.tail _ (.tail _ (.tail _ (.head _))))) fun x dx h1 h2=>CodeOk.mono (i_expect hC (o.mk2 h1 h2)) fun v H' h=>⟨h.1,x,dx,rfl,h.2⟩)
theorem t_begin {b:Bk}{s:Sc}{zone:Int}{t:T6}(o:Own H (s.cells++(b.cells++F))) (I:BInv b) (hs:s.talks=.ref b.ba) (hp:t.p=17∨t.p=132) (hne:t≠t.inv) (hl:b.talks.length<60) (hpk:notVal s.packet=true) :
  CallOk C 4 (.ref 368) [.ref s.ad,.ref (if t.p=17 then b.t17 else b.tm),.int zone,t.pv] H (fun v H'=>v=.none∧∃b' s',BeginB b s zone t b' s'∧Own H' (s'.cells++(b'.cells++F))):=by
 have i0:=o.at_ (s.ad,.inst 408 s.dx) (.head _)
 have d0:=o.at_ (s.dx,.sdict s.kv) (.tail _ (.head _))
 refine fn4 hC (stAt 56) "scene" "tracker" "zone" "t" rfl rfl rfl (by kernel_rfl) (by walk_at "f") 100 ?_
 walk_at "g"
 refine getI hC i0 d0 rfl (show _=some (.ref b.ba) by rw [←hs]; rfl) rfl ?_
 walk_at "g"
 refine up (t_put hC o) rfl fun v H1 h=>?_
 obtain ⟨rfl,o1⟩:=h
 walk_at "g"
 refine up (t_invert hC hp) rfl fun v H2 h=>?_
 obtain ⟨rfl,rfl⟩:=h
 walk_at "g"
 have ob:=o1.swap
 have ow:=ob
 rw [cellsW_is] at ow
 refine getI hC (b_ba ow) (b_bd ow) rfl rfl rfl ?_
 walk_at "g"
 refine c_len_i (b_tk ow) (Nat.le_trans (ids_len I) (Nat.le_trans (Nat.le_of_lt hl) (by decide))) ?_
 walk_at "g"
 refine getI hC (b_ba ow) (b_bd ow) rfl rfl rfl ?_
 walk_at "g"
 refine And.intro (fun h1=>?_) (fun h1=>?_)
 ·have:=ids_len I
  exact absurd h1 (by lia)
 walk_at "g"
 refine getI hC (b_ba ow) (b_bd ow) rfl rfl rfl ?_
 walk_at "g"
 refine putI hC (b_ba ow) (b_bd ow) rfl (kvs':=b.next.kv) rfl rfl ?_
 have on:=own_next ob
 have onw:=on
 rw [cellsW_is] at onw
 have ia:=b_ba onw
 have ibd:=b_bd onw
 walk_at "g"
 refine getI hC ia ibd rfl rfl rfl ?_
 walk_at "g"
 refine up (t_mkTalk hC on) rfl fun v H3 h=>?_
 obtain ⟨ad,dx,rfl,o3⟩:=h
 have o4:Own H3 ((b.next.addT ⟨ad,dx,newB b zone 0 t⟩).cells++((s.put .none 1 0).cells++F)):=own_addT (x:=⟨ad,dx,newB b zone 0 t⟩) o3 rfl
 have hx:(b.next.addT ⟨ad,dx,newB b zone 0 t⟩).talks[b.talks.length]?=some ⟨ad,dx,newB b zone 0 t⟩:=addT_at
 have hset:∀y,(b.next.addT ⟨ad,dx,newB b zone 0 t⟩).setT b.talks.length y=b.next.addT y:=fun y=>addT_set (b:=b.next) y
 have i4:=b_i o4 (List.mem_of_getElem? hx)
 have d4:=b_d o4 (List.mem_of_getElem? hx)
 have o4s:=o4.swap
 have si4:=o4s.at_ (s.ad,.inst 408 s.dx) (.head _)
 have sd4:=o4s.at_ (s.dx,.sdict (s.put .none 1 0).kv) (.tail _ (.head _))
 walk_at "g"
 refine getI hC si4 sd4 rfl rfl rfl ?_
 walk_at "g"
 refine putI hC i4 d4 rfl (kvs':=(⟨ad,dx,newB b zone s.now t⟩:BT').kv) rfl rfl ?_
 have o5:=b_set (x':=⟨ad,dx,newB b zone s.now t⟩) o4 hx ⟨rfl,rfl,rfl,rfl,rfl,rfl,rfl⟩
 rw [hset] at o5
 have hx5:(b.next.addT ⟨ad,dx,newB b zone s.now t⟩).talks[b.talks.length]?=some ⟨ad,dx,newB b zone s.now t⟩:=addT_at
 have o5s:=o5.swap
 have si5:=o5s.at_ (s.ad,.inst 408 s.dx) (.head _)
 have sd5:=o5s.at_ (s.dx,.sdict (s.put .none 1 0).kv) (.tail _ (.head _))
 have g5:=b_go (p:=t.p) o5
 walk_at "g"
 refine subS g5 rfl ?_
 walk_at "g"
 refine getI hC si5 sd5 rfl rfl hpk ?_
 walk_at "g"
 refine getI hC si5 sd5 rfl rfl rfl ?_
 walk_at "g"
 refine up (t_beginany hC o5 hx5) rfl fun v H6 h=>?_
 obtain ⟨rfl,o6⟩:=h
 have hset6:∀y,(b.next.addT ⟨ad,dx,newB b zone s.now t⟩).setT b.talks.length y=b.next.addT y:=fun y=>addT_set (b:=b.next) y
 rw [hset6] at o6
 have hx6:(b.next.addT ⟨ad,dx,newB b zone s.now t⟩).talks[b.talks.length]?=some ⟨ad,dx,newB b zone s.now t⟩:=addT_at
 have o6s:Own H6 ((s.put .none 1 0).cells++((b.next.addT ⟨ad,dx,newB b zone s.now t⟩).cells++F)):=o6.swap
 have I6:BInv (b.next.addT ⟨ad,dx,newB b zone s.now t⟩):=BInv.addT (b:=b.next) I.next rfl hne hl
 have rel:=t_relate hC (zone:=zone) o6s I6 hs hx6 rfl rfl
 walk_at "g"
 refine up rel rfl fun v H7 h=>?_
 obtain ⟨r,b',hr,rfl,o7⟩:=h
 have fin:∀st,st=(if r=true then 4 else 8)→CallOk C 3 (.ref 347) [.ref s.ad,.ref ad,.int st,.int 0] H7 fun v H'=>v=.none∧∃b' s',BeginB b s zone t b' s'∧Own H' (s'.cells++(b'.cells++F)):=fun st hst=>by
  subst hst
  exact up (t_put hC (s:=s.put .none 1 0) o7) rfl fun v H' h=>⟨h.1,b',s.put (.ref ad) (if r=true then 4 else 8) 0,.mk hr,h.2⟩
 induction r using Bool.casesOn with
 | true =>
  walk_at "g"
  refine up (fin 4 rfl) rfl fun v H' h=>?_
  obtain ⟨rfl,h⟩:=h
  walk_at "g"
  exact ⟨rfl,h⟩
 | false =>
  walk_at "g"
  refine up (fin 8 rfl) rfl fun v H' h=>?_
  obtain ⟨rfl,h⟩:=h
  walk_at "g"
  exact ⟨rfl,h⟩
end
section
theorem go_known {p:Int}:fnKnown (.ref (if p=17 then 224 else 231))=true:=by split<;>rfl
theorem sh_again:SeqAt.shaped (PyData.str "again")=true:=by kernel_rfl
theorem sh_ok:SeqAt.shaped (PyData.str "ok")=true:=by kernel_rfl
theorem sh_invalid:SeqAt.shaped (PyData.str "invalid")=true:=by kernel_rfl
theorem sub_flat {α β:Type}{f:α→List β}{l1 l2:List α}(h:l1.Sublist l2):(l1.flatMap f).Sublist (l2.flatMap f):=by
 induction h with
 | slnil=>exact List.Sublist.refl _
 | cons a _ ih=>exact ih.trans (List.sublist_append_right _ _)
 | cons_cons a _ ih=>exact ih.append_left _
noncomputable def goD (x:BT') (now dir:Int):BT':=if dir=1 then (goB x now).stat (Builtin.bitOr (goB x now).d.status 2) else goB x now
inductive BringB (b:Bk) (s:Sc) (zone:Int) (t:T6):Bk→Sc→Prop
 | hit {i:Nat}{x:BT'}{dir:Int}:b.talks[i]?=some x→hitB x.d zone t→¬x.d.until_≤s.now→dir=(if t=x.d.a then 0 else 1)→BringB b s zone t (b.setT i (goD x s.now dir)) (s.put (.ref x.ad) (stB x.d dir) dir)
 | new {b0 b1:Bk}{s1:Sc}{x:BT'}:LookB b zone t s.now .none b0→BeginB b0 s zone t b1 s1→b1.talks[b0.talks.length]?=some x→s1.talk=.ref x.ad→BringB b s zone t (b1.setT b0.talks.length (goB x s.now)) s1
theorem begin_x {b b1:Bk}{s s1:Sc}{zone:Int}{t:T6}(h:BeginB b s zone t b1 s1):∃(x:BT') (st:Int),b1.talks[b.talks.length]?=some x∧s1=s.put (.ref x.ad) st 0∧x.d.a=t∧b1.ba=b.ba∧b1.t17=b.t17∧b1.tm=b.tm:=by
 cases h with
 | mk hr =>
  cases hr with
  | no _=>exact ⟨_,_,addT_at (b:=b.next),rfl,rfl,rfl,rfl,rfl⟩
  | yes e h1 h2 h3=>exact ⟨_,_,set_at (addT_at (b:=b.next)) _,rfl,rfl,rfl,rfl,rfl⟩
theorem look_talks {b b0:Bk}{zone now:Int}{t:T6}{v:PV}(h:LookB b zone t now v b0):b0.talks.length=b.talks.length∧b0.ba=b.ba∧b0.t17=b.t17∧b0.tm=b.tm:=by
 cases h with
 | none _=>exact ⟨rfl,rfl,rfl,rfl⟩
 | old _ _ _=>exact ⟨by unfold Bk.drop; exact List.length_set ..,rfl,rfl,rfl⟩
 | hit _ _ _ _=>exact ⟨rfl,rfl,rfl,rfl⟩
theorem drop_inv {b:Bk}{i:Nat}{x:BT'}{xl:Addr}(I:BInv b) (hx:b.talks[i]?=some x):BInv (b.drop i x xl):=by
 refine byP fun PG kG=>?_
 obtain ⟨l1,l2,e,_,es⟩:=split_at hx
 refine kG ?_
 have hsub:((b.drop i x xl).talks.filter (·.d.isIn)).Sublist (b.talks.filter (·.d.isIn)):=by
  show ((b.talks.set i x.off).filter _).Sublist _
  rw [es,e,List.filter_append,List.filter_append,List.filter_cons,if_neg (by simp [BT'.off])]
  refine List.Sublist.append_left ?_ _
  rw [List.filter_cons]
  split
  ·exact List.sublist_cons_self _ _
  ·exact List.Sublist.refl _
 refine ⟨?_,?_,fun y hy=>?_,?_,?_⟩
 ·refine List.Nodup.sublist ?_ I.tab
  exact (sub_flat hsub).map _
 ·refine List.Nodup.sublist ?_ I.ids
  exact (hsub.map _).map _
 ·rcases List.mem_or_eq_of_mem_set hy with hy | rfl
  ·exact I.ne y hy
  ·exact I.ne x (List.mem_of_getElem? hx)
 ·show (b.talks.set i x.off).length≤60
  rw [List.length_set]; exact I.many
 ·show (b.exps.map _).length≤900
  rw [List.length_map]; exact I.exps
theorem look_inv {b b0:Bk}{zone now:Int}{t:T6}{v:PV}(I:BInv b) (h:LookB b zone t now v b0):BInv b0:=by
 cases h with
 | none _=>exact I
 | old h _ _=>exact drop_inv I h
 | hit _ _ _ _=>exact I
variable {C:Cfg}(hC:CK C) {H:GHeap}{F:List Cell}
include hC
theorem t_go {b:Bk}{i:Nat}{x:BT'}{pk:PV}{dir now:Int}(o:Own H (b.cells++F)) (hx:b.talks[i]?=some x) :
  CallOk C 1 (.ref (if x.d.a.p=17 then 224 else 231)) [.ref b.ba,.ref x.ad,pk,.int dir,.int now] H (fun v H'=>v=.str "ok" ∧ Own H' ((b.setT i (goB x now)).cells++F)):=by
 split
 ·exact t_goudp hC o hx (by assumption)
 ·exact t_goplain hC o hx (by assumption)
theorem t_bring {b:Bk}{s:Sc}{zone:Int}{t:T6}(o:Own H (s.cells++(b.cells++F))) (I:BInv b) (hs:s.talks=.ref b.ba) (hp:t.p=17∨t.p=132) (hne:t≠t.inv) (hl:b.talks.length<60) (hpk:notVal s.packet=true) (hbk:∀x∈b.talks,x.d.b=x.d.a.inv) :
  CallOk C 5 (.ref 375) [.ref s.ad,.ref (if t.p=17 then b.t17 else b.tm),.int zone,t.pv] H (fun v H'=>v=.none∧∃b' s',BringB b s zone t b' s'∧Own H' (s'.cells++(b'.cells++F))):=by
 have i0:=o.at_ (s.ad,.inst 408 s.dx) (.head _)
 have d0:=o.at_ (s.dx,.sdict s.kv) (.tail _ (.head _))
 refine fn4 hC (stAt 57) "scene" "tracker" "zone" "t" rfl rfl rfl (by kernel_rfl) (by walk_at "f") 100 ?_
 walk_at "g"
 refine getI hC i0 d0 rfl (show _=some (.ref b.ba) by rw [←hs]; rfl) rfl ?_
 walk_at "g"
 refine wh_turn (wp_ok (C:=C) (n:=4) (sc:=scOf (stAt 57)) hC.wok 300 (.ts _ _ _ _) ?_)
 walk_at "g"
 conv=>whnf
 rw [sh_again]
 walk_at "g"
 refine wp_ok (C:=C) (n:=4) (sc:=scOf (stAt 57)) hC.wok 300 (.ex _ _ _ _) ?_
 walk_at "g"
 refine up (t_found hC o I hs) rfl fun v H1 h=>?_
 obtain ⟨r,b0,s0,hf,rfl,o0⟩:=h
 cases hf with
 | @yes i x dir hx1 hh hu hd =>
  have hx0:=hx1
  obtain ⟨s1,es⟩:∃s1,s1=s.put (.ref x.ad) (stB x.d dir) dir:=⟨_,rfl⟩
  have o1:Own H1 (b.cells++(s1.cells++F)):=by rw [es]; exact o0.swap
  have hxa1:x.d.a.p=t.p:=by
   rcases hh.2.2 with z | z
   ·rw [z]
   ·rw [z,hbk x (List.mem_of_getElem? hx1)]; rfl
  have est:s1.talk=.ref x.ad:=by rw [es]; rfl
  have hpk1:s1.packet=s.packet:=by rw [es]; rfl
  have i1:=b_i o1 (List.mem_of_getElem? hx1)
  have d1:=b_d o1 (List.mem_of_getElem? hx1)
  have o1s:=o1.swap
  have si1:=o1s.at_ (s.ad,.inst 408 s.dx) (es▸.head _)
  have sd1:=o1s.at_ (s.dx,.sdict s1.kv) (es▸.tail _ (.head _))
  have g1:=b_go (p:=t.p) o1
  have go:=t_go hC (pk:=s1.packet) (dir:=s1.isReply) (now:=s1.now) o1 hx1
  rw [hxa1] at go
  walk_at "g"
  refine subS g1 rfl ?_
  walk_at "g"
  conv=>whnf
  rw [go_known]
  walk_at "g"
  refine getI hC si1 sd1 rfl (w:=s1.talk) rfl (by rw [est]; rfl) ?_
  rw [est]
  walk_at "g"
  refine getI hC si1 sd1 rfl (w:=s1.packet) rfl (by rw [hpk1]; exact hpk) ?_
  walk_at "g"
  refine getI hC si1 sd1 rfl rfl rfl ?_
  walk_at "g"
  refine getI hC si1 sd1 rfl rfl rfl ?_
  walk_at "g"
  refine up go rfl fun v H2 h=>?_
  obtain ⟨rfl,o2⟩:=h
  walk_at "g"
  conv=>whnf
  rw [sh_again,sh_ok]
  walk_at "g"
  refine wh_turn (wp_ok (C:=C) (n:=4) (sc:=scOf (stAt 57)) hC.wok 300 (.ts _ _ _ _) ?_)
  walk_at "g"
  conv=>whnf
  rw [sh_again,sh_ok]
  walk_at "g"
  conv=>whnf
  rw [sh_invalid,sh_ok]
  walk_at "g"
  have o2s:=o2.swap
  have si2:=o2s.at_ (s.ad,.inst 408 s.dx) (es▸.head _)
  have sd2:=o2s.at_ (s.dx,.sdict s1.kv) (es▸.tail _ (.head _))
  refine getI hC si2 sd2 rfl rfl rfl ?_
  walk_at "g"
  have hx2:(b.setT i (goB x s1.now)).talks[i]?=some (goB x s1.now):=set_at hx1 _
  have hi2:=b_i o2 (List.mem_of_getElem? hx2)
  have hd2:=b_d o2 (List.mem_of_getElem? hx2)
  rw [(goB_same x s1.now).ad] at hi2
  have hnow:s1.now=s.now:=by rw [es]; rfl
  have hir:s1.isReply=dir:=by rw [es]; rfl
  refine And.intro (fun h5=>?_) (fun h5=>?_)
  ·rw [hir] at h5
   walk_at "g"
   refine getI hC si2 sd2 rfl (w:=s1.talk) rfl (by rw [est]; rfl) ?_
   rw [est]
   walk_at "g"
   refine getI hC hi2 hd2 rfl rfl rfl ?_
   walk_at "g"
   refine getI hC si2 sd2 rfl (w:=s1.talk) rfl (by rw [est]; rfl) ?_
   rw [est]
   walk_at "g"
   refine putI hC hi2 hd2 rfl (kvs':=((goB x s1.now).stat (Builtin.bitOr (goB x s1.now).d.status 2)).kv) rfl rfl ?_
   have o3:=b_set (x':=(goB x s1.now).stat (Builtin.bitOr (goB x s1.now).d.status 2)) o2 hx2 ⟨rfl,rfl,rfl,rfl,rfl,rfl,rfl⟩
   walk_at "g"
   refine ⟨rfl,b.setT i (goD x s.now dir),s1,by rw [es]; exact .hit hx0 hh hu hd,?_⟩
   have eb:b.setT i (goD x s.now dir)=(b.setT i (goB x s1.now)).setT i ((goB x s1.now).stat (Builtin.bitOr (goB x s1.now).d.status 2)):=by
    unfold Bk.setT goD
    dsimp only
    rw [List.set_set,if_pos h5,hnow]
   rw [eb]; exact o3.swap
  ·rw [hir] at h5
   walk_at "g"
   refine ⟨rfl,b.setT i (goD x s.now dir),s1,by rw [es]; exact .hit hx0 hh hu hd,?_⟩
   rw [show goD x s.now dir=goB x s1.now by unfold goD; rw [if_neg h5,hnow]]
   exact o2.swap
 | no hlk =>
  have hlt:=look_talks hlk
  have I0:=look_inv I hlk
  have hs0:s.talks=.ref b0.ba:=by rw [hs,hlt.2.1]
  have bg:=t_begin hC (zone:=zone) o0 I0 hs0 hp hne (by rw [hlt.1]; exact hl) hpk
  rw [hlt.2.2.1,hlt.2.2.2] at bg
  walk_at "g"
  refine up bg rfl fun v H1 h=>?_
  obtain ⟨rfl,b1,s1,hb,o1'⟩:=h
  obtain ⟨x,st,hx1,es,hxa,e1,e2,e3⟩:=begin_x hb
  have o1:Own H1 (b1.cells++(s1.cells++F)):=o1'.swap
  have hxa1:x.d.a.p=t.p:=by rw [hxa]
  have est:s1.talk=.ref x.ad:=by rw [es]; rfl
  have hpk1:s1.packet=s.packet:=by rw [es]; rfl
  have o1t:=o1.swap
  have sj1:=o1t.at_ (s.ad,.inst 408 s.dx) (es▸.head _)
  have sk1:=o1t.at_ (s.dx,.sdict s1.kv) (es▸.tail _ (.head _))
  walk_at "g"
  refine getI hC sj1 sk1 rfl (w:=s1.talk) rfl (by rw [est]; rfl) ?_
  rw [est]
  rw [←hlt.2.2.1,←hlt.2.2.2,←e2,←e3,←hlt.2.1,←e1]
  have i1:=b_i o1 (List.mem_of_getElem? hx1)
  have d1:=b_d o1 (List.mem_of_getElem? hx1)
  have o1s:=o1.swap
  have si1:=o1s.at_ (s.ad,.inst 408 s.dx) (es▸.head _)
  have sd1:=o1s.at_ (s.dx,.sdict s1.kv) (es▸.tail _ (.head _))
  have g1:=b_go (p:=t.p) o1
  have go:=t_go hC (pk:=s1.packet) (dir:=s1.isReply) (now:=s1.now) o1 hx1
  rw [hxa1] at go
  walk_at "g"
  refine subS g1 rfl ?_
  walk_at "g"
  conv=>whnf
  rw [go_known]
  walk_at "g"
  refine getI hC si1 sd1 rfl (w:=s1.talk) rfl (by rw [est]; rfl) ?_
  rw [est]
  walk_at "g"
  refine getI hC si1 sd1 rfl (w:=s1.packet) rfl (by rw [hpk1]; exact hpk) ?_
  walk_at "g"
  refine getI hC si1 sd1 rfl rfl rfl ?_
  walk_at "g"
  refine getI hC si1 sd1 rfl rfl rfl ?_
  walk_at "g"
  refine up go rfl fun v H2 h=>?_
  obtain ⟨rfl,o2⟩:=h
  walk_at "g"
  conv=>whnf
  rw [sh_again,sh_ok]
  walk_at "g"
  refine wh_turn (wp_ok (C:=C) (n:=4) (sc:=scOf (stAt 57)) hC.wok 300 (.ts _ _ _ _) ?_)
  walk_at "g"
  conv=>whnf
  rw [sh_again,sh_ok]
  walk_at "g"
  conv=>whnf
  rw [sh_invalid,sh_ok]
  walk_at "g"
  have o2s:=o2.swap
  have si2:=o2s.at_ (s.ad,.inst 408 s.dx) (es▸.head _)
  have sd2:=o2s.at_ (s.dx,.sdict s1.kv) (es▸.tail _ (.head _))
  refine getI hC si2 sd2 rfl rfl rfl ?_
  walk_at "g"
  refine And.intro (fun h5=>?_) (fun h5=>?_)
  ·exact absurd (show (0:Int)=1 by rw [es] at h5; exact h5) (by decide)
  walk_at "g"
  have hnow:s1.now=s.now:=by rw [es]; rfl
  rw [hnow] at o2
  exact ⟨rfl,_,s1,.new hlk hb hx1 est,o2.swap⟩
end
section
inductive TrackB (b:Bk) (s:Sc) (zone:Int) (w:Wire) (piece:Int):Bk→Sc→Prop
 | keep:s.state=64→TrackB b s zone w piece b s
 | none:¬s.state=64→¬piece=0→TrackB b s zone w piece b (s.put .none 1 0)
 | some {b':Bk}{s':Sc}:¬s.state=64→piece=0→BringB b s zone w.key b' s'→TrackB b s zone w piece b' s'
theorem key_ne {w:Wire}(h:WireOk w):w.key≠w.key.inv:=fun e=>by
 have e1:=congrArg T6.a e
 refine h.ne ?_
 unfold Wire.key T6.inv at e1
 dsimp only at e1
 split at e1<;>exact e1
theorem bind_track {C:Cfg}(hC:CK C) {q:Str}{m c:Value}(s:Shared) (v0 v1:Value) (X:C.K.In s.heap) :
  BindsTo s (fnOf (stAt 58) q (.ref 376) m c) ⟨[v0,v1],[]⟩ [("scene",v0),("zone",v1)]:=by
 intro M A E Q hq
 unfold bindArgs
 refine wpAny_bind (wpAny_pure ?_)
 refine wpAny_bind (wpAny_seqItems (at_K hC X (a:=376) rfl) rfl ?_)
 refine wp_of_eq (wpAny_pure hq) ?_
 kernel_rfl
variable {C:Cfg}(hC:CK C) {H:GHeap}{F:List Cell}
include hC
theorem t_track {b:Bk}{s:Sc}{zone piece:Int}{w:Wire}{p:Pk}(o:Own H (s.cells++(b.cells++((p.looked w piece).cells++F)))) (I:BInv b) (hs:s.talks=.ref b.ba) (hw:WireOk w) (hpc:piece=0∨piece=3) (hoct:p.oct=octL w piece) (hpk:s.packet=.ref p.ad)
  (hl:b.talks.length<60) (hbk:∀x∈b.talks,x.d.b=x.d.a.inv) :
  CallOk C 6 (.ref 383) [.ref s.ad,.int zone] H (fun v H'=>v=.none∧∃b' s',TrackB b s zone w piece b' s'∧Own H' (s'.cells++(b'.cells++((p.looked w piece).cells++F)))):=by
 have i0:=o.at_ (s.ad,.inst 408 s.dx) (.head _)
 have d0:=o.at_ (s.dx,.sdict s.kv) (.tail _ (.head _))
 refine CodeOk.call ?_
 refine fn_code hC (stAt 58) (dv:=[]) (dx:=[]) (fr:=[("scene",.ref s.ad),("zone",.int zone)]) rfl rfl rfl (by kernel_rfl) (fun s X v0 v1=>bind_track hC s v0 v1 X) (fun _=>.nil) ?_
 refine wp_ok (C:=C) (n:=5) (sc:=scOf (stAt 58)) hC.wok 300 (.ex _ _ _ _) ?_
 walk_at "g"
 refine getI hC i0 d0 rfl rfl rfl ?_
 walk_at "g"
 refine And.intro (fun h1=>?_) (fun h1=>?_)
 ·walk_at "g"
  exact ⟨rfl,b,s,.keep h1,o⟩
 walk_at "g"
 refine getI hC i0 d0 rfl (show _=some (.ref p.ad) by rw [←hpk]; rfl) rfl ?_
 have op:Own H ((p.looked w piece).cells++(F++(s.cells++b.cells))):=o.perm (by
  rw [←List.append_assoc,←List.append_assoc (p.looked w piece).cells]
  exact List.perm_append_comm)
 have tt:=t_tupleOf hC op hoct hw hpc
 walk_at "g"
 refine up tt rfl fun v H1 h=>?_
 obtain ⟨rfl,g1⟩:=h
 have o1:=o.gr g1
 rcases hpc with rfl | rfl
 ·rw [if_pos rfl]
  have i1:=o1.at_ (s.ad,.inst 408 s.dx) (.head _)
  have d1:=o1.at_ (s.dx,.sdict s.kv) (.tail _ (.head _))
  walk_at "g"
  refine getI hC i1 d1 rfl (show _=some (.ref b.ba) by rw [←hs]; rfl) rfl ?_
  have o1b:=o1.swap
  have tr:=t_tracker hC (p:=w.key.p) o1b
  walk_at "g"
  refine up tr rfl fun v H2 h=>?_
  obtain ⟨rfl,rfl⟩:=h
  have hp:w.key.p=17∨w.key.p=132:=by rw [key_p]; exact hw.p
  have gg:=b_go (p:=w.key.p) o1b
  have bo:=t_bring hC (zone:=zone) o1 I hs hp (key_ne hw) hl (by rw [hpk]; rfl) hbk
  walk_at "g"
  refine in_sdict gg ?_
  refine boolT (fun h=>by cases h) (fun _=>?_)
  walk_at "g"
  refine up bo rfl fun v H3 h=>?_
  obtain ⟨rfl,b',s',hb,o3⟩:=h
  walk_at "g"
  exact ⟨rfl,b',s',.some h1 rfl hb,o3⟩
 ·rw [if_neg (by decide)]
  walk_at "g"
  have tp:=t_put hC (tk:=.none) (st:=1) (r:=0) o1
  refine up tp rfl fun v H2 h=>?_
  obtain ⟨rfl,o2⟩:=h
  walk_at "g"
  exact ⟨rfl,b,_,.none h1 (by decide),o2⟩
end
section
theorem tab_of {b:Bk}{x:BT'}{zone:Int}{t:T6}(hm:x∈b.talks) (h:hitB x.d zone t):∃p∈b.tab,p.1=(zone,t.l):=by
 obtain ⟨h1,h2,h3⟩:=h
 have hf:x∈b.talks.filter (·.d.isIn):=List.mem_filter.mpr ⟨hm,h1⟩
 rcases h3 with rfl | rfl
 ·exact ⟨((x.d.zone,x.d.a.l),_),List.mem_flatMap.mpr ⟨x,hf,.head _⟩,by rw [h2]⟩
 ·exact ⟨((x.d.zone,x.d.b.l),_),List.mem_flatMap.mpr ⟨x,hf,.tail _ (.head _)⟩,by rw [h2]⟩
noncomputable def BT'.inn (x:BT'):BT':={x with d:={x.d with isIn:=true,status:=Builtin.bitOr x.d.status 8}}
theorem inn_parts {b:Bk}{l:List BT'}{x:BT'}(e:b.talks=l++[x]) (hin:x.d.isIn=false):(b.setT l.length x.inn).tab=b.tab++[((x.d.zone,x.d.a.l),.tup [.int x.d.num,.int 0]),((x.d.zone,x.d.b.l),.tup [.int x.d.num,.int 1])]∧(b.setT l.length x.inn).ids=b.ids++[(x.d.num,.ref x.ad)]:=by
 unfold Bk.tab Bk.ids Bk.setT
 dsimp only
 rw [e,set_end,List.filter_append,List.filter_append,List.filter_cons,List.filter_cons,if_pos (show x.inn.d.isIn=true from rfl),if_neg (by rw [hin]; exact Bool.false_ne_true)]
 simp only [List.filter_nil,List.flatMap_append,List.flatMap_cons,List.flatMap_nil,List.append_nil,List.map_append,List.map_cons,List.map_nil]
 exact ⟨rfl,rfl⟩
noncomputable def seenB (s:Sc):Option BT'→PV
 | none=>.tup [.none,.int s.state,.int s.isReply]
 | some x=>.tup [.none,.int s.state,.int s.isReply,.int x.d.num,.int x.d.status,.int x.d.mark,.int x.d.master,.int x.d.until_,.int x.d.zone,x.d.a.pv,x.d.b.pv]
noncomputable def talkPV (x:Option BT'):PV:=match x with | none=>.none | some x=>.ref x.ad
variable {C:Cfg}(hC:CK C) {H:GHeap}{F:List Cell}
include hC
theorem t_seen {b:Bk}{s:Sc}{x:Option BT'}(o:Own H (s.cells++(b.cells++F))) (hx:∀y,x=some y→y∈b.talks) (ht:s.talk=talkPV x) :
  CallOk C 1 (.ref 538) [.ref s.ad,.none] H (fun v H'=>v=seenB s x∧H'=H):=by
 have i0:=o.at_ (s.ad,.inst 408 s.dx) (.head _)
 have d0:=o.at_ (s.dx,.sdict s.kv) (.tail _ (.head _))
 refine fn2 hC (stAt 82) "scene" "verdict" rfl rfl rfl (by kernel_rfl) (by walk_at "f") 100 ?_
 walk_at "g"
 refine getI hC i0 d0 rfl (show _=some (talkPV x) by rw [←ht]; rfl) (by cases x<;>rfl) ?_
 induction x using Option.casesOn with
 | none =>
  walk_at "g"
  refine getI hC i0 d0 rfl rfl rfl ?_
  walk_at "g"
  refine getI hC i0 d0 rfl rfl rfl ?_
  walk_at "g"
  exact ⟨rfl,rfl⟩
 | some x =>
  have ob:=o.swap
  have hi:=b_i ob (hx x rfl)
  have hd:=b_d ob (hx x rfl)
  walk_at "g"
  refine getI hC i0 d0 rfl rfl rfl ?_
  walk_at "g"
  refine getI hC i0 d0 rfl rfl rfl ?_
  walk_at "g"
  refine getI hC hi hd rfl rfl rfl ?_
  walk_at "g"
  refine getI hC hi hd rfl rfl rfl ?_
  walk_at "g"
  refine getI hC hi hd rfl rfl rfl ?_
  walk_at "g"
  refine getI hC hi hd rfl rfl rfl ?_
  walk_at "g"
  refine getI hC hi hd rfl rfl rfl ?_
  walk_at "g"
  refine getI hC hi hd rfl rfl rfl ?_
  walk_at "g"
  refine getI hC hi hd rfl rfl rfl ?_
  walk_at "g"
  refine getI hC hi hd rfl rfl rfl ?_
  walk_at "g"
  exact ⟨rfl,rfl⟩
theorem t_confNone {b:Bk}{s:Sc}(o:Own H (s.cells++(b.cells++F))) (hs:s.talks=.ref b.ba) (ht:s.talk=.none):CallOk C 4 (.ref 390) [.ref s.ad] H (fun v H'=>v=.none∧H'=H):=by
 have i0:=o.at_ (s.ad,.inst 408 s.dx) (.head _)
 have d0:=o.at_ (s.dx,.sdict s.kv) (.tail _ (.head _))
 refine fn1 hC (stAt 59) "scene" rfl rfl rfl (by kernel_rfl) (by walk_at "f") 100 ?_
 walk_at "g"
 refine getI hC i0 d0 rfl (show _=some (.ref b.ba) by rw [←hs]; rfl) rfl ?_
 walk_at "g"
 refine getI hC i0 d0 rfl (show _=some .none by rw [←ht]; rfl) rfl ?_
 walk_at "g"
 exact ⟨rfl,rfl⟩
theorem t_confOld {b:Bk}{s:Sc}{x:BT'}(o:Own H (s.cells++(b.cells++F))) (hs:s.talks=.ref b.ba) (ht:s.talk=.ref x.ad) (hx:x∈b.talks) (h8:¬Builtin.bitAnd x.d.status 8=0):CallOk C 4 (.ref 390) [.ref s.ad] H (fun v H'=>v=.none∧H'=H):=by
 have i0:=o.at_ (s.ad,.inst 408 s.dx) (.head _)
 have d0:=o.at_ (s.dx,.sdict s.kv) (.tail _ (.head _))
 have ob:=o.swap
 have hi:=b_i ob hx
 have hd:=b_d ob hx
 refine fn1 hC (stAt 59) "scene" rfl rfl rfl (by kernel_rfl) (by walk_at "f") 100 ?_
 walk_at "g"
 refine getI hC i0 d0 rfl (show _=some (.ref b.ba) by rw [←hs]; rfl) rfl ?_
 walk_at "g"
 refine getI hC i0 d0 rfl (show _=some (.ref x.ad) by rw [←ht]; rfl) rfl ?_
 walk_at "g"
 refine getI hC hi hd rfl rfl rfl ?_
 walk_at "g"
 refine And.intro (fun _=>?_) (fun h=>absurd h h8)
 walk_at "g"
 exact ⟨rfl,rfl⟩
theorem t_confNew {b:Bk}{s:Sc}{x:BT'}{l:List BT'}(o:Own H (s.cells++(b.cells++F))) (I:BInv b) (hs:s.talks=.ref b.ba) (ht:s.talk=.ref x.ad) (e:b.talks=l++[x]) (hin:x.d.isIn=false) (h8:Builtin.bitAnd x.d.status 8=0) (ok:OutOk b x) :
  CallOk C 4 (.ref 390) [.ref s.ad] H (fun v H'=>v=.none∧Own H' (s.cells++((b.setT l.length x.inn).cells++F))):=by
 have hx:b.talks[l.length]?=some x:=by rw [e]; exact at_end _ _
 have hm:=List.mem_of_getElem? hx
 have i0:=o.at_ (s.ad,.inst 408 s.dx) (.head _)
 have d0:=o.at_ (s.dx,.sdict s.kv) (.tail _ (.head _))
 have ob:=o.swap
 have hi:=b_i ob hm
 have hd:=b_d ob hm
 refine fn1 hC (stAt 59) "scene" rfl rfl rfl (by kernel_rfl) (by walk_at "f") 100 ?_
 walk_at "g"
 refine getI hC i0 d0 rfl (show _=some (.ref b.ba) by rw [←hs]; rfl) rfl ?_
 walk_at "g"
 refine getI hC i0 d0 rfl (show _=some (.ref x.ad) by rw [←ht]; rfl) rfl ?_
 walk_at "g"
 refine getI hC hi hd rfl rfl rfl ?_
 walk_at "g"
 refine And.intro (fun h=>absurd h8 h) (fun _=>?_)
 walk_at "g"
 refine getI hC hi hd rfl rfl rfl ?_
 walk_at "g"
 refine getI hC hi hd rfl rfl rfl ?_
 walk_at "g"
 refine ⟨_,_,.tup [x.d.a.pv,x.d.b.pv],Nat.lt_of_lt_of_le (show 2<3 by decide) (by decide),?_⟩
 refine for_st hC.wok (σ:=Unit) (fun _=>[("book",.ref b.ba),("talk",.ref x.ad),("scene",.ref s.ad)]) (fun j _ H'=>Own H' (s.cells++(b.cells++F))) () rfl o (fun _ _ _ _=>.tup _) (fun j y _ H1 hy o1=>?_) (fun _ H1 o1=>?_)
 ·obtain ⟨t,rfl,hk⟩:∃t:T6,y=t.pv∧∀p∈b.tab,p.1≠(x.d.zone,t.l):=by
   match j,hy with
   | 0,hy=>cases hy; exact ⟨x.d.a,rfl,ok.t0⟩
   | 1,hy=>cases hy; exact ⟨x.d.b,rfl,ok.t1⟩
  have i1:=o1.at_ (s.ad,.inst 408 s.dx) (.head _)
  have d1:=o1.at_ (s.dx,.sdict s.kv) (.tail _ (.head _))
  have ob1:=o1.swap
  have hi1:=b_i ob1 hm
  have hd1:=b_d ob1 hm
  have lk:=t_lookup hC (zone:=x.d.zone) (t:=t) (now:=s.now) ob1 I
  walk_at "g"
  refine getI hC hi1 hd1 rfl rfl rfl ?_
  walk_at "g"
  refine getI hC i1 d1 rfl rfl rfl ?_
  walk_at "g"
  refine up lk rfl fun v H2 h=>?_
  obtain ⟨b',hl,o2⟩:=h
  cases hl with
  | old h1 h2 h3 =>
   obtain ⟨p,hp,hpe⟩:=tab_of (List.mem_of_getElem? h1) h2
   exact absurd hpe (hk p hp)
  | hit h1 h2 h3 h4 =>
   obtain ⟨p,hp,hpe⟩:=tab_of (List.mem_of_getElem? h1) h2
   exact absurd hpe (hk p hp)
  | none _ =>
   walk_at "g"
   exact ⟨(),rfl,o2.swap⟩
 ·have ob1:=o1.swap
  rw [cellsW_is] at ob1
  have hi1:=b_ti ob1 hm
  have hd1:=b_td ob1 hm
  walk_at "g"
  refine getI hC hi1 hd1 rfl rfl rfl ?_
  walk_at "g"
  refine getI hC (b_ba ob1) (b_bd ob1) rfl rfl rfl ?_
  walk_at "g"
  refine getI hC hi1 hd1 rfl rfl rfl ?_
  walk_at "g"
  refine getI hC hi1 hd1 rfl rfl rfl ?_
  walk_at "g"
  refine si_tdict (k:=(x.d.zone,x.d.a.l)) (b_tb ob1) rfl (Nat.le_trans (tab_len I) (by decide)) ?_
  have ob2:=b_setTab ob1 (b.tab++[((x.d.zone,x.d.a.l),.tup [.int x.d.num,.int 0])])
  rw [putD_of_not_mem _ _ _ (show (x.d.zone,x.d.a.l)∉b.tab.map (·.1) from fun h=>by
   obtain ⟨p,hp,hpe⟩:=List.mem_map.mp h
   exact ok.t0 p hp hpe)]
  have hi2:=b_ti ob2 hm
  have hd2:=b_td ob2 hm
  walk_at "g"
  refine getI hC hi2 hd2 rfl rfl rfl ?_
  walk_at "g"
  refine getI hC (b_ba ob2) (b_bd ob2) rfl rfl rfl ?_
  walk_at "g"
  refine getI hC hi2 hd2 rfl rfl rfl ?_
  walk_at "g"
  refine getI hC hi2 hd2 rfl rfl rfl ?_
  walk_at "g"
  refine si_tdict (k:=(x.d.zone,x.d.b.l)) (b_tb ob2) rfl (by
   rw [List.length_append]
   exact Nat.le_trans (Nat.add_le_add_right (tab_len I) 1) (by decide)) ?_
  have ob3:=b_setTab ob2 ((b.tab++[((x.d.zone,x.d.a.l),.tup [.int x.d.num,.int 0])])++[((x.d.zone,x.d.b.l),.tup [.int x.d.num,.int 1])])
  rw [putD_of_not_mem _ _ _ (show (x.d.zone,x.d.b.l)∉(b.tab++[((x.d.zone,x.d.a.l),PV.tup [.int x.d.num,.int 0])]).map (·.1) from fun h=>by
   obtain ⟨p,hp,hpe⟩:=List.mem_map.mp h
   rcases List.mem_append.mp hp with hp | hp
   ·exact ok.t1 p hp hpe
   ·rw [List.mem_singleton.mp hp] at hpe
    exact I.ne x hm (T6.l_inj.mp (congrArg Prod.snd hpe)))]
  have hi3:=b_ti ob3 hm
  have hd3:=b_td ob3 hm
  walk_at "g"
  refine getI hC (b_ba ob3) (b_bd ob3) rfl rfl rfl ?_
  walk_at "g"
  refine getI hC hi3 hd3 rfl rfl rfl ?_
  walk_at "g"
  refine si_idict (b_tk ob3) (Nat.le_trans (ids_len I) (Nat.le_trans I.many (by decide))) ?_
  have ob4:=b_setIds ob3 (b.ids++[(x.d.num,.ref x.ad)])
  rw [putD_of_not_mem _ _ _ (show x.d.num∉b.ids.map (·.1) from fun h=>by
   obtain ⟨p,hp,hpe⟩:=List.mem_map.mp h
   exact ok.n p hp hpe)]
  have hi4:=b_ti ob4 hm
  have hd4:=b_td ob4 hm
  walk_at "g"
  refine getI hC hi4 hd4 rfl rfl rfl ?_
  walk_at "g"
  refine putI hC hi4 hd4 rfl (kvs':=x.inn.kv) rfl rfl ?_
  have ob5:=b_setTd (x':=x.inn) ob4 hx rfl rfl
  walk_at "g"
  refine ⟨rfl,Own.swap ?_⟩
  have z:=inn_parts e hin
  rw [cellsW_is,z.1,z.2,show b.tab++[((x.d.zone,x.d.a.l),PV.tup [.int x.d.num,.int 0]),((x.d.zone,x.d.b.l),.tup [.int x.d.num,.int 1])]=(b.tab++[((x.d.zone,x.d.a.l),.tup [.int x.d.num,.int 0])])++[((x.d.zone,x.d.b.l),.tup [.int x.d.num,.int 1])] by rw [List.append_assoc]; rfl]
  exact ob5
end
section
noncomputable def sameZ (n zone:Int) (side:T6) (s:Spec) (e:Exp):Bool:=!e.gone&&(decide (e.master=n)&&(decide (e.zone=zone)&&decide ([e.nf,e.p,e.source,e.t,e.port]=[if s.nf=0 then 2 else s.nf,s.p,side.a,side.c,s.port])))
noncomputable def BE.till (e:BE) (u:Int):BE:={e with d:={e.d with until_:=u}}
inductive AddB (b:Bk) (x:BTalk) (way:Int) (s:Spec) (now:Int):PV→Bk→Prop
 | brk:(¬Builtin.bitAnd x.status 520=0∨s.most≤manyE (b.exps.map (·.d)) x.num now)→AddB b x way s now brkPV b
 | renew {l1 l2:List BE}{e:BE}:Builtin.bitAnd x.status 520=0→¬s.most≤manyE (b.exps.map (·.d)) x.num now→b.exps=l1++e::l2→(∀y∈l1,sameZ x.num x.zone (sideW x.a x.b way) s y.d=false)→sameZ x.num x.zone (sideW x.a x.b way) s e.d=true →
   AddB b x way s now .none {b with exps:=l1++e.till (now+s.span)::l2}
 | add {ad dx:Addr}:Builtin.bitAnd x.status 520=0→¬s.most≤manyE (b.exps.map (·.d)) x.num now→(∀y∈b.exps,sameZ x.num x.zone (sideW x.a x.b way) s y.d=false)→AddB b x way s now .none (b.addE ⟨ad,dx,newE x.num x.zone (sideW x.a x.b way) s now⟩)
section
variable {H:GHeap}{F:List Cell}{b:Bk}{x:BE}
theorem own_addE {xs:List PV}(o:Own H (x.cells++(b.cellsW b.tab b.ids xs++F))):Own H ((b.addE x).cellsW b.tab b.ids xs++F):=by
 refine o.perm ?_
 unfold Bk.cellsW Bk.addE
 dsimp only
 rw [List.flatMap_append,List.flatMap_cons,List.flatMap_nil,List.append_nil]
 simp only [List.cons_append,←List.append_assoc]
 show List.Perm (x.cells++((b.ba,GObj.inst 145 b.bd)::(b.bd,.sdict b.kv)::(b.tb,.tdict b.tab)::(b.tk,.idict b.ids)::(b.xl,.list xs)::(b.fix++b.talks.flatMap BT'.cells++b.exps.flatMap BE.cells))++F) ((((b.ba,GObj.inst 145 b.bd)::(b.bd,.sdict b.kv)::(b.tb,.tdict b.tab)::(b.tk,.idict b.ids)::(b.xl,.list xs)::(b.fix++b.talks.flatMap BT'.cells++b.exps.flatMap BE.cells))++x.cells)++F)
 exact List.Perm.append_right _ List.perm_append_comm
theorem addE_xs (h:x.d.gone=false):(b.addE x).xs=b.xs++[.ref x.ad]:=by
 unfold Bk.xs Bk.addE
 dsimp only
 rw [List.filter_append,List.filter_cons,if_pos (by rw [h]; rfl),List.map_append]; rfl
theorem setE_xs {i:Nat}{x':BE}(h:b.exps[i]?=some x) (hg:x'.d.gone=x.d.gone) (ha:x'.ad=x.ad):(b.setE i x').xs=b.xs:=by
 unfold Bk.xs Bk.setE
 dsimp only
 exact filter_map_set (fun x:BE=>!x.d.gone) (fun x:BE=>PV.ref x.ad) h (by rw [hg]) (by rw [ha])
theorem xs_len (I:BInv b):b.xs.length≤1000:=by
 unfold Bk.xs
 rw [List.length_map]
 exact Nat.le_trans (List.length_filter_le _ _) (Nat.le_trans I.exps (by decide))
end
variable {C:Cfg}(hC:CK C) {H:GHeap}{F:List Cell}
include hC
theorem t_addNone {s:Sc}{sp:Spec}(o:Own H (s.cells++F)) (ht:s.talk=.none) (hs:notVal s.talks=true):CallOk C 3 (.ref 273) [.ref s.ad,sp.pv] H (fun v H'=>v=brkPV∧H'=H):=by
 have i0:=o.at_ (s.ad,.inst 408 s.dx) (.head _)
 have d0:=o.at_ (s.dx,.sdict s.kv) (.tail _ (.head _))
 refine fn2 hC (stAt 43) "scene" "spec" rfl rfl rfl (by kernel_rfl) (by walk_at "f") 9 ?_
 walk_at "g"
 refine getI hC i0 d0 rfl (show _=some .none by rw [←ht]; rfl) rfl ?_
 walk_at "g"
 refine getI hC i0 d0 rfl (w:=s.talks) rfl hs ?_
 walk_at "g"
 exact ⟨rfl,rfl⟩
theorem t_add9 {b:Bk}{s:Sc}{x:BT'}{sp:Spec}{nf':Int}{side:T6}(o:Own H (s.cells++(b.cells++F))) (I:BInv b) (hx:x∈b.talks) (hside:side=sideW x.d.a x.d.b s.isReply) (hnf:nf'=(if sp.nf=0 then 2 else sp.nf)) (h5:Builtin.bitAnd x.d.status 520=0) (hmn:¬sp.most≤manyE (b.exps.map (·.d)) x.d.num s.now) :
  ExOk C 2 (scOf (stAt 43)) ((bodyOf (stAt 43)).drop 9) [("t",.tup [.int nf',.int sp.p,.int side.a,.int side.c,.int sp.port]),("talk",.ref x.ad),("book",.ref b.ba),("scene",.ref s.ad),("timeout",.int sp.span)] H
   fun fl _ H'=>∃b',AddB b x.d s.isReply sp s.now (flv fl) b'∧Own H' (s.cells++(b'.cells++F)):=by
 have ob:=o.swap
 rw [cellsW_is] at ob
 have hz:=xs_len I
 refine wp_ok (C:=C) (n:=2) (sc:=scOf (stAt 43)) hC.wok 300 (.ex _ _ _ _) ?_
 walk_at "g"
 refine getI hC (b_ba ob) (b_bd ob) rfl rfl rfl ?_
 walk_at "g"
 refine srcL (b_xl ob) hz ?_
 refine for_st hC.wok (σ:=Unit) (fun _=>[("t",.tup [.int nf',.int sp.p,.int side.a,.int side.c,.int sp.port]),("talk",.ref x.ad),("book",.ref b.ba),("scene",.ref s.ad),("timeout",.int sp.span)]) (fun j _ H'=>Own H' (s.cells++(b.cells++F))∧∀y∈(b.exps.filter (!·.d.gone)).take j,sameZ x.d.num x.d.zone side sp y.d=false) () rfl ⟨o,fun y hy=>by simp at hy⟩ (fun _ _ _ h=>.list (.inl (b_xl (by have z:=h.1.swap; rw [cellsW_is] at z; exact z)))) (fun j y _ H1 hy h=>?_) (fun _ H1 h=>?_)
 ·obtain ⟨o1,hno⟩:=h
  have o1b:=o1.swap
  rw [cellsW_is] at o1b
  unfold Bk.xs at hy
  rw [List.getElem?_map] at hy
  refine byP fun PG kG=>?_
  obtain ⟨e,he,rfl⟩:=Option.map_eq_some_iff.mp hy
  obtain ⟨l1,l2,e1,e2,e3⟩:=filter_at he
  refine kG ?_
  have hm:e∈b.exps:=(List.mem_filter.mp (List.mem_of_getElem? he)).1
  have hg:e.d.gone=false:=by simpa using e3
  have hi:=b_ei o1b hm
  have hd:=b_ed o1b hm
  have hti:=b_ti o1b hx
  have htd:=b_td o1b hx
  have next:sameZ x.d.num x.d.zone side sp e.d=false→∀y∈(b.exps.filter (!·.d.gone)).take (j+1),sameZ x.d.num x.d.zone side sp y.d=false:=fun hf y hy=>by
   rw [List.take_add_one,he] at hy
   rcases List.mem_append.mp hy with hy | hy
   ·exact hno y hy
   ·rw [List.mem_singleton.mp hy]; exact hf
  walk_at "g"
  refine getI hC hi hd rfl rfl rfl ?_
  walk_at "g"
  refine getI hC hti htd rfl rfl rfl ?_
  walk_at "g"
  refine And.intro (fun h1=>?_) (fun h1=>?_)
  ·walk_at "g"
   refine getI hC hi hd rfl rfl rfl ?_
   walk_at "g"
   refine getI hC hti htd rfl rfl rfl ?_
   walk_at "g"
   refine And.intro (fun h2=>?_) (fun h2=>?_)
   ·walk_at "g"
    refine getI hC hi hd rfl rfl rfl ?_
    walk_at "g"
    refine eqInts (ks:=[e.d.nf,e.d.p,e.d.source,e.d.t,e.d.port]) (ls:=[nf',sp.p,side.a,side.c,sp.port]) rfl rfl (boolP (fun h3=>?_) (fun h3=>?_))
    ·walk_at "g"
     have i1:=o1.at_ (s.ad,.inst 408 s.dx) (.head _)
     have d1:=o1.at_ (s.dx,.sdict s.kv) (.tail _ (.head _))
     have hj:b.exps[l1.length]?=some e:=by rw [e1,List.getElem?_append_right (Nat.le_refl _),Nat.sub_self]; rfl
     have hset:b.setE l1.length (e.till (s.now+sp.span))={b with exps:=l1++e.till (s.now+sp.span)::l2}:=by
      unfold Bk.setE
      rw [e1,List.set_append_right _ _ (Nat.le_refl _),Nat.sub_self]; rfl
     refine getI hC i1 d1 rfl rfl rfl ?_
     walk_at "g"
     refine putI hC hi hd rfl (kvs':=(e.till (s.now+sp.span)).kv) rfl rfl ?_
     have o2:=b_setEd (x':=e.till (s.now+sp.span)) o1b hj rfl rfl
     walk_at "g"
     refine ⟨_,.renew h5 hmn e1 (fun y hy=>?_) ?_,?_⟩
     ·rw [←hside]
      cases hgy:y.d.gone with
      | true=>unfold sameZ; rw [hgy]; rfl
      | false =>
       refine hno y ?_
       rw [←e2]
       exact List.mem_filter.mpr ⟨hy,by rw [hgy]; rfl⟩
     ·rw [←hside]
      unfold sameZ
      rw [hg,decide_eq_true h1,decide_eq_true h2,←hnf,decide_eq_true h3]; rfl
     ·refine Own.swap ?_
      rw [←hset,cellsW_is,setE_xs (x':=e.till (s.now+sp.span)) hj rfl rfl]
      exact o2
    ·walk_at "g"
     exact ⟨(),rfl,o1,next (by unfold sameZ; rw [←hnf,decide_eq_false h3,Bool.and_false,Bool.and_false,Bool.and_false])⟩
   ·walk_at "g"
    exact ⟨(),rfl,o1,next (by unfold sameZ; rw [decide_eq_false h2,Bool.false_and,Bool.and_false,Bool.and_false])⟩
  ·walk_at "g"
   exact ⟨(),rfl,o1,next (by unfold sameZ; rw [decide_eq_false h1,Bool.false_and,Bool.and_false])⟩
 ·obtain ⟨o1,hno⟩:=h
  walk_at "g"
  have o1b:=o1.swap
  rw [cellsW_is] at o1b
  have i1:=o1.at_ (s.ad,.inst 408 s.dx) (.head _)
  have d1:=o1.at_ (s.dx,.sdict s.kv) (.tail _ (.head _))
  have hti:=b_ti o1b hx
  have htd:=b_td o1b hx
  have mk:=t_mkExpect hC (m:=.int x.d.num) (t:=.tup [.int nf',.int sp.p,.int side.a,.int side.c,.int sp.port]) (z:=.int x.d.zone) (u:=.int (s.now+sp.span)) o1b
  refine getI hC (b_ba o1b) (b_bd o1b) rfl rfl rfl ?_
  walk_at "g"
  refine methL (b_xl o1b) rfl ?_
  walk_at "g"
  refine getI hC hti htd rfl rfl rfl ?_
  walk_at "g"
  refine getI hC hti htd rfl rfl rfl ?_
  walk_at "g"
  refine getI hC i1 d1 rfl rfl rfl ?_
  walk_at "g"
  refine up mk rfl fun v H2 h=>?_
  refine byP fun PG kG=>?_
  obtain ⟨ad,dx,rfl,o2⟩:=h
  refine kG ?_
  have o2:Own H2 (BE.cells ⟨ad,dx,newE x.d.num x.d.zone side sp s.now⟩++(b.cellsW b.tab b.ids b.xs++(s.cells++F))):=by rw [hnf] at o2; exact o2
  have o3:=own_addE (x:=⟨ad,dx,newE x.d.num x.d.zone side sp s.now⟩) o2
  have hxl:=b_xl o3
  walk_at "g"
  refine c_append hxl hz ?_
  have o4:=b_setXs o3 (b.xs++[.ref ad])
  walk_at "g"
  refine ⟨b.addE ⟨ad,dx,newE x.d.num x.d.zone side sp s.now⟩,?_,?_⟩
  ·rw [hside]
   refine .add h5 hmn fun y hy=>?_
   rw [←hside]
   cases hgy:y.d.gone with
   | true=>unfold sameZ; rw [hgy]; rfl
   | false =>
    refine hno y ?_
    have hl:b.xs.length=(b.exps.filter (!·.d.gone)).length:=by unfold Bk.xs; rw [List.length_map]
    rw [hl,List.take_length]
    exact List.mem_filter.mpr ⟨hy,by rw [hgy]; rfl⟩
  ·refine Own.swap ?_
   rw [cellsW_is,addE_xs rfl]
   exact o4
theorem t_add {b:Bk}{s:Sc}{x:BT'}{sp:Spec}(o:Own H (s.cells++(b.cells++F))) (I:BInv b) (hs:s.talks=.ref b.ba) (ht:s.talk=.ref x.ad) (hx:x∈b.talks) (hw:s.isReply=0∨s.isReply=1) :
  CallOk C 3 (.ref 273) [.ref s.ad,sp.pv] H (fun v H'=>∃b',AddB b x.d s.isReply sp s.now v b'∧Own H' (s.cells++(b'.cells++F))):=by
 have i0:=o.at_ (s.ad,.inst 408 s.dx) (.head _)
 have d0:=o.at_ (s.dx,.sdict s.kv) (.tail _ (.head _))
 have ob:=o.swap
 rw [cellsW_is] at ob
 have hti:=b_ti ob hx
 have htd:=b_td ob hx
 have hz:=xs_len I
 refine fn2 hC (stAt 43) "scene" "spec" rfl rfl rfl (by kernel_rfl) (by walk_at "f") 9 ?_
 walk_at "g"
 refine getI hC i0 d0 rfl (show _=some (.ref x.ad) by rw [←ht]; rfl) rfl ?_
 walk_at "g"
 refine getI hC i0 d0 rfl (show _=some (.ref b.ba) by rw [←hs]; rfl) rfl ?_
 walk_at "g"
 refine getI hC hti htd rfl rfl rfl ?_
 walk_at "g"
 refine And.intro (fun h5=>?_) (fun h5=>?_)
 ·walk_at "g"
  exact ⟨b,.brk (.inl h5),o⟩
 walk_at "g"
 refine getI hC (b_ba ob) (b_bd ob) rfl rfl rfl ?_
 walk_at "g"
 refine srcL (b_xl ob) hz ?_
 have hmany:∀j e,(b.exps.filter (!·.d.gone))[j]?=some e→((((b.exps.filter (!·.d.gone)).take (j+1)).filter fun e=>decide (e.d.master=x.d.num)&&decide (s.now<e.d.until_)).length:Int)=((((b.exps.filter (!·.d.gone)).take j).filter fun e=>decide (e.d.master=x.d.num)&&decide (s.now<e.d.until_)).length:Int)+(if (decide (e.d.master=x.d.num)&&decide (s.now<e.d.until_))=true then 1 else 0):=fun j e he=>by
  rw [List.take_add_one,he,List.filter_append,List.length_append]
  rw [Option.toList_some,List.filter_cons,Int.natCast_add]
  split<;>rfl
 refine for_st hC.wok (σ:=Int) (fun m=>[("many",.int m),("most",.int sp.most),("nfproto",.int sp.nf),("protocol",.int sp.p),("port",.int sp.port),("talk",.ref x.ad),("book",.ref b.ba),("scene",.ref s.ad),("timeout",.int sp.span)]) (fun j m H'=>Own H' (s.cells++(b.cells++F))∧m=(((b.exps.filter (!·.d.gone)).take j).filter fun e=>decide (e.d.master=x.d.num)&&decide (s.now<e.d.until_)).length) 0 rfl ⟨o,rfl⟩ (fun _ _ _ h=>.list (.inl (b_xl (by have z:=h.1.swap; rw [cellsW_is] at z; exact z)))) (fun j y m H1 hy h=>?_) (fun m H1 h=>?_)
 ·obtain ⟨o1,hmj⟩:=h
  have o1b:=o1.swap
  rw [cellsW_is] at o1b
  unfold Bk.xs at hy
  rw [List.getElem?_map] at hy
  obtain ⟨e,he,rfl⟩:=Option.map_eq_some_iff.mp hy
  have hm:e∈b.exps:=(List.mem_filter.mp (List.mem_of_getElem? he)).1
  have hj:=hmany j e he
  rw [←hmj] at hj
  have hi:=b_ei o1b hm
  have hd:=b_ed o1b hm
  have hti1:=b_ti o1b hx
  have htd1:=b_td o1b hx
  have i1:=o1.at_ (s.ad,.inst 408 s.dx) (.head _)
  have d1:=o1.at_ (s.dx,.sdict s.kv) (.tail _ (.head _))
  walk_at "g"
  refine getI hC hi hd rfl rfl rfl ?_
  walk_at "g"
  refine getI hC hti1 htd1 rfl rfl rfl ?_
  walk_at "g"
  refine And.intro (fun h1=>?_) (fun h1=>?_)
  ·walk_at "g"
   refine getI hC i1 d1 rfl rfl rfl ?_
   walk_at "g"
   refine getI hC hi hd rfl rfl rfl ?_
   walk_at "g"
   refine And.intro (fun h2=>?_) (fun h2=>?_)
   ·walk_at "g"
    exact ⟨m+1,rfl,o1,by rw [hj,decide_eq_true h1,decide_eq_true h2]; rfl⟩
   ·walk_at "g"
    exact ⟨m,rfl,o1,by rw [hj,decide_eq_false h2,Bool.and_false]; exact (Int.add_zero m).symm⟩
  ·walk_at "g"
   exact ⟨m,rfl,o1,by rw [hj,decide_eq_false h1,Bool.false_and]; exact (Int.add_zero m).symm⟩
 ·obtain ⟨o1,hmj⟩:=h
  have hme:m=manyE (b.exps.map (·.d)) x.d.num s.now:=by
   rw [hmj]
   have hl:b.xs.length=(b.exps.filter (!·.d.gone)).length:=by unfold Bk.xs; rw [List.length_map]
   rw [hl,List.take_length]
   unfold manyE
   rw [List.filter_filter,List.filter_filter,List.filter_map,List.length_map]
   congr 1
   congr 1
   refine List.filter_congr fun e _=>?_
   show ((decide (e.d.master=x.d.num)&&decide (s.now<e.d.until_))&&!e.d.gone)=(decide (s.now<e.d.until_)&&ownE x.d.num e.d)
   unfold ownE
   cases decide (e.d.master=x.d.num)<;>cases decide (s.now<e.d.until_)<;>cases e.d.gone<;>rfl
  have o1b:=o1.swap
  rw [cellsW_is] at o1b
  have hti1:=b_ti o1b hx
  have htd1:=b_td o1b hx
  have i1:=o1.at_ (s.ad,.inst 408 s.dx) (.head _)
  have d1:=o1.at_ (s.dx,.sdict s.kv) (.tail _ (.head _))
  walk_at "g"
  refine And.intro (fun h6=>?_) (fun h6=>?_)
  ·walk_at "g"
   exact ⟨b,.brk (.inr (hme▸h6)),o1⟩
  have sd:=t_side hC (dir:=1-s.isReply) hti1 htd1
  walk_at "g"
  refine getI hC i1 d1 rfl rfl rfl ?_
  walk_at "g"
  refine up sd rfl fun v H2 h=>?_
  obtain ⟨rfl,rfl⟩:=h
  have hsw:(if 1-s.isReply=0 then x.d.a else x.d.b)=sideW x.d.a x.d.b s.isReply:=by
   unfold sideW
   rcases hw with z | z<;>rw [z]<;>rfl
  rw [hsw]
  have fin:=fun nf' hnf=>t_add9 hC (side:=sideW x.d.a x.d.b s.isReply) (nf':=nf') o1 I hx rfl hnf h5 (hme▸h6)
  walk_at "g"
  refine And.intro (fun h7=>?_) (fun h7=>?_)
  ·walk_at "g"
   exact (fin 2 (if_pos h7).symm).looks (subF_is rfl)
  ·walk_at "g"
   exact (fin sp.nf (if_neg h7).symm).looks (subF_is rfl)
end
section
noncomputable def idxs {α:Type}(q:α→Bool):Nat→List α→List Nat
 | _,[]=>[]
 | k,x::r=>if q x=true then k::idxs q (k+1) r else idxs q (k+1) r
theorem idxs_ge {α:Type}{q:α→Bool}:∀{l:List α}{k i:Nat},i∈idxs q k l→k≤i
 | [],_,_,h=>by cases h
 | x::r,k,i,h=>by
  unfold idxs at h
  split at h
  ·rcases List.mem_cons.mp h with rfl | h
   ·exact Nat.le_refl _
   ·exact Nat.le_of_succ_le (idxs_ge h)
  ·exact Nat.le_of_succ_le (idxs_ge h)
theorem idxs_at {α:Type}{q:α→Bool}:∀{l:List α}{k j:Nat}{x:α},(l.filter q)[j]?=some x→∃i,(idxs q k l)[j]?=some (k+i)∧l[i]?=some x
 | x::r,k,j,y,h=>by
  rw [List.filter_cons] at h
  unfold idxs
  split at h
  ·rename_i hx
   rw [if_pos hx]
   induction j using Nat.casesOn with
   | zero=>cases h; exact ⟨0,rfl,rfl⟩
   | succ j =>
    obtain ⟨i,h1,h2⟩:=idxs_at (k:=k+1) (j:=j) h
    exact ⟨i+1,by rw [List.getElem?_cons_succ,h1,Nat.succ_add_eq_add_succ],h2⟩
  ·rename_i hx
   rw [if_neg hx]
   obtain ⟨i,h1,h2⟩:=idxs_at (k:=k+1) h
   exact ⟨i+1,by rw [h1,Nat.succ_add_eq_add_succ],h2⟩
theorem idxs_len {α:Type}{q:α→Bool}:∀{l:List α}{k:Nat},(idxs q k l).length=(l.filter q).length
 | [],_=>rfl
 | x::r,k=>by
  unfold idxs
  rw [List.filter_cons]
  split
  ·rw [List.length_cons,List.length_cons,idxs_len]
  ·exact idxs_len
theorem idxs_inj {α:Type}{q:α→Bool}:∀{l:List α}{k j j' i:Nat},(idxs q k l)[j]?=some i→(idxs q k l)[j']?=some i→j=j'
 | [],_,_,_,_,h,_=>by cases h
 | x::r,k,j,j',i,h,h'=>by
  unfold idxs at h h'
  split at h
  ·rename_i hx
   rw [if_pos hx] at h'
   induction j using Nat.casesOn with
   | zero =>
    cases h
    induction j' using Nat.casesOn with
    | zero=>rfl
    | succ j'=>exact absurd (idxs_ge (List.mem_of_getElem? h')) (Nat.not_succ_le_self _)
   | succ j =>
    induction j' using Nat.casesOn with
    | zero=>cases h'; exact absurd (idxs_ge (List.mem_of_getElem? h)) (Nat.not_succ_le_self _)
    | succ j'=>rw [idxs_inj (l:=r) (k:=k+1) (j:=j) (j':=j') h h']
  ·rename_i hx
   rw [if_neg hx] at h'
   exact idxs_inj h h'
theorem idxs_filter {α:Type}{q p:α→Bool}{p':Nat→Bool}:∀{l:List α}{k:Nat},(∀i x,l[i]?=some x→p' (k+i)=p x)→(idxs q k l).filter p'=idxs (fun x=>q x&&p x) k l
 | [],_,_=>rfl
 | x::r,k,h=>by
  have h0:=h 0 x rfl
  have hr:=idxs_filter (q:=q) (p:=p) (p':=p') (l:=r) (k:=k+1) fun i y hy=>by rw [←h (i+1) y hy,Nat.succ_add_eq_add_succ]
  unfold idxs
  cases hq:q x with
  | true =>
   rw [Nat.add_zero] at h0
   rw [if_pos rfl,List.filter_cons,h0,hr]
   cases p x<;>rfl
  | false=>rw [if_neg (by simp),hr]; rfl
inductive Drops (b:Bk):List Nat→Bk→Prop
 | nil:Drops b [] b
 | snoc {l:List Nat}{b':Bk}{i:Nat}{x:BT'}{xl:Addr}:Drops b l b'→b'.talks[i]?=some x→Drops b (l++[i]) (b'.drop i x xl)
noncomputable def oldB (b:Bk) (now:Int) (i:Nat):Bool:=match b.talks[i]? with | some x=>decide (x.d.until_≤now) | none=>false
theorem drops_addrs {b b':Bk}{l:List Nat}(h:Drops b l b'):b'.ba=b.ba∧b'.bd=b.bd∧b'.tb=b.tb∧b'.tk=b.tk:=by
 induction h with
 | nil=>exact ⟨rfl,rfl,rfl,rfl⟩
 | snoc _ _ ih=>exact ih
variable {C:Cfg}(hC:CK C) {H:GHeap}{F:List Cell}
include hC
theorem t_sweep {b:Bk}{now:Int}(o:Own H (b.cells++F)) (I:BInv b) :
  CallOk C 3 (.ref 333) [.ref b.ba,.int now] H (fun v H'=>∃b',Drops b (idxs (fun x:BT'=>x.d.isIn&&decide (x.d.until_≤now)) 0 b.talks) b'∧v=.int (idxs (fun x:BT'=>x.d.isIn&&decide (x.d.until_≤now)) 0 b.talks).length∧Own H' (b'.cells++F)):=by
 have o0:=o
 rw [cellsW_is] at o0
 have hlen:=Nat.le_trans (ids_len I) I.many
 refine fn2 hC (stAt 51) "book" "now" rfl rfl rfl (by kernel_rfl) (by walk_at "f") 100 ?_
 walk_at "g"
 refine getI hC (b_ba o0) (b_bd o0) rfl rfl rfl ?_
 walk_at "g"
 refine c_list_i (b_tk o0) (Nat.le_trans hlen (by decide)) fun c hc=>?_
 have o1:=Own.newF (g:=.list (b.ids.map fun kv=>.int kv.1)) o hc
 have gl:=GHeap.set_same H c (.list (b.ids.map fun kv=>.int kv.1))
 refine srcL gl (by rw [List.length_map]; exact Nat.le_trans hlen (by decide)) ?_
 refine for_st hC.wok (σ:=Int) (fun m=>[("gone",.int m),("book",.ref b.ba),("now",.int now)]) (fun j m H'=>∃b',Drops b (((idxs (fun x:BT'=>x.d.isIn) 0 b.talks).take j).filter (oldB b now)) b'∧m=((((idxs (fun x:BT'=>x.d.isIn) 0 b.talks).take j).filter (oldB b now)).length:Int)∧Own H' (b'.cells++((c,.list (b.ids.map fun kv=>.int kv.1))::F))∧BInv b'∧∀j' i,j≤j'→(idxs (fun x:BT'=>x.d.isIn) 0 b.talks)[j']?=some i→b'.talks[i]?=b.talks[i]?) 0 rfl ⟨b,.nil,rfl,o1,I,fun _ _ _ _=>rfl⟩ (fun _ _ _ h=>?_) (fun j y m H1 hy h=>?_) (fun m H1 h=>?_)
 ·refine byP fun PG kG=>?_
  obtain ⟨b',_,_,o',_⟩:=h
  refine kG ?_
  exact .list (.inl (Own.inF o'))
 ·refine byP fun PG kG=>?_
  obtain ⟨b',hd,hm,o',I',hsame⟩:=h
  obtain ⟨e1,e2,e3,e4⟩:=drops_addrs hd
  refine kG ?_
  unfold Bk.ids at hy
  rw [List.map_map,List.getElem?_map] at hy
  refine byP fun PG kG=>?_
  obtain ⟨x,hx,rfl⟩:=Option.map_eq_some_iff.mp hy
  obtain ⟨i,hi,hxi⟩:=idxs_at (k:=0) hx
  refine kG ?_
  rw [Nat.zero_add] at hi
  have hin:x.d.isIn=true:=(List.mem_filter.mp (List.mem_of_getElem? hx)).2
  have hxi':b'.talks[i]?=some x:=(hsame j i (Nat.le_refl _) hi).trans hxi
  have hxm:=List.mem_of_getElem? hxi'
  have hlk:b'.ids.lookup x.d.num=some (.ref x.ad):=lookup_mem' I'.ids (List.mem_map.mpr ⟨x,List.mem_filter.mpr ⟨hxm,hin⟩,rfl⟩)
  have hold:oldB b now i=decide (x.d.until_≤now):=by unfold oldB; rw [hxi]
  have htake:((idxs (fun x:BT'=>x.d.isIn) 0 b.talks).take (j+1)).filter (oldB b now)=(((idxs (fun x:BT'=>x.d.isIn) 0 b.talks).take j).filter (oldB b now))++(if x.d.until_≤now then [i] else []):=by
   rw [List.take_add_one,hi,List.filter_append,Option.toList_some,List.filter_cons,hold,List.filter_nil]
   by_cases h:x.d.until_≤now
   ·rw [if_pos h,decide_eq_true h]; rfl
   ·rw [if_neg h,decide_eq_false h]; rfl
  have ow:=o'
  rw [cellsW_is] at ow
  have a1:=b_ba ow
  have a2:=b_bd ow
  have a3:=b_tk ow
  have a4:=b_ti ow hxm
  have a5:=b_td ow hxm
  rw [e1] at a1
  rw [e2] at a1 a2
  rw [e4] at a3
  have dr:=t_drop hC o' hxi' I' (fun h=>by rw [hin] at h; cases h) (tab_len I')
  rw [e1] at dr
  walk_at "g"
  refine getI hC a1 a2 rfl (show _=some (.ref b.tk) by rw [←e4]; rfl) rfl ?_
  walk_at "g"
  refine subI a3 hlk ?_
  walk_at "g"
  refine getI hC a4 a5 rfl rfl rfl ?_
  walk_at "g"
  refine And.intro (fun h1=>?_) (fun h1=>?_)
  ·walk_at "g"
   refine getI hC a1 a2 rfl (show _=some (.ref b.tk) by rw [←e4]; rfl) rfl ?_
   walk_at "g"
   refine subI a3 hlk ?_
   walk_at "g"
   refine up dr rfl fun v H2 h=>?_
   refine byP fun PG kG=>?_
   obtain ⟨rfl,xl,o2⟩:=h
   refine kG ?_
   rw [if_pos h1] at htake
   walk_at "g"
   refine ⟨m+1,rfl,b'.drop i x xl,by rw [htake]; exact .snoc hd hxi',by rw [htake,hm,List.length_append]; rfl,o2,drop_inv I' hxi',fun j' i' hj hi'=>?_⟩
   have hne:i≠i':=fun e=>by
    have:=idxs_inj hi (e▸hi')
    lia
   show (b'.talks.set i x.off)[i']?=_
   rw [List.getElem?_set_ne hne]
   exact hsame j' i' (by exact Nat.le_of_lt (by assumption)) hi'
  ·rw [if_neg h1,List.append_nil] at htake
   walk_at "g"
   exact ⟨m,rfl,b',by rw [htake]; exact hd,by rw [htake]; exact hm,o',I',fun j' i' hj hi'=>hsame j' i' (by exact Nat.le_of_lt (by assumption)) hi'⟩
 ·refine byP fun PG kG=>?_
  obtain ⟨b',hd,hm,o',I',hsame⟩:=h
  refine kG ?_
  have hz:(b.ids.map fun kv=>PV.int kv.1).length=(idxs (fun x:BT'=>x.d.isIn) 0 b.talks).length:=by
   unfold Bk.ids
   rw [List.length_map,List.length_map,idxs_len]
  have hf:=idxs_filter (q:=fun x:BT'=>x.d.isIn) (p:=fun x=>decide (x.d.until_≤now)) (p':=oldB b now) (l:=b.talks) (k:=0) fun i x hx=>by unfold oldB; rw [Nat.zero_add,hx]
  rw [hz,List.take_length,hf] at hd hm
  walk_at "g"
  exact ⟨b',hd,by rw [hm]; rfl,o'.sub (List.Sublist.append_left (List.sublist_cons_self _ _) _)⟩
end
section
variable {C:Cfg}(hC:CK C) {H:GHeap}{F:List Cell}
include hC
theorem t_udps (o:Own H F):CallOk C 1 (.ref 238) [] H (fun v H'=>∃a t,v=.ref a∧Own H' ((a,.idict [(17,.ref t)])::(t,.sdict [("begin",.ref 217),("go",.ref 224)])::F)):=by
 refine fn0 hC (stAt 40) rfl rfl rfl (by kernel_rfl) (by kernel_rfl) 100 ?_
 walk_at "g"
 intro t ht
 walk_at "g"
 intro a ha
 walk_at "g"
 exact ⟨a,t,rfl,(o.new ht).new ha⟩
theorem t_plains (o:Own H F):CallOk C 1 (.ref 245) [] H (fun v H'=>∃a t,v=.ref a∧Own H' ((a,.idict [(-1,.ref t)])::(t,.sdict [("begin",.ref 217),("go",.ref 231)])::F)):=by
 refine fn0 hC (stAt 41) rfl rfl rfl (by kernel_rfl) (by kernel_rfl) 100 ?_
 walk_at "g"
 intro t ht
 walk_at "g"
 intro a ha
 walk_at "g"
 exact ⟨a,t,rfl,(o.new ht).new ha⟩
end
noncomputable def KB {α:Type}(n:Nat):KasT α→(α→Prop)→Prop
 | .ret a,P=>P a
 | .ask i j k,P=>i<n∧j<n∧∀b,KB n (k b) P
noncomputable def KR {α:Type}(lt:Nat→Nat→Bool):KasT α→α
 | .ret a=>a
 | .ask i j k=>KR lt (k (lt i j))
theorem KB.bind {α β:Type}{n:Nat}{f:α→KasT β}{P:α→Prop}{R:β→Prop}(hf:∀a,P a→KB n (f a) R):∀{t:KasT α},KB n t P→KB n (t.bind f) R
 | .ret a,h=>hf a h
 | .ask i j k,h=>⟨h.1,h.2.1,fun b=>KB.bind hf (h.2.2 b)⟩
theorem KB.wp {α:Type}{n:Nat}{cmp:Nat→Nat→(Bool→Shared→Prop)→Shared→Prop}{lt:Nat→Nat→Bool}{s:Shared}(hc:∀i j,i<n→j<n→∀C:Bool→Shared→Prop,C (lt i j) s→cmp i j C s) {P:α→Prop}{Q:α→Shared→Prop} :
  ∀{t:KasT α},KB n t P→(P (KR lt t)→Q (KR lt t) s)→t.kasWp cmp Q s
 | .ret a,h,q=>q h
 | .ask i j k,h,q=>hc i j h.1 h.2.1 _ (KB.wp hc (h.2.2 _) q)
theorem KR_bind {α β:Type}{lt:Nat→Nat→Bool}{f:α→KasT β}:∀(t:KasT α),KR lt (t.bind f)=KR lt (f (KR lt t))
 | .ret a=>rfl
 | .ask i j k=>KR_bind (k (lt i j))
noncomputable def Ents (n:Nat) (p:Array Nat):Prop:=0<n∧∀x∈p,x<n
theorem Ents.at {n:Nat}{p:Array Nat}(h:Ents n p) (i:Nat):p.getD i 0<n:=by
 unfold Array.getD
 split
 ·exact h.2 _ (Array.getElem_mem _)
 ·exact h.1
theorem Ents.swap {n:Nat}{p:Array Nat}(h:Ents n p) (i j:Nat):Ents n (p.swapIfInBounds i j):=by
 refine ⟨h.1,fun x hx=>?_⟩
 rw [Array.swapIfInBounds_def] at hx
 split at hx
 ·split at hx
  ·exact h.2 x ((Array.swap_perm _ _).mem_iff.mp hx)
  ·exact h.2 x hx
 ·exact h.2 x hx
theorem Ents.fold {n:Nat}{u v:Nat→Nat}:∀(l:List Nat) {p:Array Nat},Ents n p→Ents n (l.foldl (fun a k=>a.swapIfInBounds (u k) (v k)) p)
 | [],_,h=>h
 | k::l,_,h=>Ents.fold l (h.swap _ _)
theorem Ents.rev {n:Nat}{p:Array Nat}(h:Ents n p) (i j:Nat):Ents n (kas_rev p i j):=Ents.fold (u:=fun k=>i+k) (v:=fun k=>j-1-k) _ h
theorem Ents.bub {n:Nat}{p:Array Nat}(h:Ents n p) (k c:Nat):Ents n (bubble p k c):=Ents.fold (u:=fun i=>k-i) (v:=fun i=>k-i-1) _ h
theorem kb_asc {N:Nat}{p:Array Nat}(h:Ents N p):∀(f n:Nat),KB N (kas_asc p f n) fun _=>True
 | 0,n=>trivial
 | f+1,n=>⟨h.at _,h.at _,fun c=>by cases c; exact kb_asc h f (n+1); exact trivial⟩
theorem kb_desc {N:Nat}:∀(f:Nat) {p:Array Nat}(n q:Nat),Ents N p→KB N (kas_desc f p n q) fun r=>Ents N r.1
 | 0,p,n,q,h=>h
 | f+1,p,n,q,h=>⟨h.at _,h.at _,fun c=>by
  induction c using Bool.casesOn with
  | true =>
   dsimp only
   rw [if_pos rfl]
   split
   ·exact kb_desc f _ _ (h.rev _ _)
   ·exact kb_desc f _ _ h
  | false =>
   dsimp only
   rw [if_neg Bool.false_ne_true]
   refine ⟨h.at _,h.at _,fun d=>?_⟩
   induction d using Bool.casesOn with
   | true=>exact h
   | false=>exact kb_desc f _ _ h⟩
theorem kb_tail {N n m:Nat}{p:Array Nat}(h:Ents N p):KB N (kas_tail3 n m p) fun r=>Ents N r.2:=by
 unfold kas_tail3
 refine KB.bind (fun m _=>?_) (kb_asc (h.rev 0 n) _ _)
 exact h.rev 0 n
theorem kb_descPart {N n m:Nat}{p:Array Nat}(h:Ents N p):KB N (kas_descPart n m p) fun r=>Ents N r.2:=by
 unfold kas_descPart
 refine KB.bind (fun r hr=>?_) (kb_desc _ _ _ h)
 split
 ·exact kb_tail (Ents.rev hr _ _)
 ·exact kb_tail hr
theorem kb_count {N m:Nat}{p:Array Nat}(h:Ents N p):KB N (kas_count m p) fun r=>Ents N r.2:=by
 unfold kas_count
 refine KB.bind (fun n _=>?_) (kb_asc h _ _)
 split
 ·exact h
 ·split
  ·refine ⟨h.at _,h.at _,fun c=>?_⟩
   induction c using Bool.casesOn with
   | true=>exact h
   | false=>exact kb_descPart (h.rev _ _)
  ·exact kb_descPart h
theorem kb_place {N k:Nat}{p:Array Nat}(h:Ents N p):∀(f l r:Nat),KB N (kas_place p k f l r) fun _=>True
 | 0,l,r=>trivial
 | f+1,l,r=>by
  unfold kas_place
  split
  ·exact trivial
  ·refine ⟨h.at _,h.at _,fun c=>?_⟩
   induction c using Bool.casesOn with
   | true=>exact kb_place h f _ _
   | false=>exact kb_place h f _ _
theorem kb_bin {N:Nat}:∀(f:Nat) {p:Array Nat}(k:Nat),Ents N p→KB N (kas_bin f p k) fun _=>True
 | 0,_,_,_=>trivial
 | f+1,p,k,h=>KB.bind (fun l _=>kb_bin f _ (h.bub _ _)) (kb_place h _ _ _)
theorem kb_sort {n:Nat}(hn:0<n):KB n (kas_sort n) fun _=>True:=by
 have h:Ents n (List.toArray (List.range n)):=⟨hn,fun x hx=>by simpa using hx⟩
 unfold kas_sort
 refine KB.bind (fun r hr=>?_) (kb_count h)
 split
 ·exact kb_bin _ _ hr
 ·exact trivial
section
mutual
noncomputable def ltD:PyData→PyData→Bool
 | .int a,.int b=>decide (a<b)
 | .tuple xs,.tuple ys=>(lexN xs ys).getD (decide (xs.length<ys.length))
 | _,_=>false
noncomputable def lexN:List PyData→List PyData→Option Bool
 | x::xs,y::ys=>if PyData.eqv x y=true then lexN xs ys else some (ltD x y)
 | _,_=>none
end
mutual
inductive LtOk:Nat→PyData→PyData→Prop
 | int (f:Nat) (a b:Int):LtOk f (.int a) (.int b)
 | tup {f xs ys}:LtAll f xs ys→LtOk (f+1) (.tuple xs) (.tuple ys)
inductive LtAll:Nat→List PyData→List PyData→Prop
 | nil {f}:LtAll f [] []
 | cons {f x y xs ys}:LtOk f x y→SeqAt.shaped x=true→SeqAt.shaped y=true→LtAll f xs ys→LtAll f (x::xs) (y::ys)
end
section
variable {prog:Program}{w:World}{A:Around}{E:Value→Shared→Prop}{s:Shared}
noncomputable def ReadsI (h:Heap) (v:Value):PyData→Prop
 | .int x=>∃t,v=.int x t
 | .tuple ds=>∃a o vs n as,v=.ref a∧h.get? a=some o∧o.cls=.type "tuple" ∧ o.data=.seq (List.toArray vs) n∧ReadsAll h vs ds as
 | _=>True
theorem reads_inv {h:Heap}{v:Value}{d:PyData}{as:List Addr}(r:Reads h v d as):ReadsI h v d:=by
 cases r with
 | int x t=>exact ⟨t,rfl⟩
 | @tuple a o vs n _ as ho hc hd rs=>obtain ⟨vs⟩:=vs; exact ⟨a,o,vs,n,as,rfl,ho,hc,hd,rs⟩
 | _=>exact trivial
noncomputable def ReadsAllI (h:Heap) (vs:List Value):List PyData→Prop
 | []=>vs=[]
 | d::ds=>∃v ws as bs,vs=v::ws∧Reads h v d as∧ReadsAll h ws ds bs
theorem readsAll_inv {h:Heap}{vs:List Value}{ds:List PyData}{as:List Addr}(r:ReadsAll h vs ds as):ReadsAllI h vs ds:=by
 cases r with
 | nil=>exact rfl
 | cons a b=>exact ⟨_,_,_,_,rfl,a,b⟩
theorem ReadsAll.len {h:Heap}(ds:List PyData):∀{vs:List Value}{as:List Addr},ReadsAll h vs ds as→vs.length=ds.length:=by
 induction ds with
 | nil=>intro vs as r; rw [show vs=[] from readsAll_inv r]; rfl
 | cons d ds ih=>intro vs as r; obtain ⟨v,ws,_,_,rfl,_,b⟩:=readsAll_inv r; exact congrArg (·+1) (ih b)
theorem LtAll.ind {P:Nat→List PyData→List PyData→Prop}(nil:∀f,P f [] []) (cons:∀{f x y xs ys},LtOk f x y→SeqAt.shaped x=true→SeqAt.shaped y=true→P f xs ys→P f (x::xs) (y::ys)) {f:Nat}{xs ys:List PyData}(l:LtAll f xs ys):P f xs ys :=
 LtAll.rec (motive_1:=fun _ _ _ _=>True) (motive_2:=fun f xs ys _=>P f xs ys) (fun _ _ _=>trivial) (fun _ _=>trivial) (fun {f}=>nil f) (fun a b c _ _ i=>cons a b c i) l
theorem eqBool_sh {a b:Value}{da db:PyData}{as bs:List Addr}{Q:Bool→Shared→Prop}(ra:Reads s.heap a da as) (rb:Reads s.heap b db bs) (ha:SeqAt.shaped da=true) (hb:SeqAt.shaped db=true) (hu:A.units+64<cLine) (h:Q (PyData.eqv da db) s) :
  wpAny (model prog w) A (eqBool a b) Q E s:=SeqAt.eqBoolOverData prog w A E s a b da db as bs Q ra rb (SeqAt.canLay_of_shaped ha) (SeqAt.canLay_of_shaped hb) (SeqAt.room_of_shaped ha hu) h
noncomputable abbrev LtBody (prog:Program) (w:World) (A:Around) (E:Value→Shared→Prop) (body:Value×Value→Option Fin×Unit→Sem (ForInStep (Option Fin×Unit))):Prop :=
 ∀p q (s:Shared) (R':ForInStep (Option Fin×Unit)→Shared→Prop),
   wpAny (model prog w) A (eqBool p q) (fun e s'=>if e=true then R' (.yield (none,())) s' else wpAny (model prog w) A (richCompare .Lt p q) (fun c s''=>R' (.done (some (Fin.done (.ret c)),())) s'') E s') E s →
   wpAny (model prog w) A (body (p,q) (none,())) R' E s
theorem rich_lt {f:Nat}{d e:PyData}(l:LtOk f d e):∀{A:Around}{a b:Value}{as bs:List Addr}{Q:Value→Shared→Prop},Reads s.heap a d as→Reads s.heap b e bs→A.units+64+f<cLine→Q (.bool (ltD d e)) s→wpAny (model prog w) A (richCompare .Lt a b) Q E s :=
 LtOk.rec (motive_1:=fun f d e _=>∀{A:Around}{a b:Value}{as bs:List Addr}{Q:Value→Shared→Prop},Reads s.heap a d as→Reads s.heap b e bs→A.units+64+f<cLine→Q (.bool (ltD d e)) s→wpAny (model prog w) A (richCompare .Lt a b) Q E s)
  (motive_2:=fun f xs ys _=>∀{A:Around}{vs us:List Value}{as bs:List Addr}{R:Option Fin×Unit→Shared→Prop}{body:Value×Value→Option Fin×Unit→Sem (ForInStep (Option Fin×Unit))},ReadsAll s.heap vs xs as→ReadsAll s.heap us ys bs→A.units+64+f<cLine →
   LtBody prog w A E body→(lexN xs ys=none→R (none,()) s)→(∀b,lexN xs ys=some b→R (some (Fin.done (.ret (.bool b))),()) s)→wpAny (model prog w) A (forIn (vs.zip us) (none,()) body) R E s)
  (fun _ x y A a b _ _ Q ra rb _ h=>by
   refine byP fun PG kG=>?_
   obtain ⟨t,rfl⟩:=reads_inv ra
   obtain ⟨u,rfl⟩:=reads_inv rb
   refine kG ?_
   exact wpAny_lt_int h)
  (fun {f xs ys} _ loop A a b _ _ Q ra rb hu h=>by
   refine byP fun PG kG=>?_
   obtain ⟨a,o,vs,n,as,rfl,ho,hc,hd,rs⟩:=reads_inv ra
   obtain ⟨b,o',us,n',bs,rfl,ho',hc',hd',rs'⟩:=reads_inv rb
   refine kG ?_
   have hTb:s.TypeIs (.ref b) "tuple" := ⟨_,ho',hc'⟩
   have h:Q (.bool ((lexN xs ys).getD (decide (xs.length<ys.length)))) s:=h
   refine wpAny_richCompare_same_room (op:=.Lt) ⟨_,ho,hc⟩ hTb PySem.F.slot_tuple_lt (wpAny_call_entry PySem.F.slot_tuple_lt ⟨_,ho,hc⟩ PySem.F.entry_tuple_lt ?_ (PySem.F.args_tuple_lt_2 _ _)) (by lia)
   show wpAny _ _ (isInstance (.ref b) (.type "tuple")>>=_) _ _ s
   refine wpAny_bind (wpAny_isInstance hTb isSubtype_tuple_tuple (wpAny_ifF Bool.false_ne_true (wpAny_bind (wpAny_tupleItemsOf ho hd (wpAny_bind (wpAny_tupleItemsOf ho' hd' (wpAny_bind (loop rs rs' (A:=A.in1) (by show A.units+1+64+f<cLine; have hu:A.units+64+(f+1)<cLine:=hu; lia) (fun p q s' R' hp=>?_) (fun hn=>?_) fun b hb=>?_))))))))
   ·refine wpAny_bind (wpAny_mono hp (fun e s'' he=>?_) fun _ _ x=>x)
    induction e using Bool.casesOn with
    | true=>exact wpAny_ifF Bool.false_ne_true (wpAny_pure he)
    | false=>exact wpAny_bind (wpAny_rule (wpAny_bind (wpAny_mono he (fun c s3 hc=>wpAny_bind (wpAny_pure (wpAny_pure hc))) fun _ _ x=>x)))
   ·rw [hn,←ReadsAll.len _ rs,←ReadsAll.len _ rs'] at h
    exact wpAny_pure ⟨_,rfl,(fun e=>nomatch e),h⟩
   ·rw [hb] at h
    exact wpAny_pure ⟨_,rfl,(fun e=>nomatch e),h⟩)
  (fun ra rb hu hb h0 h1=>by
   rw [show _=_ from readsAll_inv ra,show _=_ from readsAll_inv rb,List.zip_nil_left,List.forIn_nil]
   exact wpAny_pure (h0 rfl))
  (fun {f x y xs ys} _ sx sy _ rich loop A vs us _ _ R body ra rb hu hb h0 h1=>by
   refine byP fun PG kG=>?_
   obtain ⟨v,vs,_,_,rfl,r1,ra⟩:=readsAll_inv ra
   obtain ⟨u,us,_,_,rfl,r2,rb⟩:=readsAll_inv rb
   refine kG ?_
   rw [List.zip_cons_cons,List.forIn_cons]
   refine wpAny_bind (hb _ _ s _ (eqBool_sh r1 r2 sx sy (by lia) ?_))
   have h0:(if PyData.eqv x y=true then lexN xs ys else some (ltD x y))=none→R (none,()) s:=h0
   have h1:∀b,(if PyData.eqv x y=true then lexN xs ys else some (ltD x y))=some b→R (some (Fin.done (.ret (.bool b))),()) s:=h1
   cases he:PyData.eqv x y with
   | true =>
    rw [he,if_pos rfl] at h0 h1
    exact loop ra rb hu hb h0 h1
   | false =>
    rw [he,if_neg Bool.false_ne_true] at h0 h1
    exact rich r1 r2 hu (wpAny_pure (h1 _ rfl))) l
end
end
section
noncomputable def sortI (lt:Nat→Nat→Bool) (n:Nat):List Nat:=if n<2 then List.range n else (KR lt (kas_sort n)).toList
noncomputable def sortL {α:Type}(d:α) (lt:Nat→Nat→Bool) (l:List α):List α:=(sortI lt l.length).map fun i=>l.getD i d
theorem sortL_small {α:Type}{d:α}{lt:Nat→Nat→Bool}{l:List α}(h:l.length<2):sortL d lt l=l:=by
 unfold sortL sortI
 rw [if_pos h]
 match l,h with
 | [],_=>rfl
 | [x],_=>rfl
section
variable {prog:Program}{w:World}{A:Around}{E:Value→Shared→Prop}{s:Shared}{a:Addr}{vs:List Value}{lt:Nat→Nat→Bool}
structure AskOk (prog:Program) (w:World) (A:Around) (vs:List Value) (lt:Nat→Nat→Bool) (s:Shared):Prop where
 ask:∃κ,(∀(Q:SortKind→Shared→Prop) (E:Value→Shared→Prop),Q κ s→wpAny (model prog w) A (keyKind' vs.toArray) Q E s)∧∀i j,i<vs.length→j<vs.length→∀C:Bool→Shared→Prop,C (lt i j) s→kas_ask prog w A κ vs i j C s
theorem sort_body {n:Nat}{P:PySem.Fin→Shared→Prop}(ho:s.heap.get? a=some (seqObj "list" vs.toArray n)) (h64:vs.length<64)
  (hk:2≤vs.length→∀h',(∀b o,b≠a→s.heap.get? b=some o→h'.get? b=some o)→AskOk prog w A vs lt {s with heap:=h'})
  (hP:∀h' c,(∀b o,b≠a→s.heap.get? b=some o→h'.get? b=some o)→h'.get? a=some (seqObj "list" (sortL Value.none lt vs).toArray c)→P (.done (.ret .none)) {s with heap:=h'}) :
  wpAny (model prog w) A (Builtin.«list.sort» ⟨[.ref a],[]⟩) P E s:=by
 have ha:a<s.heap.objs.size:=Heap.lt_size ho
 have s1:=Heap.SameBut.update s.heap a (Obj.mapSeq fun _=>(#[]:Array Value))
 obtain ⟨e1,ho1⟩:∃e1,(s.heap.update a (Obj.mapSeq fun _=>(#[]:Array Value))).get? a=some (seqObj "list" #[] e1):=⟨_,get?_update_seq ho fun _=>#[]⟩
 have keep3:∀b o,b≠a→s.heap.get? b=some o→(((s.heap.update a (Obj.mapSeq fun _=>(#[]:Array Value))).push (seqObj "tuple" vs.toArray 0)).push (seqObj "list" #[] 0)).get? b=some o:=fun b o hb e =>
  Heap.get?_push_of_some _ (Heap.get?_push_of_some _ (s1.extBut b o hb e))
 have ho3:(((s.heap.update a (Obj.mapSeq fun _=>(#[]:Array Value))).push (seqObj "tuple" vs.toArray 0)).push (seqObj "list" #[] 0)).get? a=some (seqObj "list" #[] e1):=Heap.get?_push_of_some _ (Heap.get?_push_of_some _ ho1)
 rw [list_sort_plain]
 refine wpAny_bind (listItems_at ho rfl ?_)
 refine wpAny_bind (listUpdate_at ho rfl ?_ (by rw [List.size_toArray]; exact line_of (Nat.le_trans (Nat.le_of_lt h64) (by decide))) (Nat.zero_le _))
 refine wpAny_bind (seqEpoch_at ho1 rfl ?_)
 refine wpAny_bind (wpAny_newTuple ?_ (by show vs.length≤_; exact line_of (Nat.le_trans (Nat.le_of_lt h64) (by decide))))
 refine wpAny_bind (wpAny_newList ?_ (Nat.zero_le _))
 refine wpAny_holding ?_
 show wpAny (model prog w) A _ P E {s with heap:=((s.heap.update a (Obj.mapSeq fun _=>(#[]:Array Value))).push (seqObj "tuple" vs.toArray 0)).push (seqObj "list" #[] 0)}
 generalize (((s.heap.update a (Obj.mapSeq fun _=>(#[]:Array Value))).push (seqObj "tuple" vs.toArray 0)).push (seqObj "list" #[] 0))=h3 at keep3 ho3
 dsimp only
 have hup:∀out:List Value,out=sortL Value.none lt vs→P (.done (.ret .none)) {s with heap:=h3.update a (Obj.mapSeq fun _=>out.toArray)}:=fun out hout=>by
  subst hout
  obtain ⟨c2,hc2⟩:∃c2,(h3.update a (Obj.mapSeq fun _=>(sortL Value.none lt vs).toArray)).get? a=some (seqObj "list" (sortL Value.none lt vs).toArray c2):=⟨_,get?_update_seq ho3 fun _=>(sortL Value.none lt vs).toArray⟩
  exact hP _ c2 (fun b o hb e=>(Heap.SameBut.update h3 a (Obj.mapSeq fun _=>(sortL Value.none lt vs).toArray)).extBut b o hb (keep3 b o hb e)) hc2
 by_cases h2:vs.toArray.size<2
 ·rw [if_pos h2,if_pos h2]
  rw [List.size_toArray] at h2
  refine wpAny_bind (wpAny_pure ?_)
  refine wpAny_bind ?_
  rw [StateT.run_pure]
  refine wpAny_pure ?_
  have hout:(arrOf (SortSt.mk' general' (vs.toArray.zip vs.toArray) #[] 7 none)).map (fun x=>x.snd)=vs.toArray:=by
   show (vs.toArray.zip vs.toArray).map (·.2)=_
   apply Array.toList_inj.mp
   rw [Array.toList_map,Array.toList_zip,List.map_snd_zip (Nat.le_refl _)]
  dsimp only
  rw [hout]
  refine wpAny_bind (seqEpoch_at ho3 rfl ?_)
  refine wpAny_bind (listUpdate_at ho3 rfl ?_ (Nat.zero_le _) (by rw [List.size_toArray]; first | exact line_of (Nat.le_trans (Nat.le_of_lt h64) (by decide)) | (rw [sizeLine_eq]; exact Nat.le_trans (Nat.le_of_lt (by assumption)) (by decide))))
  simp only [bne_self_eq_false,Bool.false_eq_true,if_false]
  exact wpAny_pure (hup vs (sortL_small h2).symm)
 ·rw [if_neg h2,if_neg h2]
  rw [List.size_toArray] at h2
  refine byP fun PG kG=>?_
  obtain ⟨κ,hkind,hask⟩:=(hk (by exact Nat.not_lt.mp (by assumption)) h3 keep3).ask
  refine kG ?_
  refine wpAny_bind (hkind _ _ ?_)
  have run:=KB.wp (cmp:=kas_ask prog w A κ vs) hask (Q:=fun p s'=>p=KR lt (kas_sort vs.length)∧s'={s with heap:=h3}) (kb_sort (n:=vs.length) (by lia)) fun _=>⟨rfl,rfl⟩
  refine wpAny_bind (wpAny_mono (kat_run (Q:=fun st' s'=>∃p:Array Nat,p.size=vs.length∧arrOf st'=p.map (kas_item (vs.toArray.zip vs.toArray))∧failedOf st'=none∧p=KR lt (kas_sort vs.length)∧s'={s with heap:=h3})
   rfl (by exact Nat.not_lt.mp (by assumption)) h64 (fun p' st' s' a1 a2 a3 a4=>⟨p',a1,a2,a3,a4⟩) run) ?_ fun _ _ e=>e)
  rintro ⟨⟨⟩,st'⟩ s' ⟨p,hp,har,hf,hpe,rfl⟩
  dsimp only
  have hout:=kat_snds rfl har
  rw [hout]
  have hsz:(List.toArray (p.toList.map fun i=>vs.getD i Value.none)).size=vs.length:=by rw [List.size_toArray,List.length_map,Array.length_toList,hp]
  refine wpAny_bind (seqEpoch_at ho3 rfl ?_)
  refine wpAny_bind (listUpdate_at ho3 rfl ?_ (Nat.zero_le _) (Nat.le_trans (Nat.le_of_eq hsz) (by first | exact line_of (Nat.le_trans (Nat.le_of_lt h64) (by decide)) | (rw [sizeLine_eq]; exact Nat.le_trans (Nat.le_of_lt (by assumption)) (by decide)))))
  rw [hf]
  simp only [bne_self_eq_false,Bool.false_eq_true,if_false]
  exact wpAny_pure (hup _ (by unfold sortL sortI; rw [if_neg h2,hpe]))
end
end
section
structure RawAt (h:Heap) (d:Addr) (es:Array DictEntry) (ep:Nat):Prop where
 at_:∃o,h.get? d=some o∧o.cls=.type "dict" ∧ o.data=.dict es ep
noncomputable abbrev ItIs (h:Heap) (it d:Addr) (i n ep:Nat) (ow:Value) (f:Bool) (ok ov:Value):Prop :=
 h.get? it=some {cls:=.type "dict_itemiterator",dict:=none,data:=.fields #[ow,.bool f,.ref d,.int i 0,.int n 0,.int ep 0,ok,ov],slots:=#[]}
section
variable {prog:Program}{w:World}{A:Around}{E:Value→Shared→Prop}{s:Shared}{d it:Addr}{es:Array DictEntry}{ep:Nat}
theorem wpAny_ifT {α:Type}{M:Model}{A:Around}{s:Shared}{Q:α→Shared→Prop}{E:Value→Shared→Prop}{c:Prop} [Decidable c] {t e:Sem α}(h:c) (k:wpAny M A t Q E s):wpAny M A (if c then t else e) Q E s:=by rw [if_pos h]; exact k
theorem RawAt.mono {h h':Heap}(m:RawAt h d es ep) (k:∀o,h.get? d=some o→h'.get? d=some o):RawAt h' d es ep:=⟨m.at_.imp fun o z=>⟨k o z.1,z.2⟩⟩
theorem RawAt.lt {h:Heap}(m:RawAt h d es ep):d<h.objs.size:=m.at_.elim fun _ z=>Heap.lt_size z.1
theorem it_view {v:Addr}{Q:Value→Shared→Prop}(hv:s.heap.IsItemsView v d) (hm:RawAt s.heap d es ep)
  (hQ:Q (.ref s.heap.objs.size) {s with heap:=s.heap.push {cls:=.type "dict_itemiterator",data:=.fields #[.none,.bool false,.ref d,.int 0 0,.int es.size 0,.int ep 0,.none,.none]}}) :
  wpAny (model prog w) A (pyIter (.ref v)) Q E s:=by
 refine byP fun PG kG=>?_
 obtain ⟨ov,hov,hcv,hdv⟩:=id hv
 obtain ⟨o,ho,hc,hdat⟩:=hm.at_
 refine kG ?_
 refine wpAny_pyIter_slot hv.typeIs PySem.F.slot_dict_items_iter (wpAny_call_entry PySem.F.slot_dict_items_iter hv.typeIs PySem.F.entry_dict_items_iter ?_ (PySem.F.args_dict_items_iter_1 _))
 unfold Builtin.«dict_items.__iter__»
 refine wpAny_bind (wpAny_pure ?_)
 refine wpAny_bind ?_
 unfold Builtin.Dict_items.dictOf
 refine wpAny_bind (wpAny_field hov hdv (x:=.ref d) rfl (wpAny_pure ?_))
 refine wpAny_bind ?_
 unfold Builtin.Dict_items.newIterator
 refine wpAny_bind (wpAny_dictEntries ho hdat ?_)
 refine wpAny_bind (wpAny_dictEpoch ho hdat ?_)
 have hown:Builtin.Dict_items.ownsTuple "dict_itemiterator" = true:=by decide
 simp only [hown,if_true]
 refine wpAny_newObj_type (wpAny_pure ⟨_,rfl, "dict_itemiterator",_,⟨_,Heap.get?_push_size _ rfl,rfl⟩,PySem.F.slot_dict_itemiterator_next.lookup,?_⟩)
  (by simp only [sizeOk,Builtin.Dict_items.ownedTupleFields,List.size_toArray,List.length_append,List.length_cons,List.length_nil,sizeLine_eq]; lia)
 simpa [rawInt,Builtin.Dict_items.ownedTupleFields] using hQ
structure OwnSt (h:Heap) (it:Addr) (ow:Value):Prop where
 st:ow=.none∨∃(a:Addr) (o:Obj),ow=rawInt a∧h.get? a=some o∧a≠it
theorem it_item {i:Nat}{ow ok ov:Value}{f:Bool}{Q:Option Value→Shared→Prop}(hit:ItIs s.heap it d i es.size ep ow f ok ov) (hw:OwnSt s.heap it ow)
  (hm:RawAt s.heap d es ep) (hi:i<es.size)
  (hQ:∀h' ow' f' ok' ov',ItIs h' it d (i+1) es.size ep ow' f' ok' ov'→OwnSt h' it ow'→h'.get? s.heap.objs.size=some {cls:=.type "tuple",data:=.seq #[es[i].key,es[i].val]}→h'.objs.size=s.heap.objs.size+1 →
   (∀b o,b≠it→s.heap.get? b=some o→h'.get? b=some o)→(∀a:Addr,ow'=rawInt a→ow=rawInt a∨a=s.heap.objs.size)→Q (some (.ref s.heap.objs.size)) {s with heap:=h'}) :
  wpAny (model prog w) A (pyNext (.ref it)) Q E s:=by
 obtain ⟨hp,g,dr,tk,os⟩:=s
 obtain ⟨od,hod,hcd,hdd⟩:=hm.at_
 have hT:Shared.TypeIs ⟨hp,g,dr,tk,os⟩ (.ref it) "dict_itemiterator" := ⟨_,hit,rfl⟩
 have hil:it<hp.objs.size:=Heap.lt_size hit
 unfold pyNext
 refine wpAny_bind (wpAny_attempt (wpAny_callSpecial?_slot (name:=Str.ofString "__next__") hT PySem.F.slot_dict_itemiterator_next
  (wpAny_call_entry PySem.F.slot_dict_itemiterator_next hT PySem.F.entry_dict_itemiterator_next ?_ (PySem.F.args_dict_itemiterator_next_1 _))))
 refine wpAny_bind (wpAny_pure (wpAny_bind (wpAny_bind ?_)))
 refine wpAny_bind (wpAny_typeNameOfWhole_itemiter hT (wpAny_pure (wpAny_bind (wpAny_fieldsOf hit rfl ?_))))
 show wpAny _ _ (if (Value.ref d == Value.none)=true then _ else _) _ _ _
 refine wpAny_ifF (show ¬((Value.ref d == Value.none)=true) from Bool.false_ne_true) (wpAny_bind (wpAny_pure (wpAny_bind (wpAny_dictEntries hod hdd (wpAny_ifF (by simp) (wpAny_bind (wpAny_pure (wpAny_bind (wpAny_dictEpoch hod hdd (wpAny_ifF (by simp) (wpAny_pure ?_)))))))))))
 simp only [show ¬((i:Int)<0) from by exact Int.not_lt.mpr (Int.natCast_nonneg _),if_false,Int.toNat_natCast,Array.getElem?_eq_getElem hi]
 refine wpAny_bind ?_
 first | refine wpAny_bind (wpAny_typeNameOfWhole_itemiter hT (wpAny_pure ?_)) | refine wpAny_bind (wpAny_typeNameOf_itemiter hT (wpAny_pure ?_))
 refine wpAny_bind (wpAny_isOneOf_itemiter hT ?_)
 show wpAny _ _ (setField (.ref it) 3 (rawInt ((i:Int)+1))>>=_) _ _ ⟨hp,g,dr,tk,os⟩
 refine wpAny_bind (wpAny_setField_rec hit (by simp) fun h₁ he₁ hs₁=>?_)
 replace hs₁:Heap.SameBut it hp h₁:=hs₁
 replace he₁:ItIs h₁ it d (i+1) es.size ep ow f ok ov:=by
  have e:((i+1:Nat):Int)=(i:Int)+1:=by lia
  unfold ItIs; rw [e]; simpa [rawInt] using he₁
 have hT₁:Shared.TypeIs ⟨h₁,g,dr,tk,os⟩ (.ref it) "dict_itemiterator" := ⟨_,he₁,rfl⟩
 refine wpAny_bind (wpAny_holding ?_)
 refine wpAny_bind (wpAny_isOneOf_itemiter hT₁ ?_)
 refine wpAny_bind (wpAny_isOneOf_itemiter hT₁ ?_)
 show wpAny _ _ (Builtin.Dict_items.pairFromOwner (.ref it) 6 es[i].key es[i].val) _ _ ⟨h₁,g,dr,tk,os⟩
 unfold Builtin.Dict_items.pairFromOwner
 refine wpAny_bind (wpAny_newTuple ?_)
 have he₂:ItIs (h₁.push {cls:=.type "tuple",data:=.seq #[es[i].key,es[i].val]}) it d (i+1) es.size ep ow f ok ov:=Heap.get?_push_of_some _ he₁
 generalize hh₂:h₁.push {cls:=.type "tuple",data:=.seq #[es[i].key,es[i].val]}=h₂ at he₂
 have hz₁:h₁.objs.size=hp.objs.size:=hs₁.1
 have ht₂:h₂.get? hp.objs.size=some {cls:=.type "tuple",data:=.seq #[es[i].key,es[i].val]}:=by rw [←hh₂,←hz₁]; exact Heap.get?_push_size _ rfl
 have hz₂:h₂.objs.size=hp.objs.size+1:=by rw [←hh₂,Heap.size_push,hz₁]
 have hk₂:∀b o,b≠it→hp.get? b=some o→h₂.get? b=some o:=fun b o hb e=>by rw [←hh₂]; exact Heap.get?_push_of_some _ (hs₁.extBut b o hb e)
 show wpAny _ _ (Builtin.Dict_items.ownedTupleIsFree (.ref it)>>=_) _ _ ⟨h₂,g,dr,tk,os⟩
 rw [hz₁]
 clear hh₂ he₁ hs₁ hT₁ hz₁ h₁
 have fin:∀(h₃:Heap) ow' f' ok' ov',ItIs h₃ it d (i+1) es.size ep ow' f' ok' ov'→Heap.ExtBut it h₂ h₃→h₃.objs.size=h₂.objs.size→OwnSt h₃ it ow'→(∀a:Addr,ow'=rawInt a→ow=rawInt a∨a=hp.objs.size)→Q (some (.ref hp.objs.size)) ⟨h₃,g,dr,tk,os⟩:=fun h₃ ow' f' ok' ov' he₃ hs₃ hz₃ hw₃ ha =>
  hQ h₃ ow' f' ok' ov' he₃ hw₃ (hs₃ _ _ (Nat.ne_of_gt hil) ht₂) (hz₃.trans hz₂) (fun b o hb e=>hs₃ b o hb (hk₂ b o hb e)) ha
 refine wpAny_bind ?_
 unfold Builtin.Dict_items.ownedTupleIsFree
 refine wpAny_bind (wpAny_field he₂ rfl (x:=ow) rfl ?_)
 rcases hw.st with rfl | ⟨a,oa,rfl,hoa,hai⟩
 ·refine wpAny_pure ?_
  simp only [if_true]
  refine wpAny_bind (wpAny_field he₂ rfl (x:=ok) rfl ?_)
  refine wpAny_bind (wpAny_field he₂ rfl (x:=ov) rfl ?_)
  refine wpAny_bind (wpAny_setField_rec he₂ (by simp) fun h₃ he₃ hs₃=>?_)
  replace hs₃:Heap.SameBut it h₂ h₃:=hs₃
  replace he₃:ItIs h₃ it d (i+1) es.size ep .none f es[i].key ov:=he₃
  refine wpAny_bind (wpAny_setField_rec he₃ (by simp) fun h₄ he₄ hs₄=>?_)
  replace hs₄:Heap.SameBut it h₃ h₄:=hs₄
  replace he₄:ItIs h₄ it d (i+1) es.size ep .none f es[i].key es[i].val:=he₄
  refine wpAny_bind (wpAny_setField_rec he₄ (by simp) fun h₅ he₅ hs₅=>?_)
  replace hs₅:Heap.SameBut it h₄ h₅:=hs₅
  replace he₅:ItIs h₅ it d (i+1) es.size ep (rawInt hp.objs.size) f es[i].key es[i].val:=he₅
  refine wpAny_bind (wpAny_setField_rec he₅ (by simp) fun h₆ he₆ hs₆=>?_)
  replace hs₆:Heap.SameBut it h₅ h₆:=hs₆
  replace he₆:ItIs h₆ it d (i+1) es.size ep (rawInt hp.objs.size) false es[i].key es[i].val:=he₆
  have kk:Heap.ExtBut it h₂ h₆:=fun b o hb e=>hs₆.extBut b o hb (hs₅.extBut b o hb (hs₄.extBut b o hb (hs₃.extBut b o hb e)))
  refine wpAny_bind (wpAny_letGo (wpAny_pure (wpAny_pure ⟨_,rfl,wpAny_pure (fin h₆ _ _ _ _ he₆ kk (by rw [hs₆.1,hs₅.1,hs₄.1,hs₃.1]) ⟨.inr ⟨_,_,rfl,kk _ _ (Nat.ne_of_gt hil) ht₂,Nat.ne_of_gt hil⟩⟩ fun a e=>.inr (by
   have z:((hp.objs.size:Nat):Int)=((a:Nat):Int):=(Value.int.inj e).1
   exact (Int.ofNat_inj.mp z).symm))⟩)))
 ·show wpAny _ _ (loadIfAlive ((a:Int).toNat)>>=_) _ _ _
  rw [Int.toNat_natCast]
  have ha₂:h₂.get? a=some oa:=hk₂ a oa hai hoa
  refine wpAny_bind (kdx_alive ha₂ ?_)
  simp only [Option.isNone_some,Bool.false_eq_true,if_false]
  refine wpAny_bind (wpAny_field he₂ rfl (x:=.bool f) rfl ?_)
  induction f using Bool.casesOn with
  | true =>
   rw [if_neg (show ¬((Value.bool true != Value.bool true)=true) from Bool.false_ne_true)]
   refine wpAny_pure ?_
   simp only [Bool.false_eq_true,if_false]
   exact wpAny_pure (wpAny_pure ⟨_,rfl,wpAny_pure (fin h₂ _ _ _ _ he₂ (fun _ _ _ e=>e) rfl ⟨.inr ⟨a,oa,rfl,ha₂,hai⟩⟩ fun a e=>.inl e)⟩)
  | false =>
   rw [if_pos (show (Value.bool false != Value.bool true)=true from rfl)]
   refine wpAny_bind (wpAny_setField_rec he₂ (by simp) fun h₃ he₃ hs₃=>?_)
   replace hs₃:Heap.SameBut it h₂ h₃:=hs₃
   replace he₃:ItIs h₃ it d (i+1) es.size ep (rawInt a) true ok ov:=he₃
   refine wpAny_pure ?_
   simp only [Bool.false_eq_true,if_false]
   exact wpAny_pure (wpAny_pure ⟨_,rfl,wpAny_pure (fin h₃ _ _ _ _ he₃ hs₃.extBut hs₃.1 ⟨.inr ⟨a,oa,rfl,hs₃.extBut _ _ hai ha₂,hai⟩⟩ fun a e=>.inl e)⟩)
theorem it_end {i:Nat}{ow ok ov:Value}{f:Bool}{Q:Option Value→Shared→Prop}(hh:A.handled=none) (hit:ItIs s.heap it d i es.size ep ow f ok ov) (hm:RawAt s.heap d es ep) (hi:es.size≤i)
  (hQ:∀h',Heap.ExtBut it s.heap h'→Q none {s with heap:=h'}):wpAny (model prog w) A (pyNext (.ref it)) Q E s:=by
 refine byP fun PG kG=>?_
 obtain ⟨od,hod,hcd,hdd⟩:=hm.at_
 refine kG ?_
 have hT:s.TypeIs (.ref it) "dict_itemiterator" := ⟨_,hit,rfl⟩
 unfold pyNext
 refine wpAny_bind (wpAny_attempt (wpAny_callSpecial?_slot (name:=Str.ofString "__next__") hT PySem.F.slot_dict_itemiterator_next
  (wpAny_call_entry PySem.F.slot_dict_itemiterator_next hT PySem.F.entry_dict_itemiterator_next ?_ (PySem.F.args_dict_itemiterator_next_1 _))))
 refine wpAny_bind (wpAny_pure (wpAny_bind (wpAny_bind ?_)))
 refine wpAny_bind (wpAny_typeNameOfWhole_itemiter hT (wpAny_pure (wpAny_bind (wpAny_fieldsOf hit rfl ?_))))
 show wpAny _ _ (if (Value.ref d == Value.none)=true then _ else _) _ _ s
 refine wpAny_ifF (show ¬((Value.ref d == Value.none)=true) from Bool.false_ne_true) (wpAny_bind (wpAny_pure (wpAny_bind (wpAny_dictEntries hod hdd (wpAny_ifF (by simp) (wpAny_bind (wpAny_pure (wpAny_bind (wpAny_dictEpoch hod hdd (wpAny_ifF (by simp) (wpAny_pure ?_)))))))))))
 simp only [show ¬((i:Int)<0) from by omega,if_false,Int.toNat_natCast,Array.getElem?_eq_none hi]
 refine wpAny_bind ?_
 first | refine wpAny_bind (wpAny_typeNameOfWhole_itemiter hT (wpAny_pure ?_)) | refine wpAny_bind (wpAny_typeNameOf_itemiter hT (wpAny_pure ?_))
 show wpAny _ _ (setField (.ref it) 2 .none>>=_) _ _ s
 refine wpAny_bind (wpAny_setField hit rfl (by simp) ?_)
 show wpAny _ _ (newExc (.type "StopIteration") []>>=_) _ _ _
 refine wpAny_bind ?_
 simp only [newExc,newTuple]
 refine wpAny_bind (wpAny_newObj_type ?_ (by size_fits))
 refine wpAny_bind (m:=firstArgMember _ _) (wpAny_of_eq (a:=Value.none) (by first | rfl | (simp only [firstArgMember]; rfl)) ?_)
 refine wpAny_newObj_type ?_ (by size_fits)
 simp only [raiseNew]
 refine wpAny_bind (wpAny_handled ?_)
 rw [show A.in1.handled=none from hh]
 refine wpAny_bind (wpAny_pure (wpAny_throw ?_))
 refine wpAny_bind (wpAny_isInstance (T := "StopIteration") (b:=true) ⟨_,Heap.get?_push_size _ rfl,rfl⟩ isSubtype_stop ?_)
 exact wpAny_pure (hQ _ (((Heap.SameBut.update ..).extBut.push _).push _))
end
end
section
structure PairsAt (h:Heap) (es:Array DictEntry) (lo:Addr) (as:List Addr):Prop where
 above:∀a∈as,lo<a
 pairs:∀(j:Nat) (a:Addr),as[j]?=some a→∃e,es[j]?=some e∧h.get? a=some {cls:=.type "tuple",data:=.seq #[e.key,e.val]}
section
variable {prog:Program}{w:World}{A:Around}{E:Value→Shared→Prop}{s:Shared}{d r S I:Addr}{es:Array DictEntry}{ep:Nat}{R:Result→Shared→Prop}
theorem PairsAt.mono {h h':Heap}{lo:Addr}{as:List Addr}(p:PairsAt h es lo as) (k:∀b o,lo<b→h.get? b=some o→h'.get? b=some o):PairsAt h' es lo as:=⟨p.above,fun j a hj =>
 let ⟨e,h1,h2⟩:=p.pairs j a hj
 ⟨e,h1,k a _ (p.above a (List.mem_of_getElem? hj)) h2⟩⟩
theorem PairsAt.snoc {h:Heap}{lo a:Addr}{as:List Addr}{e:DictEntry}(p:PairsAt h es lo as) (ha:lo<a) (he:es[as.length]?=some e) (ht:h.get? a=some {cls:=.type "tuple",data:=.seq #[e.key,e.val]}):PairsAt h es lo (as++[a]):=by
 refine ⟨fun b hb=>?_,fun j b hj=>?_⟩
 ·rcases List.mem_append.mp hb with hb | hb
  ·exact p.above b hb
  ·rw [List.mem_singleton.mp hb]; exact ha
 ·rcases Nat.lt_trichotomy j as.length with h1 | h1 | h1
  ·rw [List.getElem?_append_left h1] at hj
   exact p.pairs j b hj
  ·subst h1
   have hb:a=b:=by simpa using hj
   subst hb
   exact ⟨e,he,ht⟩
  ·rw [List.getElem?_eq_none (by rw [List.length_append]; exact h1)] at hj
   cases hj
theorem it_loop (hh:A.handled=none) (hSI:S<I) (hSd:d≠S) (hId:d≠I) (hn:es.size≤sizeLine) (res:Value) {h₁:Heap}
  (hR:∀h' tk acc c as,(∀b o,b≠S→b≠I→h₁.get? b=some o→h'.get? b=some o)→h'.get? S=some {cls:=.type "list",data:=.seq acc c}→as.length=es.size→PairsAt h' es I as →
   acc.toList=as.map Value.ref→R (.ok (.ret res)) {s with heap:=h',toks:=tk}) :
  ∀(k i:Nat) (h:Heap) (tk c:Nat) (acc:Array Value) (as:List Addr),i+k=es.size→(∃ow f ok ov,ItIs h I d i es.size ep ow f ok ov∧OwnSt h I ow∧∀a:Addr,ow=rawInt a→a≠S)→RawAt h d es ep→(∀b o,b≠S→b≠I→h₁.get? b=some o→h.get? b=some o) →
   h.get? S=some {cls:=.type "list",data:=.seq acc c}→acc.toList=as.map Value.ref→as.length=i→PairsAt h es I as →
   codeAny (model prog w) A (.builtin "list.extend.loop" ⟨[.ref S,.ref I,res],[]⟩) R {s with heap:=h,toks:=tk}:=by
 have hne:S≠I:=Nat.ne_of_lt hSI
 intro k
 induction k with
 | zero =>
  intro i h tk c acc as hk hst hD hkeep hS hacc hal hG
  refine byP fun PG kG=>?_
  obtain ⟨ow,f,ok,ov,hit,hw,hoS⟩:=hst
  refine kG ?_
  refine codeAny_builtin PySem.F.entry_extend_loop ?_
  rw [Around.under_plainId PySem.F.plain_extend_loop _]
  show wpAny _ A.in1 (pyNext (.ref I)>>=_) _ _ _
  refine wpAny_bind (it_end (s:={s with heap:=h,toks:=tk}) (A:=A.in1) hh hit hD (Nat.le_of_eq hk.symm) fun h' he=>?_)
  exact wpAny_pure (hR h' tk acc c as (fun b o h1 h2 e=>he b o h2 (hkeep b o h1 h2 e)) (he S _ hne hS) (hal.trans hk) (hG.mono fun b o hb e=>he b o (Nat.ne_of_gt hb) e) hacc)
 | succ k ih =>
  intro i h tk c acc as hk hst hD hkeep hS hacc hal hG
  refine byP fun PG kG=>?_
  obtain ⟨ow,f,ok,ov,hit,hw,hoS⟩:=hst
  refine kG ?_
  have hlt:i<es.size:=hk▸Nat.lt_add_of_pos_right (Nat.succ_pos k)
  have hle:=Nat.le_trans (Nat.le_of_lt hlt) hn
  have hsz:acc.size=i:=by rw [←Array.length_toList,hacc,List.length_map,hal]
  have hIs:I<h.objs.size:=Heap.lt_size hit
  refine codeAny_builtin PySem.F.entry_extend_loop ?_
  rw [Around.under_plainId PySem.F.plain_extend_loop _]
  show wpAny _ A.in1 (pyNext (.ref I)>>=_) _ _ _
  refine wpAny_bind (it_item (s:={s with heap:=h,toks:=tk}) hit hw hD hlt fun h' ow' f' ok' ov' hit' hw' ht hz hkp how=>?_)
  dsimp only at ht hz hkp how ⊢
  have hS':=hkp S _ hne hS
  have up:∀b o,b≠S→h'.get? b=some o→(h'.update S (Obj.mapSeq (·.push (Value.ref h.objs.size)))).get? b=some o:=fun b o hb e=>(Heap.get?_update_other _ _ (Ne.symm hb)).trans e
  have hSl:S<h.objs.size:=Heap.lt_size hS
  have hoS':∀a:Addr,ow'=rawInt a→a≠S:=fun a ha=>by
   rcases how a ha with e | e
   ·exact hoS a e
   ·rw [e]; exact Nat.ne_of_gt hSl
  have hw2:OwnSt (h'.update S (Obj.mapSeq (·.push (Value.ref h.objs.size)))) I ow':=⟨by
   rcases hw'.st with e | ⟨a,o,e,ha,hai⟩
   ·exact .inl e
   ·exact .inr ⟨a,o,e,up a o (hoS' a e) ha,hai⟩⟩
  show wpAny _ A.in1 (updateSeq S (·.push (Value.ref h.objs.size))>>=_) _ _ _
  refine wpAny_bind ?_
  refine wpAny_updateSeq hS' rfl (wpAny_pure ⟨plainId_quiet PySem.F.plain_extend_loop _,ih (i+1) _ tk _ (acc.push (Value.ref h.objs.size)) (as++[h.objs.size]) ((Nat.succ_add_eq_add_succ i k).trans hk) ⟨ow',f',ok',ov',up _ _ (Ne.symm hne) hit',hw2,hoS'⟩ ((hD.mono fun o e=>hkp d o hId e).mono fun o e=>up d o hSd e)
   (fun b o h1 h2 e=>up b o h1 (hkp b o h2 (hkeep b o h1 h2 e))) (Heap.get?_update_self _ hS' rfl) (by rw [Array.toList_push,hacc,List.map_append]; rfl) (by rw [List.length_append,hal]; rfl) ?_⟩) (by rw [hsz]; exact hle) (by show (acc.push (Value.ref h.objs.size)).size≤sizeLine+1; rw [Array.size_push,hsz]; exact Nat.succ_le_succ hle)
  refine PairsAt.snoc (hG.mono fun b o hb e=>up b o (Nat.ne_of_gt (Nat.lt_trans hSI hb)) (hkp b o (Nat.ne_of_gt hb) e)) hIs (by rw [hal]; exact Array.getElem?_eq_getElem hlt) (up _ _ (Nat.ne_of_gt hSl) ht)
theorem it_extend (hh:A.handled=none) (hv:s.heap.IsItemsView r d) (hm:RawAt s.heap d es ep) (S:Addr) (hSr:S≠r) (hSd:d≠S) (res:Value) (c₀:Nat) (hS:s.heap.get? S=some {cls:=.type "list",data:=.seq #[] c₀})
  (hR:∀h' tk acc c as,(∀b o,b≠S→s.heap.get? b=some o→h'.get? b=some o)→h'.get? S=some {cls:=.type "list",data:=.seq acc c}→as.length=es.size→PairsAt h' es s.heap.objs.size as →
   acc.toList=as.map Value.ref→R (.ok (.ret res)) {s with heap:=h',toks:=tk}) (hn:es.size≤sizeLine) :
  wpAny (model prog w) A.in1 (Builtin.List.listExtendWith (.ref S) (.ref r) res)
   (fun fin s'=>match fin with | .done f=>R (.ok f) s' | .again c'=>c'.quiet=true∧codeAny (model prog w) A c' R s') (fun e s'=>R (.error e) s') s:=by
 have hSI:S<s.heap.objs.size:=Heap.lt_size hS
 have hdI:d<s.heap.objs.size:=hm.lt
 have key:∀(h:Heap) (c₁ tk:Nat),(∀b o,b≠S→(s.heap.push {cls:=.type "dict_itemiterator",data:=.fields #[.none,.bool false,.ref d,.int 0 0,.int es.size 0,.int ep 0,.none,.none]}).get? b=some o→h.get? b=some o) →
   h.get? S=some {cls:=.type "list",data:=.seq #[] c₁}→codeAny (model prog w) A (.builtin "list.extend.loop" ⟨[.ref S,.ref s.heap.objs.size,res],[]⟩) R {s with heap:=h,toks:=tk}:=by
  intro h c₁ tk hk hS₁
  have hI:=hk s.heap.objs.size _ (Nat.ne_of_gt hSI) (Heap.get?_push_size _ rfl)
  exact it_loop (ep:=ep) (s:=s) (h₁:=s.heap) hh hSI hSd (Nat.ne_of_lt hdI) hn res (fun h' tk' acc c as hk' hS' hl hG hacc=>hR h' tk' acc c as (fun b o hb e=>hk' b o hb (Nat.ne_of_lt (Heap.lt_size e)) e) hS' hl hG hacc)
   es.size 0 h tk c₁ #[] [] (Nat.zero_add _) ⟨.none,false,.none,.none,hI,⟨.inl rfl⟩,fun a e=>nomatch e⟩ (hm.mono fun o e=>hk d o hSd (Heap.get?_push_of_some _ e)) (fun b o hb _ e=>hk b o hb (Heap.get?_push_of_some _ e)) hS₁ rfl rfl
   ⟨(fun _ ha=>nomatch ha),(fun j a hj=>by simp at hj)⟩
 unfold Builtin.List.listExtendWith
 refine wpAny_bind (wpAny_typeOf (T := "dict_items") hv.typeIs ?_)
 have h1:Builtin.List.listSameRef (.ref S) (.ref r)=false:=by simp [Builtin.List.listSameRef,hSr]
 have h2:(Value.type "dict_items" == Value.type "list")=false:=by decide
 have h3:(Value.type "dict_items" == Value.type "tuple")=false:=by decide
 simp only [h1,h2,h3,Bool.or_false,Bool.false_eq_true,if_false]
 refine wpAny_bind (it_view hv hm ?_)
 have hS₁:=Heap.get?_push_of_some {cls:=.type "dict_itemiterator",data:=.fields #[.none,.bool false,.ref d,.int 0 0,.int es.size 0,.int ep 0,.none,.none]} hS
 refine wpAny_bind (wpAny_holding (kdx_hint (let ⟨o,ho,hc,_⟩:=hv; ⟨o,Heap.get?_push_of_some _ ho,hc⟩) ?_))
 refine wpAny_ite_split (fun _=>?_) (fun _=>wpAny_pure ⟨plainId_quiet PySem.F.plain_extend_loop _,key _ c₀ _ (fun b o _ e=>e) hS₁⟩)
 refine wpAny_bind (wpAny_rule ?_)
 refine wpAny_bind ?_
 show wpAny _ _ (updateSeq S (·.push .none)>>=fun _=>updateSeq S (·.pop)) _ _ _
 refine wpAny_bind (wpAny_updateSeq hS₁ rfl ?_)
 have hS₂:=Heap.get?_update_self (Obj.mapSeq (·.push Value.none)) hS₁ rfl
 refine wpAny_updateSeq (hz:=by seq_fits) hS₂ rfl ?_
 have hS₃:=Heap.get?_update_self (Obj.mapSeq (·.pop)) hS₂ rfl
 refine wpAny_pure ⟨plainId_quiet PySem.F.plain_extend_loop _,key _ _ _ (fun b o hb e=>?_) hS₃⟩
 exact (Heap.get?_update_other _ _ (Ne.symm hb)).trans ((Heap.get?_update_other _ _ (Ne.symm hb)).trans e)
theorem it_collect {R:List Value→Shared→Prop}(hh:A.handled=none) (hv:s.heap.IsItemsView r d) (hm:RawAt s.heap d es ep) (hn:es.size≤sizeLine)
  (h:∀(h':Heap) (tk:Nat) (as:List Addr),(∀b o,s.heap.get? b=some o→h'.get? b=some o)→as.length=es.size→PairsAt h' es s.heap.objs.size as→R (as.map Value.ref) {s with heap:=h',toks:=tk}) :
  wpAny (model prog w) A (collect (.ref r)) R E s:=by
 have hr:r<s.heap.objs.size:=let ⟨_,ho,_⟩:=hv; Heap.lt_size ho
 have hd:d<s.heap.objs.size:=hm.lt
 unfold collect
 refine wpAny_bind (wpAny_runValue (codeAny_builtin entry_proto_collect' ?_))
 rw [Around.under_plainId PySem.F.plain_proto_collect _]
 show wpAny _ A.in1 (newList []>>=fun l=>again (.builtin "list.__iadd__" ⟨[l,.ref r],[]⟩)) _ _ s
 refine wpAny_bind (wpAny_newObj_type ?_)
 refine wpAny_pure ⟨plainId_quiet PySem.F.plain_list_iadd _,codeAny_builtin entry_list_iadd' ?_⟩
 rw [Around.under_plainId PySem.F.plain_list_iadd _]
 have hS₁:(s.heap.push {cls:=.type "list",data:=.seq ([]:List Value).toArray}).get? s.heap.objs.size=some {cls:=.type "list",data:=.seq #[]}:=Heap.get?_push_size _ rfl
 show wpAny _ A.in1 (Builtin.List.listExtendWith (.ref s.heap.objs.size) (.ref r) (.ref s.heap.objs.size)) _ _ _
 have key:=it_extend (prog:=prog) (w:=w) (A:=A) (s:={s with heap:=s.heap.push {cls:=.type "list",data:=.seq ([]:List Value).toArray}}) (es:=es) (ep:=ep)
  (R:=fun (q:Result) (s':Shared)=>∃(h':Heap) (tk:Nat) (acc':Array Value) (c':Nat) (as:List Addr),q=.ok (.ret (.ref s.heap.objs.size))∧s'={s with heap:=h',toks:=tk} ∧
   (∀b o,s.heap.get? b=some o→h'.get? b=some o)∧h'.get? s.heap.objs.size=some {cls:=.type "list",data:=.seq acc' c'}∧as.length=es.size∧PairsAt h' es s.heap.objs.size as∧acc'.toList=as.map Value.ref)
  hh (let ⟨o,ho,x⟩:=hv; ⟨o,Heap.get?_push_of_some _ ho,x⟩) (hm.mono fun o e=>Heap.get?_push_of_some _ e) s.heap.objs.size (Nat.ne_of_gt hr) (Nat.ne_of_lt hd) (.ref s.heap.objs.size) 0 hS₁
  (fun h' tk acc' c' as hk hS' hl hG hacc=>⟨h',tk,acc',c',as,rfl,rfl,fun b o e=>hk b o (Nat.ne_of_lt (Heap.lt_size e)) (Heap.get?_push_of_some _ e),hS',hl,⟨fun a ha=>Nat.lt_trans (by show s.heap.objs.size<(s.heap.push _).objs.size; rw [Heap.size_push]; exact Nat.lt_succ_self _) (hG.above a ha),hG.pairs⟩,hacc⟩) hn
 refine wpAny_mono key (fun fin s' x=>?_) fun e s' x=>?_
 ·induction fin using PySem.Fin.casesOn with
  | done f =>
   refine byP fun PG kG=>?_
   obtain ⟨h',tk,acc',c',as,e,rfl,hk,hS',hl,hG,hacc⟩:=x
   refine kG ?_
   cases e
   show wpAny _ A (load s.heap.objs.size>>=_) _ _ _
   refine wpAny_bind (wpAny_load hS' ?_)
   refine wpAny_pure ?_
   show R acc'.toList _
   rw [hacc]
   exact h h' tk as hk hl hG
  | again c₁ =>
   refine ⟨x.1,codeAny_mono x.2 fun q s₂ y=>?_⟩
   refine byP fun PG kG=>?_
   obtain ⟨h',tk,acc',c',as,rfl,rfl,hk,hS',hl,hG,hacc⟩:=y
   refine kG ?_
   show wpAny _ A (load s.heap.objs.size>>=_) _ _ _
   refine wpAny_bind (wpAny_load hS' ?_)
   refine wpAny_pure ?_
   show R acc'.toList _
   rw [hacc]
   exact h h' tk as hk hl hG
 ·refine byP fun PG kG=>?_
  obtain ⟨_,_,_,_,_,e',_⟩:=x
  refine kG ?_
  cases e'
end
end
section
structure RowDt (d:PyData):Prop where
 is:∃(a r:List PyData),d=.tuple (.tuple a::r)
noncomputable def ltR (ds:List PyData) (i j:Nat):Bool:=ltD (ds.getD i .none) (ds.getD j .none)
section
variable {prog:Program}{w:World}{A:Around}{E:Value→Shared→Prop}{s:Shared}
theorem lex_keys {fin:Bool}{Q:Bool→Shared→Prop}{f:Nat}{xs ys:List PyData}(l:LtAll f xs ys):∀{vs us:List Value}{as bs:List Addr}(i:Nat),ReadsAll s.heap vs xs as→ReadsAll s.heap us ys bs→A.units+64+f<cLine →
  Q ((lexN xs ys).getD fin) s→KatLex prog w A false fin Q (vs.zip us) i s :=
 l.ind (P:=fun f xs ys=>∀{vs us:List Value}{as bs:List Addr}(i:Nat),ReadsAll s.heap vs xs as→ReadsAll s.heap us ys bs→A.units+64+f<cLine→Q ((lexN xs ys).getD fin) s→KatLex prog w A false fin Q (vs.zip us) i s)
  (fun _ {vs us _ _} i ra rb hu h=>by
   rw [show vs=_ from readsAll_inv ra,show us=_ from readsAll_inv rb]
   exact kat_nil h)
  fun {f x y xs ys} l sx sy ih {vs us _ _} i ra rb hu h=>by
   refine byP fun PG kG=>?_
   obtain ⟨v,vs,_,_,rfl,r1,ra⟩:=readsAll_inv ra
   obtain ⟨u,us,_,_,rfl,r2,rb⟩:=readsAll_inv rb
   refine kG ?_
   rw [List.zip_cons_cons]
   refine kat_cons (eqBool_sh r1 r2 sx sy (by lia) ?_)
   have h:Q ((if PyData.eqv x y=true then lexN xs ys else some (ltD x y)).getD fin) s:=h
   cases he:PyData.eqv x y with
   | true =>
    rw [he,if_pos rfl] at h
    exact kat_yes (ih (i+1) ra rb hu h)
   | false =>
    rw [he,if_neg Bool.false_ne_true] at h
    exact kat_no (kat_one _ _ (rich_lt l r1 r2 hu h))
theorem row_tups {h:Heap}(ds:List PyData):∀{vs:List Value}{as:List Addr},ReadsAll h vs ds as→(∀d∈ds,RowDt d)→∃fs,KatTups h vs fs∧fs.length=vs.length∧∀v∈fs,∃a o,v=.ref a∧h.get? a=some o∧o.cls=.type "tuple" := by
 induction ds with
 | nil=>intro vs as r _; rw [show vs=[] from readsAll_inv r]; exact ⟨[],.nil,rfl,fun _ h=>nomatch h⟩
 | cons d ds ih =>
  intro vs as r hd
  refine byP fun PG kG=>?_
  obtain ⟨v,vs,_,_,rfl,r,rs⟩:=readsAll_inv r
  obtain ⟨fs,t,hl,ht⟩:=ih rs fun d h=>hd d (.tail _ h)
  obtain ⟨a,rr,rfl⟩:=(hd _ (.head _)).is
  obtain ⟨b,o,ws,n,_,rfl,ho,hc,hdat,rws⟩:=reads_inv r
  obtain ⟨f,ws,_,_,rfl,rf,_⟩:=readsAll_inv rws
  obtain ⟨c,o',_,_,_,rfl,ho',hc',_,_⟩:=reads_inv rf
  refine kG ?_
  exact ⟨_::fs,.cons ho hc hdat rfl t,congrArg (·+1) hl,fun v hv=>(List.mem_cons.mp hv).elim (fun e=>⟨c,o',e,ho',hc'⟩) (ht v)⟩
theorem reads_at {h:Heap}(ds:List PyData):∀{vs:List Value}{as:List Addr},ReadsAll h vs ds as→∀{i:Nat},i<vs.length→∃bs,Reads h (vs.getD i Value.none) (ds.getD i .none) bs:=by
 induction ds with
 | nil=>intro vs as r i hi; rw [show vs=[] from readsAll_inv r] at hi; exact absurd hi (Nat.not_lt_zero _)
 | cons d ds ih =>
  intro vs as r i hi
  obtain ⟨v,vs,_,_,rfl,r,rs⟩:=readsAll_inv r
  induction i using Nat.casesOn with
  | zero=>exact ⟨_,r⟩
  | succ i=>exact ih rs (Nat.lt_of_succ_lt_succ hi)
theorem ask_rows {vs:List Value}{ds:List PyData}{as:List Addr}{f:Nat}(r:ReadsAll s.heap vs ds as) (hr:∀d∈ds,RowDt d) (hl:∀d∈ds,∀e∈ds,LtOk (f+1) d e) (h2:2≤vs.length) (hu:A.units+64+f<cLine):AskOk prog w A vs (ltR ds) s:=by
 refine byP fun PG kG=>?_
 obtain ⟨fs,t,hfl,hft⟩:=row_tups _ r hr
 refine kG ?_
 refine ⟨⟨tuples' (Value.type "tuple" != Value.type "tuple"),fun Q E hq=>kat_kind (T:=.type "tuple") t (by lia) (fun v hv=>?_) (by decide) hq,fun i j hi hj C hC=>?_⟩⟩
 ·obtain ⟨a,o,rfl,ho,hc⟩:=hft v hv
  rw [←hc]
  exact (Looks.ld ho).andThen .now
 ·obtain ⟨bi,ri⟩:=reads_at _ r hi
  obtain ⟨bj,rj⟩:=reads_at _ r hj
  have hlen:=ReadsAll.len _ r
  have mi:ds.getD i .none∈ds:=by rw [List.getD_eq_getElem?_getD,List.getElem?_eq_getElem (by lia)]; exact List.getElem_mem _
  have mj:ds.getD j .none∈ds:=by rw [List.getD_eq_getElem?_getD,List.getElem?_eq_getElem (by lia)]; exact List.getElem_mem _
  have hlt:=hl _ mi _ mj
  unfold ltR at hC
  unfold kas_ask
  generalize ds.getD i .none=di at *
  generalize ds.getD j .none=dj at *
  generalize vs.getD i Value.none=vi at *
  generalize vs.getD j Value.none=vj at *
  refine byP fun PG kG=>?_
  obtain ⟨ai,ri',rfl⟩:=(hr _ mi).is
  obtain ⟨aj,rj',rfl⟩:=(hr _ mj).is
  obtain ⟨x,ox,xs,n,_,rfl,hox,hcx,hdx,rx⟩:=reads_inv ri
  obtain ⟨y,oy,ys,k,_,rfl,hoy,hcy,hdy,ry⟩:=reads_inv rj
  refine kG ?_
  have hall:LtAll f (.tuple ai::ri') (.tuple aj::rj'):=by cases hlt with | tup hall=>exact hall
  show wpAny _ _ (keyLt' (tuples' false) (.ref x) (.ref y)) _ _ _
  have hC:C ((lexN (.tuple ai::ri') (.tuple aj::rj')).getD (decide ((PyData.tuple ai::ri').length<(PyData.tuple aj::rj').length))) s:=hC
  rw [←ReadsAll.len _ rx,←ReadsAll.len _ ry] at hC
  exact kat_lt hox hdx hoy hdy (lex_keys hall 0 rx ry hu hC)
end
end
section
section
variable {prog:Program}{w:World}{A:Around}{E:Value→Shared→Prop}{s:Shared}
theorem sorted_rest {vs:List Value}{lt:Nat→Nat→Bool}{Q:Value→Shared→Prop}(h64:vs.length<64) (hk:2≤vs.length→∀h',(∀b o,s.heap.get? b=some o→h'.get? b=some o)→AskOk prog w A.in1 vs lt {s with heap:=h'})
  (hQ:∀h' c,(∀b o,s.heap.get? b=some o→h'.get? b=some o)→h'.get? s.heap.objs.size=some (seqObj "list" (sortL Value.none lt vs).toArray c)→Q (.ref s.heap.objs.size) {s with heap:=h'}) :
  wpAny (model prog w) A (do let l ←newList vs; let _ ←holding [l] (call (.builtin "list.sort") [l] []); ret l) (fun fin s'=>∃v,fin=.done (.ret v)∧Q v s') E s:=by
 refine wpAny_bind (wpAny_newList ?_ (by first | exact line_of (Nat.le_trans (Nat.le_of_lt h64) (by decide)) | (rw [sizeLine_eq]; omega)))
 have hoL:(s.heap.push (seqObj "list" vs.toArray 0)).get? s.heap.objs.size=some (seqObj "list" vs.toArray 0):=Heap.get?_push_size _ rfl
 have keep:∀b o,s.heap.get? b=some o→b≠s.heap.objs.size:=fun b o e=>Nat.ne_of_lt (Heap.lt_size e)
 refine wpAny_bind (wpAny_holding (wpAny_call_entry slot_list_sort ⟨_,hoL,rfl⟩ entry_list_sort ?body (args_list_sort _)))
 case body =>
  refine sort_body (s:={s with heap:=s.heap.push (seqObj "list" vs.toArray 0)}) hoL h64 (fun h2 h' hh=>hk h2 h' fun b o e=>hh b o (keep b o e) (Heap.get?_push_of_some _ e)) fun h' c hh hs=>?_
  exact ⟨_,rfl,wpAny_pure ⟨_,rfl,hQ h' c (fun b o e=>hh b o (keep b o e) (Heap.get?_push_of_some _ e)) hs⟩⟩
theorem sorted_call {v:Value}{Q:Value→Shared→Prop}(h:wpAny (model prog w) A.in1 (collect v) (fun vs s'=>wpAny (model prog w) A.in1 (do let l ←newList vs; let _ ←holding [l] (call (.builtin "list.sort") [l] []); ret l) (fun fin s'=>∃v,fin=.done (.ret v)∧Q v s') E s') E s) :
  wpAny (model prog w) A (call (.builtin "sorted") [v]) Q E s:=by
 refine Calls.call_function_entry kind_sorted plain_sorted entry_sorted (args_sorted1 _) ?_
 unfold Builtin.«sorted»
 refine wpAny_bind (m:=checkCount "sorted" 1 1 _) (wpAny_pure ?_)
 exact wpAny_bind h
end
section
variable {C:Cfg}{n:Nat}{H:GHeap}{Q:PV→GHeap→Prop}
theorem sortL_tells {h:Heap}{vs:List Value}{xs:List PV}{lt:Nat→Nat→Bool}(t:TellsL h vs xs):TellsL h (sortL Value.none lt vs) (sortL PV.none lt xs):=by
 unfold sortL
 rw [t.length]
 generalize sortI lt xs.length=l
 induction l with
 | nil=>exact .nil
 | cons i r ih =>
  refine .cons ?_ ih
  show Tells h (vs.getD i Value.none) (xs.getD i PV.none)
  by_cases hi:i<xs.length
  ·obtain ⟨v,hv,tv⟩:=t.get (i:=i) (List.getElem?_eq_getElem hi)
   rw [List.getD_eq_getElem?_getD,hv,List.getD_eq_getElem?_getD,List.getElem?_eq_getElem hi]
   exact tv
  ·rw [List.getD_eq_getElem?_getD,List.getElem?_eq_none (by rw [t.length]; exact Nat.not_lt.mp hi),List.getD_eq_getElem?_getD,List.getElem?_eq_none (Nat.not_lt.mp hi)]
   exact .none
theorem DtL.reads {C:Cfg}{kp:Kp}{H:GHeap}{s:Shared}(S:St C kp H s) {xs:List PV}{ds:List PyData}{vs:List Value}(l:DtL C H xs ds):TellsL s.heap vs xs→∃as,ReadsAll s.heap vs ds as :=
 l.ind (P:=fun xs ds=>∀{vs},TellsL s.heap vs xs→∃as,ReadsAll s.heap vs ds as) (fun t=>by obtain rfl:=t.inv; exact ⟨_,.nil⟩) fun a _ i2 _ t=>by obtain ⟨_,_,rfl,b,l⟩:=t.inv; exact (a.reads S b).elim fun _ r=>(i2 l).elim fun _ rs=>⟨_,.cons r rs⟩
theorem sorted_tail {A:Around}{kp:Kp}{s:Shared}{us:List Value}{xs:List PV}{ds:List PyData}(hA:Rm n A) (S:St C kp H s) (t:TellsL s.heap us xs) (hd:DtL C H xs ds) (hr:∀d∈ds,RowDt d) (hl:∀d∈ds,∀e∈ds,LtOk 3 d e) (hz:xs.length<64)
  (q:∀b,H b=none→Q (.ref b) (H.set b (.list (sortL PV.none (ltR ds) xs)))) :
  wpAny (model C.prog C.w) A.in1 (do let l ←newList us; let _ ←holding [l] (call (.builtin "list.sort") [l] []); ret l) (fun fin s'=>∃v,fin=.done (.ret v)∧BackV C kp Q v s') noE s:=by
 obtain ⟨as,r⟩:=DtL.reads S hd t
 refine sorted_rest (by rw [t.length]; exact hz) (fun h2 h' hh=>ask_rows (f:=2) (ReadsAll.keeps hh r) hr hl h2 (by have:=hA.u; unfold cLine; simp; lia)) fun h' c hh hs=>?_
 have S':=S.new (t:=s.toks) (h':=h') (Nat.le_refl _) hh (g':=.list (sortL PV.none (ltR ds) xs)) ⟨_,c,hs,sortL_tells (t.keep (Keep.of_all hh))⟩
 exact BackV.of S' (.ref _) (q _ (S.fresh (Nat.le_refl _)).1)
theorem heap_lit (h:Heap) (us:List Value) (b:Addr) (o:Obj) (e:h.get? b=some o):((h.push (seqObj "list" #[] 0)).update h.objs.size (Obj.mapSeq (·++us.toArray))).get? b=some o:=by
 rw [Heap.get?_update_ne _ _ _ _ (Nat.ne_of_lt (Heap.lt_size e))]
 exact Heap.get?_push_of_some _ e
theorem c_sorted {a:Addr}{xs:List PV}{ds:List PyData}(e:LsAt C H a xs) (hd:DtL C H xs ds) (hr:∀d∈ds,RowDt d) (hl:∀d∈ds,∀e∈ds,LtOk 3 d e) (hz:xs.length<64)
  (q:∀b,H b=none→Q (.ref b) (H.set b (.list (sortL PV.none (ltR ds) xs)))):CallOk C n (.val (.builtin "sorted")) [.ref a] H Q:=.r1 fun A kp s hA S =>
 (e.isList S).elim fun us h=>sorted_call (collect_list h.1 (sorted_tail hA (S.grow (t:=s.toks) (heap_lit s.heap us)) (h.2.keep (Keep.of_all (heap_lit s.heap us))) hd hr hl hz q) (h.2.fits (Nat.le_trans (Nat.le_of_lt hz) (by decide))))
theorem sortL_asc {α:Type}{d:α}{lt:Nat→Nat→Bool}{l:List α}(h:∀i,i+1<l.length→lt (i+1) i=false):sortL d lt l=l:=by
 by_cases h2:l.length<2
 ·exact sortL_small h2
 unfold sortL sortI
 rw [if_neg h2]
 have hrange:∀i,i<l.length→(List.toArray (List.range l.length)).getD i 0=i:=fun i hi=>by simp [Array.getD,hi]
 have key:∀f n,1≤n→n+f=l.length→KR lt (kas_asc (List.toArray (List.range l.length)) f n)=l.length:=fun f=>by
  induction f with
  | zero=>intro n _ e; exact e
  | succ f ih =>
   intro n hn e
   show KR lt (if lt ((List.toArray (List.range l.length)).getD n 0) ((List.toArray (List.range l.length)).getD (n-1) 0)=true then KasT.ret n else kas_asc _ f (n+1))=_
   have hn':n<l.length:=e▸Nat.lt_add_of_pos_right (Nat.succ_pos f)
   rw [hrange n hn',hrange (n-1) (Nat.lt_of_le_of_lt (Nat.sub_le _ _) hn')]
   have z:=h (n-1) ((Nat.sub_add_cancel hn).symm▸hn')
   rw [Nat.sub_add_cancel hn] at z
   rw [z,if_neg Bool.false_ne_true]
   exact ih (n+1) (Nat.succ_le_succ (Nat.zero_le _)) ((Nat.succ_add_eq_add_succ n f).trans e)
 have hc:KR lt (kas_count l.length (List.toArray (List.range l.length)))=(l.length,List.toArray (List.range l.length)):=by
  unfold kas_count
  rw [KR_bind,key _ 1 (Nat.le_refl _) (Nat.add_sub_of_le (Nat.le_trans (by decide) (Nat.not_lt.mp h2)))]
  rw [if_pos (by simp)]; rfl
 have hs:KR lt (kas_sort l.length)=List.toArray (List.range l.length):=by
  unfold kas_sort
  rw [KR_bind,hc]
  show KR lt (if l.length<l.length then _ else KasT.ret _)=_
  rw [if_neg (Nat.lt_irrefl _)]; rfl
 rw [hs]
 show (List.range l.length).map (fun i=>l.getD i d)=l
 apply List.ext_getElem?
 intro i
 rw [List.getElem?_map]
 by_cases hi:i<l.length
 ·rw [List.getElem?_range hi,List.getElem?_eq_getElem hi]
  show some (l.getD i d)=_
  rw [List.getD_eq_getElem?_getD,List.getElem?_eq_getElem hi]; rfl
 ·rw [List.getElem?_eq_none (by rw [List.length_range]; exact Nat.not_lt.mp hi),List.getElem?_eq_none (Nat.not_lt.mp hi)]; rfl
end
end
section
section
variable {C:Cfg}{n:Nat}{H:GHeap}{Q:PV→GHeap→Prop}
noncomputable def rowsPV (kvs:List (TKey×PV)):List PV:=kvs.map fun kv=>.tup [tkPV kv.1,kv.2]
theorem c_items {d:Addr}{kvs:List (TKey×PV)}(e:H d=some (.tdict kvs)) (q:Q (.items d) H):CallOk C n (.val (.builtin "dict.items")) [.ref d] H Q:=.r1 fun A kp s hA S=>by
  refine (S.own _ _ e).elim fun xs h=>h.elim fun m h=>?_
  have ho:=h.1
  have hT:s.TypeIs (.ref d) "dict" := ⟨_,ho,rfl⟩
  refine wpAny_call_entry PySem.F.slot_dict_items hT PySem.F.entry_dict_items ?_ (PySem.F.args_dict_items_1 _)
  unfold Builtin.«dict.items»
  refine wpAny_bind ?_
  unfold Builtin.Dict.noArgs
  refine wpAny_bind (wpAny_notOrdered_dict hT ?_)
  show wpAny _ _ (pure d) _ _ s
  refine wpAny_pure ?_
  show wpAny _ _ (Builtin.Dict.showsAll d>>=_) _ _ s
  unfold Builtin.Dict.showsAll
  rw [if_neg (by rw [S.notMods e]; exact Bool.false_ne_true)]
  refine wpAny_bind (wpAny_pure ?_)
  refine wpAny_bind (wpAny_newObj_type (wpAny_pure ⟨_,rfl,?_⟩))
  exact BackV.of (S.grow (t:=s.toks) fun b o eb=>Heap.get?_push_of_some _ eb) (.items (Heap.get?_push_size _ rfl)) q
theorem c_sorted_items {d:Addr}{kvs:List (TKey×PV)}{ds:List PyData}(e:H d=some (.tdict kvs)) (hd:DtL C H (rowsPV kvs) ds) (hr:∀d∈ds,RowDt d) (hl:∀d∈ds,∀e∈ds,LtOk 3 d e) (hz:kvs.length<64)
  (q:∀b,H b=none→Q (.ref b) (H.set b (.list (sortL PV.none (ltR ds) (rowsPV kvs))))):CallOk C n (.val (.builtin "sorted")) [.items d] H Q:=.v1 fun A kp s v hA S tv=>by
 obtain ⟨r,rfl,hv⟩:=tv.inv
 obtain ⟨xs,m,ho,nd,hk,kv⟩:=S.own _ _ e
 have hlen:xs.length=kvs.length:=by have:=kv.length; rwa [List.length_map] at this
 have hes:(xs.map (tdEntry C)).toArray.size=kvs.length:=by rw [List.size_toArray,List.length_map,hlen]
 refine sorted_call (it_collect (A:=A.in1) hA.h ⟨_,hv,rfl,rfl⟩ (es:=(xs.map (tdEntry C)).toArray) (ep:=m) ⟨_,ho,rfl,rfl⟩ (line_of (hes▸Nat.le_trans (Nat.le_of_lt hz) (by decide))) fun h' tk as hh hal hp=>?_)
 refine sorted_tail (s:={s with heap:=h',toks:=tk}) hA (S.grow (t:=tk) hh) (tells_at (by unfold rowsPV; rw [List.length_map,List.length_map,hal,hes]) ?_) hd hr hl (by unfold rowsPV; rw [List.length_map]; exact hz) q
 have kh:=Keep.of_all (h:=s.heap) (h':=h') hh
 clear ho nd q hd hr hl hz hal hes hlen
 intro j v x hv hx
 rw [List.getElem?_map] at hv
 obtain ⟨a,ha,rfl⟩:=Option.map_eq_some_iff.mp hv
 unfold rowsPV at hx
 rw [List.getElem?_map] at hx
 obtain ⟨⟨k,y⟩,hky,rfl⟩:=Option.map_eq_some_iff.mp hx
 obtain ⟨en,he,ht⟩:=hp.pairs j a ha
 obtain ⟨u,hu,tu⟩:=kv.get hky
 rw [List.getElem?_map] at hu
 obtain ⟨x0,hx0,hxe⟩:=Option.map_eq_some_iff.mp hu
 obtain ⟨rfl,rfl⟩:=Prod.mk.inj hxe
 rw [List.getElem?_toArray,List.getElem?_map,hx0] at he
 rw [←Option.some.inj he] at ht
 exact .tup ht (.cons (tkey_tells ((hk x0 (List.mem_of_getElem? hx0)).keep kh)) (.cons (tu.keep kh) .nil))
end
end
section
section
variable {prog:Program}{w:World}{A:Around}{E:Value→Shared→Prop}{s:Shared}{T:String}{r d:Addr}{n:Nat}{P:Nat→Value→Prop}{OK:Heap→Prop}
theorem kdl_coll {R:List Value→Shared→Prop}(K:KdlSrc prog w T r d n P OK) (hh:A.handled=none) (hok:OK s.heap) (hn:n≤sizeLine)
  (h:∀(h':Heap) (tk:Nat) (acc:Array Value),(∀b o,s.heap.get? b=some o→h'.get? b=some o)→ItemsOf P acc n→R acc.toList {s with heap:=h',toks:=tk}) :
  wpAny (model prog w) A (collect (.ref r)) R E s:=by
 have hlt:=K.there _ hok
 unfold collect
 refine wpAny_bind (wpAny_runValue (codeAny_builtin entry_proto_collect' ?_))
 rw [Around.under_plainId PySem.F.plain_proto_collect _]
 show wpAny _ A.in1 (newList []>>=fun l=>again (.builtin "list.__iadd__" ⟨[l,.ref r],[]⟩)) _ _ s
 refine wpAny_bind (wpAny_newObj_type ?_)
 refine wpAny_pure ⟨plainId_quiet PySem.F.plain_list_iadd _,codeAny_builtin entry_list_iadd' ?_⟩
 rw [Around.under_plainId PySem.F.plain_list_iadd _]
 have hS₁:(s.heap.push {cls:=.type "list",data:=.seq ([]:List Value).toArray}).get? s.heap.objs.size=some {cls:=.type "list",data:=.seq #[]}:=Heap.get?_push_size _ rfl
 show wpAny _ A.in1 (Builtin.List.listExtendWith (.ref s.heap.objs.size) (.ref r) (.ref s.heap.objs.size)) _ _ _
 have key:=kdl_extend (A:=A) (s:={s with heap:=s.heap.push {cls:=.type "list",data:=.seq ([]:List Value).toArray}})
  (R:=fun (q:Result) (s':Shared)=>∃(h':Heap) (tk:Nat) (acc':Array Value) (c':Nat),q=.ok (.ret (.ref s.heap.objs.size))∧s'={s with heap:=h',toks:=tk} ∧
   (∀b o,s.heap.get? b=some o→h'.get? b=some o)∧h'.get? s.heap.objs.size=some {cls:=.type "list",data:=.seq acc' c'}∧ItemsOf P acc' n)
  K hh (K.keep _ _ hok fun b _ o e=>Heap.get?_push_of_some _ e) s.heap.objs.size (Nat.ne_of_gt hlt.1) (Nat.ne_of_gt hlt.2) (.ref s.heap.objs.size) 0 hS₁
  (fun h' tk acc' c' hk hS' hacc=>⟨h',tk,acc',c',rfl,rfl,fun b o e=>hk b o (Nat.ne_of_lt (Heap.lt_size e)) (Heap.get?_push_of_some _ e),hS',hacc⟩) hn
 refine wpAny_mono key (fun fin s' x=>?_) fun e s' x=>?_
 ·induction fin using PySem.Fin.casesOn with
  | done f =>
   refine byP fun PG kG=>?_
   obtain ⟨h',tk,acc',c',e,rfl,hk,hS',hacc⟩:=x
   cases e
   refine kG ?_
   show wpAny _ A (load s.heap.objs.size>>=_) _ _ _
   refine wpAny_bind (wpAny_load hS' ?_)
   exact wpAny_pure (h h' tk acc' hk hacc)
  | again c₁ =>
   refine ⟨x.1,codeAny_mono x.2 fun q s₂ y=>?_⟩
   refine byP fun PG kG=>?_
   obtain ⟨h',tk,acc',c',rfl,rfl,hk,hS',hacc⟩:=y
   refine kG ?_
   show wpAny _ A (load s.heap.objs.size>>=_) _ _ _
   refine wpAny_bind (wpAny_load hS' ?_)
   exact wpAny_pure (h h' tk acc' hk hacc)
 ·refine byP fun PG kG=>?_
  obtain ⟨_,_,_,_,e',_⟩:=x
  refine kG ?_
  cases e'
theorem ask_ints {vs:List Value}{ks:List Int}(t:TellsL s.heap vs (ks.map PV.int)) (h2:2≤vs.length):AskOk prog w A vs (fun i j=>decide (ks.getD i 0<ks.getD j 0)) s:=by
 have hlen:vs.length=ks.length:=by rw [t.length,List.length_map]
 have at_:∀i,i<vs.length→∃tk,vs.getD i Value.none=.int (ks.getD i 0) tk:=fun i hi=>by
  have hi':i<ks.length:=hlen▸hi
  obtain ⟨v,hv,tv⟩:=t.get (i:=i) (x:=.int (ks.getD i 0)) (by rw [List.getElem?_map,List.getElem?_eq_getElem hi',List.getD_eq_getElem?_getD,List.getElem?_eq_getElem hi']; rfl)
  exact tv.inv.elim fun tk e=>⟨tk,by rw [List.getD_eq_getElem?_getD,hv,e]; rfl⟩
 refine ⟨⟨oneType',fun Q E hq=>kas_kind (T:=.type "int") h2 (fun v hv=>?_) (by decide) (by decide) hq,fun i j hi hj C hC=>?_⟩⟩
 ·obtain ⟨i,hi,rfl⟩:=List.mem_iff_getElem.mp hv
  obtain ⟨tk,e⟩:=at_ i hi
  rw [List.getD_eq_getElem?_getD,List.getElem?_eq_getElem hi] at e
  rw [show vs[i]=.int (ks.getD i 0) tk from e]
  exact Looks.of_pure rfl
 ·obtain ⟨ti,ei⟩:=at_ i hi
  obtain ⟨tj,ej⟩:=at_ j hj
  unfold kas_ask
  rw [ei,ej]
  exact kat_lt_int hC
end
section
variable {C:Cfg}{n:Nat}{H:GHeap}{Q:PV→GHeap→Prop}
theorem c_sorted_i {a:Addr}{kvs:List (Int×PV)}(e:H a=some (.idict kvs)) (hz:kvs.length<64) (asc:∀i,i+1<kvs.length→¬(kvs.map (·.1)).getD (i+1) 0<(kvs.map (·.1)).getD i 0)
  (q:∀b,H b=none→Q (.ref b) (H.set b (.list (kvs.map fun kv=>PV.int kv.1)))):CallOk C n (.val (.builtin "sorted")) [.ref a] H Q:=.r1 fun A kp s hA S=>by
  obtain ⟨us,d,t⟩:=S.own _ _ e
  obtain ⟨ep,d'⟩:=d.dictAt
  refine sorted_call (kdl_coll (A:=A.in1) (kdl_dict (S.notMods e)) hA.h d' (line_of (t.length▸Nat.le_trans (Nat.le_of_lt hz) (by decide))) fun h' tk acc hk hacc=>?_)
  have T:TellsL h' acc.toList ((kvs.map (·.1)).map PV.int):=by
   obtain ⟨hn,hget⟩:=hacc
   refine tells_at (by rw [Array.length_toList,hn,t.length,List.length_map,List.length_map]) fun j v x hv hx=>?_
   obtain ⟨k,y,hy,hkk⟩:=hget j v (by rw [←Array.getElem?_toList]; exact hv)
   obtain ⟨tk,rfl⟩:=Value.isInt_shape hkk
   have e1:(us.map (·.1))[j]?=some k:=by rw [List.getElem?_map,hy]; rfl
   rw [t.keys] at e1
   rw [List.getElem?_map,e1] at hx
   cases hx
   exact .int _ _
  have S1:=S.grow (t:=tk) hk
  have hal:acc.toList.length=kvs.length:=by rw [T.length,List.length_map,List.length_map]
  refine sorted_rest (s:={s with heap:=h',toks:=tk}) (by rw [hal]; exact hz) (fun h2 h'' hh=>ask_ints (ks:=kvs.map (·.1)) (T.keep (Keep.of_all hh)) h2) fun h'' c hh hs=>?_
  rw [sortL_asc fun i hi=>decide_eq_false (asc i (by rw [←hal]; exact hi))] at hs
  have S':=S1.new (t:=tk) (h':=h'') (Nat.le_refl _) hh (g':=.list ((kvs.map (·.1)).map PV.int)) ⟨_,c,hs,T.keep (Keep.of_all hh)⟩
  have q':=q h'.objs.size (S1.fresh (Nat.le_refl _)).1
  rw [show (kvs.map fun kv=>PV.int kv.1)=(kvs.map (·.1)).map PV.int by rw [List.map_map]; rfl] at q'
  exact BackV.of S' (.ref _) q'
end
end
section
structure TR where
 z:Int
 t:T6
 n:Int
 w:Int
noncomputable def TR.pv (r:TR):PV:=.tup [.tup [.int r.z,r.t.pv],.tup [.int r.n,.int r.w]]
noncomputable def TR.d (r:TR):PyData:=.tuple [.tuple [.int r.z,.tuple (r.t.l.map PyData.int)],.tuple [.int r.n,.int r.w]]
noncomputable def sortT (l:List TR):List PV:=sortL PV.none (ltR (l.map TR.d)) (l.map TR.pv)
theorem TR.dt {C:Cfg}{H:GHeap}(r:TR):Dt C H r.pv r.d:=.tup (.cons (.tup (.cons (.int _) (.cons (.tup (DtL.ints r.t.l)) .nil))) (.cons (.tup (.cons (.int _) (.cons (.int _) .nil))) .nil))
theorem TR.dts {C:Cfg}{H:GHeap}:∀l:List TR,DtL C H (l.map TR.pv) (l.map TR.d)
 | []=>.nil
 | r::l=>.cons r.dt (TR.dts l)
theorem TR.row {l:List TR}:∀d∈l.map TR.d,RowDt d:=fun d hd=>by
 obtain ⟨r,_,rfl⟩:=List.mem_map.mp hd
 exact ⟨_,_,rfl⟩
theorem ltAll_ints {f:Nat}:∀{ks ls:List Int},ks.length=ls.length→LtAll f (ks.map PyData.int) (ls.map PyData.int)
 | [],[],_=>.nil
 | k::ks,l::ls,h=>.cons (.int f k l) (int_shaped k) (int_shaped l) (ltAll_ints (Nat.succ.inj h))
theorem TR.lt {l:List TR}:∀d∈l.map TR.d,∀e∈l.map TR.d,LtOk 3 d e:=fun d hd e he=>by
 obtain ⟨r,_,rfl⟩:=List.mem_map.mp hd
 obtain ⟨q,_,rfl⟩:=List.mem_map.mp he
 have sh:∀r:TR,SeqAt.shaped (.tuple [.int r.z,.tuple (r.t.l.map PyData.int)])=true:=fun r=>rfl
 have sh6:∀r:TR,SeqAt.shaped (.tuple (r.t.l.map PyData.int))=true:=fun r=>rfl
 have sh2:∀r:TR,SeqAt.shaped (.tuple [.int r.n,.int r.w])=true:=fun r=>rfl
 exact .tup (.cons (.tup (.cons (.int _ _ _) (int_shaped _) (int_shaped _) (.cons (.tup (ltAll_ints rfl)) (sh6 r) (sh6 q) .nil))) (sh r) (sh q) (.cons (.tup (.cons (.int _ _ _) (int_shaped _) (int_shaped _) (.cons (.int _ _ _) (int_shaped _) (int_shaped _) .nil))) (sh2 r) (sh2 q) .nil))
noncomputable def Bk.trs (b:Bk):List TR:=(b.talks.filter (·.d.isIn)).flatMap fun x=>[⟨x.d.zone,x.d.a,x.d.num,0⟩,⟨x.d.zone,x.d.b,x.d.num,1⟩]
theorem tab_two (b:Bk):b.tab.length=2*(b.talks.filter (·.d.isIn)).length:=by
 unfold Bk.tab
 induction b.talks.filter (·.d.isIn) with
 | nil=>rfl
 | cons x r ih=>rw [List.flatMap_cons,List.length_append,ih,List.length_cons]; show 2+_=_; lia
theorem trs_rows (b:Bk):rowsPV b.tab=b.trs.map TR.pv:=by
 unfold rowsPV Bk.tab Bk.trs
 induction b.talks.filter (·.d.isIn) with
 | nil=>rfl
 | cons x r ih=>rw [List.flatMap_cons,List.flatMap_cons,List.map_append,List.map_append,ih]; rfl
noncomputable def tRow (x:BT'):PV:=.tup [.int x.d.num,.int x.d.status,.int x.d.mark,.int x.d.until_]
noncomputable def eRow (e:BE):PV:=.tup [.int e.d.master,.tup [.int e.d.nf,.int e.d.p,.int e.d.source,.int e.d.t,.int e.d.port],.int e.d.zone,.int e.d.until_]
inductive BookV (b:Bk) (H':GHeap):PV→Prop
 | mk {a1 a2 a3:Addr}:H' a1=some (.list (sortT b.trs))→H' a2=some (.list ((b.talks.filter (·.d.isIn)).map tRow))→H' a3=some (.list ((b.exps.filter (!·.d.gone)).map eRow))→BookV b H' (.tup [.ref a1,.ref a2,.ref a3])
variable {C:Cfg}(hC:CK C) {H:GHeap}{F:List Cell}
include hC
theorem t_book {b:Bk}(o:Own H (b.cells++F)) (I:BInv b) (h12:b.talks.length≤30) (asc:∀i,i+1<b.ids.length→¬(b.ids.map (·.1)).getD (i+1) 0<(b.ids.map (·.1)).getD i 0) :
  CallOk C 1 (.ref 550) [.ref b.ba] H (fun v H'=>BookV b H' v∧Gr H H'):=by
 have o0:=o
 rw [cellsW_is] at o
 have hids:=ids_len I
 refine fn1 hC (stAt 84) "book" rfl rfl rfl (by kernel_rfl) (by walk_at "f") 100 ?_
 walk_at "g"
 refine getI hC (b_ba o) (b_bd o) rfl rfl rfl ?_
 walk_at "g"
 refine c_sorted_i (b_tk o) (by lia) asc fun c hc=>?_
 have hgl:=GHeap.set_same H c (.list (b.ids.map fun kv=>PV.int kv.1))
 have o1:=o.gr (Gr.new (g:=.list (b.ids.map fun kv=>PV.int kv.1)) hc)
 have g1:=Gr.new (g:=.list (b.ids.map fun kv=>PV.int kv.1)) hc
 have eids:(b.ids.map fun kv=>PV.int kv.1)=(b.talks.filter (·.d.isIn)).map fun x=>PV.int x.d.num:=by unfold Bk.ids; rw [List.map_map]; rfl
 rw [eids] at hgl o1 g1 ⊢
 have hlen:(b.talks.filter (·.d.isIn)).length≤1000:=Nat.le_trans (List.length_filter_le _ _) (by exact Nat.le_trans (by assumption) (by decide))
 generalize GHeap.set H c _=H1 at hgl o1 g1
 refine compL hC.wok (f:=fun x:BT'=>PV.int x.d.num) (b.talks.filter (·.d.isIn)) (fun x=>some (.ref x.ad)) hgl hlen (fun x H' hm hg=>?_) (fun H2 a2 hg2 ha2=>?_)
 ·have oe:=o1.gr hg
  obtain ⟨hxm,hin⟩:=List.mem_filter.mp hm
  have hlk:b.ids.lookup x.d.num=some (.ref x.ad):=lookup_mem' I.ids (List.mem_map.mpr ⟨x,hm,rfl⟩)
  walk_at "g"
  refine ⟨rfl,?_⟩
  walk_at "g"
  refine getI hC (b_ba oe) (b_bd oe) rfl rfl rfl ?_
  walk_at "g"
  refine subI (b_tk oe) hlk ?_
  walk_at "g"
  exact ⟨rfl,hg⟩
 have e2:(b.talks.filter (·.d.isIn)).filterMap (fun x=>some (PV.ref x.ad))=(b.talks.filter (·.d.isIn)).map fun x=>PV.ref x.ad:=fm_some _ _
 rw [e2]
 have h2:=GHeap.set_same H2 a2 (.list ((b.talks.filter (·.d.isIn)).map fun x=>PV.ref x.ad))
 have g2:=hg2.trans (Gr.new (g:=.list ((b.talks.filter (·.d.isIn)).map fun x=>PV.ref x.ad)) ha2)
 have o2:=o1.gr g2
 replace g2:=g1.trans g2
 generalize GHeap.set H2 a2 _=H3 at h2 g2 o2
 walk_at "g"
 refine compL hC.wok (f:=fun x:BT'=>PV.ref x.ad) (b.talks.filter (·.d.isIn)) (fun x=>some (tRow x)) h2 hlen (fun x H' hm hg=>?_) (fun H4 a4 hg4 ha4=>?_)
 ·have oe:=o2.gr hg
  obtain ⟨hxm,hin⟩:=List.mem_filter.mp hm
  have hi:=b_ti oe hxm
  have hd:=b_td oe hxm
  walk_at "g"
  refine ⟨rfl,?_⟩
  walk_at "g"
  refine getI hC hi hd rfl rfl rfl ?_
  walk_at "g"
  refine getI hC hi hd rfl rfl rfl ?_
  walk_at "g"
  refine getI hC hi hd rfl rfl rfl ?_
  walk_at "g"
  refine getI hC hi hd rfl rfl rfl ?_
  walk_at "g"
  exact ⟨rfl,hg⟩
 have e4:(b.talks.filter (·.d.isIn)).filterMap (fun x=>some (tRow x))=(b.talks.filter (·.d.isIn)).map tRow:=fm_some _ _
 rw [e4]
 have h4:=GHeap.set_same H4 a4 (.list ((b.talks.filter (·.d.isIn)).map tRow))
 have g4:=hg4.trans (Gr.new (g:=.list ((b.talks.filter (·.d.isIn)).map tRow)) ha4)
 have o4:=o2.gr g4
 replace g4:=g2.trans g4
 generalize GHeap.set H4 a4 _=H5 at h4 g4 o4
 walk_at "g"
 refine getI hC (b_ba o4) (b_bd o4) rfl rfl rfl ?_
 walk_at "g"
 refine methD (b_tb o4) rfl ?_
 walk_at "g"
 refine c_items (b_tb o4) ?_
 walk_at "g"
 refine c_sorted_items (ds:=b.trs.map TR.d) (b_tb o4) (by rw [trs_rows]; exact TR.dts _) TR.row TR.lt ?_ fun a6 ha6=>?_
 ·have:=tab_two b
  have:=List.length_filter_le (fun x:BT'=>x.d.isIn) b.talks
  lia
 rw [trs_rows]
 rw [show sortL PV.none (ltR (b.trs.map TR.d)) (b.trs.map TR.pv)=sortT b.trs from rfl]
 have h6:=GHeap.set_same H5 a6 (.list (sortT b.trs))
 have g6:=Gr.new (g:=.list (sortT b.trs)) ha6
 have o6:=o4.gr g6
 have h64:=g6 _ _ h4
 replace g6:=g4.trans g6
 generalize GHeap.set H5 a6 _=H6 at h6 g6 o6 h64 ⊢
 walk_at "g"
 refine getI hC (b_ba o6) (b_bd o6) rfl rfl rfl ?_
 walk_at "g"
 refine compL hC.wok (f:=fun x:BE=>PV.ref x.ad) (b.exps.filter (!·.d.gone)) (fun x=>some (eRow x)) (b_xl o6) (by have:=xs_len I; unfold Bk.xs at this; rwa [List.length_map] at this) (fun x H' hm hg=>?_) (fun H8 a8 hg8 ha8=>?_)
 ·have oe:=o6.gr hg
  obtain ⟨hxm,hin⟩:=List.mem_filter.mp hm
  have hi:=b_ei oe hxm
  have hd:=b_ed oe hxm
  walk_at "g"
  refine ⟨rfl,?_⟩
  walk_at "g"
  refine getI hC hi hd rfl rfl rfl ?_
  walk_at "g"
  refine getI hC hi hd rfl rfl rfl ?_
  walk_at "g"
  refine getI hC hi hd rfl rfl rfl ?_
  walk_at "g"
  refine getI hC hi hd rfl rfl rfl ?_
  walk_at "g"
  exact ⟨rfl,hg⟩
 rw [show (b.exps.filter (!·.d.gone)).filterMap (fun x=>some (eRow x))=(b.exps.filter (!·.d.gone)).map eRow from fm_some _ _]
 have h8:=GHeap.set_same H8 a8 (.list ((b.exps.filter (!·.d.gone)).map eRow))
 have g8:=hg8.trans (Gr.new (g:=.list ((b.exps.filter (!·.d.gone)).map eRow)) ha8)
 walk_at "g"
 exact ⟨.mk (g8 _ _ h6) (g8 _ _ h64) h8,g6.trans g8⟩
end
section
noncomputable def wTrs (x:WT):List TR:=[⟨x.d.zone,x.d.a,x.d.num,0⟩,⟨x.d.zone,x.d.b,x.d.num,1⟩]
noncomputable def Wd.trs (w:Wd):List TR:=(w.talks.filter (·.d.isIn)).flatMap wTrs
noncomputable def wRow (x:WT):PV:=.tup [.int x.d.num,.int (statusW x.d),.int x.d.mark,.int (untilW x.d)]
noncomputable def weRow (e:WE):PV:=.tup [.int e.d.master,.tup [.int e.d.nf,.int e.d.p,.int e.d.source,.int e.d.t,.int e.d.port],.int e.d.zone,.int e.d.until_]
inductive LeftV (w:Wd) (H':GHeap):PV→Prop
 | mk {a1 a2 a3:Addr}:H' a1=some (.list (sortT w.trs))→H' a2=some (.list ((w.talks.filter (·.d.isIn)).map wRow))→H' a3=some (.list ((w.exps.filter (!·.d.gone)).map weRow))→LeftV w H' (.tup [.ref a1,.ref a2,.ref a3])
theorem trs_len (l:List WT):(l.flatMap wTrs).length=2*l.length:=by
 induction l with
 | nil=>rfl
 | cons x r ih=>rw [List.flatMap_cons,List.length_append,ih,List.length_cons]; show 2+_=_; lia
theorem flat_snoc {α β:Type}(f:α→List β) {l:List α}{j:Nat}{x:α}(h:l[j]?=some x):(l.take (j+1)).flatMap f=(l.take j).flatMap f++f x:=by
 rw [List.take_add_one,h,List.flatMap_append,Option.toList_some,List.flatMap_cons,List.flatMap_nil,List.append_nil]
variable {C:Cfg}(hC:CK C) {H:GHeap}{F:List Cell}
include hC
theorem t_left {w:Wd}(o:Own H (w.cells++F)) (k:TalksOk w) (h12:w.talks.length≤30) :
  CallOk C 3 (.ref 531) [.ref w.wa] H (fun v H'=>LeftV w H' v∧Own H' (w.cells++F)):=by
 refine fn1 hC (stAt 81) "world" rfl rfl rfl (by kernel_rfl) (by walk_at "f") 100 ?_
 walk_at "g"
 refine subS (w_hd o) rfl ?_
 walk_at "g"
 refine compL hC.wok w.talks (fun x=>if x.d.isIn=true then some (.ref x.ad) else none) (w_tl o) (Nat.le_trans k.many (by decide)) (fun x H' hm hg=>?_) (fun H1 ka hg hka=>?_)
 ·have hd:=hg _ _ (w_td o hm)
  walk_at "g"
  refine subS hd rfl ?_
  walk_at "g"
  refine And.intro (fun h1=>?_) (fun h1=>?_)
  ·walk_at "g"
   refine ⟨rfl,?_⟩
   walk_at "g"
   exact ⟨if_pos h1,hg⟩
  ·walk_at "g"
   exact ⟨rfl,if_neg (by rw [h1]; exact Bool.false_ne_true),hg⟩
 rw [fm_filter]
 have o1:=(o.gr hg).newF (g:=.list ((w.talks.filter (·.d.isIn)).map fun x=>PV.ref x.ad)) hka
 have g1:=hg.trans (Gr.new (g:=.list ((w.talks.filter (·.d.isIn)).map fun x=>PV.ref x.ad)) hka)
 generalize GHeap.set H1 ka _=H2 at o1 g1 ⊢
 walk_at "g"
 intro ta hta
 have o2:=o1.newF (g:=.list []) hta
 have g2:=g1.trans (Gr.new (g:=.list []) hta)
 generalize GHeap.set H2 ta _=H3 at o2 g2 ⊢
 have hlen:(w.talks.filter (·.d.isIn)).length≤30:=Nat.le_trans (List.length_filter_le _ _) h12
 walk_at "g"
 refine srcL (o2.at_ (ka,_) (List.mem_append_right _ (.tail _ (.head _)))) (by rw [List.length_map]; first | exact Nat.le_trans hlen (by decide) | exact Nat.lt_of_le_of_lt hlen (by decide)) ?_
 refine for_st hC.wok (σ:=Unit) (fun _=>[("table",.ref ta),("kept",.ref ka),("world",.ref w.wa)]) (fun j _ H'=>Own H' (w.cells++((ta,.list ((((w.talks.filter (·.d.isIn)).take j).flatMap wTrs).map TR.pv))::(ka,.list ((w.talks.filter (·.d.isIn)).map fun x=>PV.ref x.ad))::F))) () rfl o2 (fun _ _ _ h=>.list (.inl (h.at_ (ka,_) (List.mem_append_right _ (.tail _ (.head _)))))) (fun j y _ H4 hy o4=>?_) (fun _ H4 o4=>?_)
 ·rw [List.getElem?_map] at hy
  obtain ⟨x,hx,rfl⟩:=Option.map_eq_some_iff.mp hy
  have hxm:=(List.mem_filter.mp (List.mem_of_getElem? hx)).1
  have ht:=o4.inF
  walk_at "g"
  refine methL ht rfl ?_
  walk_at "g"
  refine compG hC.wok ([0,1]:List Int) (f:=PV.int) (fun i=>some (TR.pv ⟨x.d.zone,if i=0 then x.d.a else x.d.b,x.d.num,i⟩)) (fun H' _=>.tup _) rfl (by decide) (fun i H' hm hg=>?_) (fun H5 a5 hg5 ha5=>?_)
  ·have hd:=hg _ _ (w_td o4 hxm)
   have hi:i=0∨i=1:=by
    rcases List.mem_cons.mp hm with h | h
    ·exact .inl h
    ·exact .inr (List.mem_singleton.mp h)
   rcases hi with rfl | rfl
   ·walk_at "g"
    refine ⟨rfl,?_⟩
    walk_at "g"
    refine subS hd rfl ?_
    walk_at "g"
    refine subS hd rfl ?_
    walk_at "g"
    refine subS hd rfl ?_
    walk_at "g"
    exact ⟨rfl,hg⟩
   ·walk_at "g"
    refine ⟨rfl,?_⟩
    walk_at "g"
    refine subS hd rfl ?_
    walk_at "g"
    refine subS hd rfl ?_
    walk_at "g"
    refine subS hd rfl ?_
    walk_at "g"
    exact ⟨rfl,hg⟩
  have e5:([0,1]:List Int).filterMap (fun i=>some (TR.pv ⟨x.d.zone,if i=0 then x.d.a else x.d.b,x.d.num,i⟩))=(wTrs x).map TR.pv:=rfl
  rw [e5]
  have o5:=(o4.gr hg5).gr (Gr.new (g:=.list ((wTrs x).map TR.pv)) ha5)
  have h5:=GHeap.set_same H5 a5 (.list ((wTrs x).map TR.pv))
  generalize GHeap.set H5 a5 _=H6 at o5 h5 ⊢
  walk_at "g"
  refine c_extend o5.inF h5 ?_ (Nat.le_of_ble_eq_true rfl) ?_
  ·rw [List.length_map,trs_len,List.length_take]
   lia
  have o6:=o5.putF (g':=.list ((((w.talks.filter (·.d.isIn)).take (j+1)).flatMap wTrs).map TR.pv))
  rw [flat_snoc wTrs hx,List.map_append] at o6
  walk_at "g"
  refine ⟨(),rfl,?_⟩
  conv=>whnf
  rw [flat_snoc wTrs hx,List.map_append]
  exact o6
 rw [List.length_map,List.take_length] at o4
 have hk4:=o4.at_ (ka,_) (List.mem_append_right _ (.tail _ (.head _)))
 walk_at "g"
 refine compL hC.wok (w.talks.filter (·.d.isIn)) (fun x=>some (wRow x)) hk4 (Nat.le_trans hlen (by decide)) (fun x H' hm hg=>?_) (fun H5 a5 hg5 ha5=>?_)
 ·obtain ⟨hxm,hin⟩:=List.mem_filter.mp hm
  have hd:=hg _ _ (w_td o4 hxm)
  have T:TalkAt H' x:=⟨hd,hg _ _ (w_tp o4 hxm),k.ne x hxm,k.len x hxm⟩
  have ts:=t_status hC T
  walk_at "g"
  refine ⟨rfl,?_⟩
  walk_at "g"
  refine subS hd rfl ?_
  walk_at "g"
  refine up ts rfl fun v H6 h=>?_
  obtain ⟨rfl,g6⟩:=h
  have T6:=T.gr g6
  have tu:=t_until hC T6
  walk_at "g"
  refine subS T6.d rfl ?_
  walk_at "g"
  refine up tu rfl fun v H7 h=>?_
  obtain ⟨rfl,g7⟩:=h
  walk_at "g"
  exact ⟨rfl,hg.trans (g6.trans g7)⟩
 rw [show (w.talks.filter (·.d.isIn)).filterMap (fun x=>some (wRow x))=(w.talks.filter (·.d.isIn)).map wRow from fm_some _ _]
 have o5:=(o4.gr hg5).newF (g:=.list ((w.talks.filter (·.d.isIn)).map wRow)) ha5
 generalize GHeap.set H5 a5 _=H6 at o5 ⊢
 walk_at "g"
 intro ea hea
 have o7:=o5.newF (g:=.list []) hea
 generalize GHeap.set H6 ea _=H7 at o7 ⊢
 walk_at "g"
 refine subS (w_hd o7) rfl ?_
 walk_at "g"
 refine srcL (w_el o7) (by rw [List.length_map]; exact k.exps) ?_
 refine for_st hC.wok (σ:=Unit) (fun _=>[("expects",.ref ea),("talks",.ref a5),("table",.ref ta),("world",.ref w.wa)]) (fun j _ H'=>Own H' (w.cells++((ea,.list (((w.exps.take j).filter (!·.d.gone)).map weRow))::(a5,.list ((w.talks.filter (·.d.isIn)).map wRow))::(ta,.list (w.trs.map TR.pv))::(ka,.list ((w.talks.filter (·.d.isIn)).map fun x=>PV.ref x.ad))::F))) () rfl o7 (fun _ _ _ h=>.list (.inl (w_el h))) (fun j y _ H8 hy o8=>?_) (fun _ H8 o8=>?_)
 ·rw [List.getElem?_map] at hy
  obtain ⟨e,he,rfl⟩:=Option.map_eq_some_iff.mp hy
  have hd:=w_ed o8 (List.mem_of_getElem? he)
  have hcat:((w.exps.take (j+1)).filter (!·.d.gone)).map weRow=((w.exps.take j).filter (!·.d.gone)).map weRow++(if e.d.gone=true then [] else [weRow e]):=by
   rw [List.take_add_one,he,List.filter_append,List.map_append,Option.toList_some,List.filter_cons,List.filter_nil]
   cases e.d.gone<;>rfl
  walk_at "g"
  refine subS hd rfl ?_
  walk_at "g"
  refine And.intro (fun h1=>?_) (fun h1=>?_)
  ·walk_at "g"
   refine ⟨(),rfl,?_⟩
   conv=>whnf
   rw [hcat,if_pos h1,List.append_nil]
   exact o8
  ·walk_at "g"
   refine subS hd rfl ?_
   walk_at "g"
   refine methL o8.inF rfl ?_
   walk_at "g"
   refine subS hd rfl ?_
   walk_at "g"
   refine subS hd rfl ?_
   walk_at "g"
   refine subS hd rfl ?_
   walk_at "g"
   refine subS hd rfl ?_
   walk_at "g"
   refine c_append o8.inF ?_ ?_
   ·rw [List.length_map]
    refine Nat.le_trans (List.length_filter_le _ _) (Nat.le_trans ?_ k.exps)
    rw [List.length_take]; exact Nat.min_le_right _ _
   have o9:=o8.putF (g':=.list (((w.exps.take (j+1)).filter (!·.d.gone)).map weRow))
   rw [hcat,h1,if_neg Bool.false_ne_true] at o9
   walk_at "g"
   refine ⟨(),rfl,?_⟩
   conv=>whnf
   rw [hcat,h1,if_neg Bool.false_ne_true]
   exact o9
 rw [List.length_map,List.take_length] at o8
 have ht8:=o8.at_ (ta,_) (List.mem_append_right _ (.tail _ (.tail _ (.head _))))
 have h58:=o8.at_ (a5,_) (List.mem_append_right _ (.tail _ (.head _)))
 have he8:=o8.inF
 walk_at "g"
 refine c_sorted (ds:=w.trs.map TR.d) (.inl ht8) (TR.dts _) TR.row TR.lt ?_ fun a9 ha9=>?_
 ·rw [List.length_map]
  unfold Wd.trs
  rw [trs_len]
  lia
 rw [show sortL PV.none (ltR (w.trs.map TR.d)) (w.trs.map TR.pv)=sortT w.trs from rfl]
 have g9:=Gr.new (g:=.list (sortT w.trs)) ha9
 have h9:=GHeap.set_same H8 a9 (.list (sortT w.trs))
 generalize GHeap.set H8 a9 _=H9 at g9 h9 ⊢
 walk_at "g"
 exact ⟨.mk h9 (g9 _ _ h58) (g9 _ _ he8),(o8.gr g9).sub (List.Sublist.append_left ((List.sublist_append_right [_,_,_,_] F)) _)⟩
end
structure Live (x:WTalk) (y:BTalk):Prop where
 is:∃r c:Bool,x.bits=(if r then 1 else 0)+(if c then 8 else 0)∧c=x.isIn∧y.status=stInd r (wayIn x.pk) (decide (x.a.p=17)&&stream4 x) c false
 til:y.until_=untilW x
 since:y.since=firstT x.pk
 ne:x.pk≠[]
structure SimT (x:WTalk) (y:BTalk):Prop where
 num:y.num=x.num
 zone:y.zone=x.zone
 a:y.a=x.a
 b:y.b=x.b
 mark:y.mark=x.mark
 master:y.master=x.master
 isIn:y.isIn=x.isIn
 wire:∃u,WireOk u∧x.a=u.key∧x.b=u.back.key
 live:x.isIn=true→Live x y
structure Sim (w:Wd) (b:Bk):Prop where
 len:b.talks.length=w.talks.length
 last:b.last=w.talks.length
 t:∀(i:Nat) (x:WT) (y:BT'),w.talks[i]?=some x→b.talks[i]?=some y→SimT x.d y.d
 num:∀(i:Nat) (x:WT),w.talks[i]?=some x→x.d.num=(i:Int)+1
 e:b.exps.map (·.d)=w.exps.map (·.d)
 ez:∀e∈w.exps,∃(i:Nat) (x:WT),w.talks[i]?=some x∧x.d.num=e.d.master∧e.d.zone=x.d.zone
 inv:BInv b
theorem SimT.inv {x:WTalk}{y:BTalk}(s:SimT x y):x.b=x.a.inv:=by obtain ⟨u,_,h1,h2⟩:=s.wire; rw [h1,h2]; exact key_back u
theorem Live.status {x:WTalk}{y:BTalk}(l:Live x y):y.status=statusW x:=by
 obtain ⟨r,c,h1,h2,h3⟩:=l.is
 rw [h3]
 unfold statusW stInd
 rw [h1]
 cases hr:r<;>cases hc:c<;>cases hw:wayIn x.pk<;>by_cases hp:x.a.p=17<;>cases hs:stream4 x<;>simp [hp]
theorem seen_eq {x:WTalk}{y:BT'}{s:Sc}{zone:Int}(t:SimT x y.d) (l:Live x y.d) (hz:x.zone=zone):seenB s (some y)=seenPV x s.state s.isReply zone:=by
 unfold seenB seenPV
 dsimp only
 rw [t.num,l.status,t.mark,t.master,l.til,t.zone,hz,t.a,t.b]
theorem Sim.both {w:Wd}{b:Bk}(s:Sim w b) {i:Nat}{x:WT}(h:w.talks[i]?=some x):∃y,b.talks[i]?=some y∧SimT x.d y.d:=by
 have hi:i<b.talks.length:=by rw [s.len]; exact (List.getElem?_eq_some_iff.mp h).1
 exact ⟨_,List.getElem?_eq_getElem hi,s.t i x _ h (List.getElem?_eq_getElem hi)⟩
theorem Sim.both' {w:Wd}{b:Bk}(s:Sim w b) {i:Nat}{y:BT'}(h:b.talks[i]?=some y):∃x,w.talks[i]?=some x∧SimT x.d y.d:=by
 have hi:i<w.talks.length:=by rw [←s.len]; exact (List.getElem?_eq_some_iff.mp h).1
 exact ⟨_,List.getElem?_eq_getElem hi,s.t i _ y (List.getElem?_eq_getElem hi) h⟩
theorem SimT.hit {x:WTalk}{y:BTalk}(s:SimT x y) (zone:Int) (t:T6):hitW x zone t↔hitB y zone t:=by
 unfold hitW hitB
 rw [s.isIn,s.zone,s.a,s.b]
theorem uniq {b:Bk}(I:BInv b) {i j:Nat}{x y:BT'}{zone:Int}{t:T6}(hx:b.talks[i]?=some x) (hy:b.talks[j]?=some y) (h1:hitB x.d zone t) (h2:hitB y.d zone t):i=j:=by
 have key:∀i j,i<j→∀x y:BT',b.talks[i]?=some x→b.talks[j]?=some y→hitB x.d zone t→hitB y.d zone t→False:=fun i j hij x y hx hy h1 h2=>by
  have nd:=I.tab
  unfold Bk.tab at nd
  rw [List.map_flatMap,List.Nodup,List.pairwise_flatMap] at nd
  have pw:=nd.2
  rw [List.pairwise_filter] at pw
  obtain ⟨hi,ei⟩:=List.getElem?_eq_some_iff.mp hx
  obtain ⟨hj,ej⟩:=List.getElem?_eq_some_iff.mp hy
  have z:=(List.pairwise_iff_getElem.mp pw) i j hi hj hij
  rw [ei,ej] at z
  have mem:∀u:BT',hitB u.d zone t→(zone,t.l)∈u.d.rows.map (·.1):=fun u hu=>by
   obtain ⟨_,hz,ht⟩:=hu
   unfold BTalk.rows
   rcases ht with rfl | rfl
   ·rw [←hz]; exact .head _
   ·rw [←hz]; exact .tail _ (.head _)
  exact z h1.1 h2.1 _ (mem x h1) _ (mem y h2) rfl
 rcases Nat.lt_trichotomy i j with h | h | h
 ·exact (key i j h x y hx hy h1 h2).elim
 ·exact h
 ·exact (key j i h y x hy hx h2 h1).elim
theorem wayIn_snoc (pk:List (Int×Int)) (n w:Int):wayIn (pk++[(n,w)])=(wayIn pk||decide (w=1)):=by
 unfold wayIn
 rw [List.map_append,List.contains_append]
 congr 1
 show List.elem 1 [w]=decide (w=1)
 by_cases h:w=1
 ·subst h; rfl
 ·rw [decide_eq_false h]
  show (1 == w||false)=false
  rw [Bool.or_false]
  exact beq_eq_false_iff_ne.mpr fun e=>h e.symm
theorem firstT_snoc {pk:List (Int×Int)}(h:pk≠[]) (x:Int×Int):firstT (pk++[x])=firstT pk:=by
 unfold firstT
 induction pk using List.casesOn with
 | nil=>exact absurd rfl h
 | cons y r=>rfl
theorem lastT_snoc (pk:List (Int×Int)) (x:Int×Int):lastT (pk++[x])=x.1:=by unfold lastT; rw [List.getLast?_concat]; rfl
theorem isStream_snoc {pk:List (Int×Int)}(h:pk≠[]) (n w:Int):isStream (pk++[(n,w)])=(decide (firstT pk+2000<n)&&wayIn pk):=by
 unfold isStream
 rw [firstT_snoc h,lastT_snoc,List.dropLast_concat]
theorem stream4_snoc (t:WTalk) (x:Int×Int):stream4 {t with pk:=t.pk++[x]}=(stream4 t||isStream (t.pk++[x])):=by
 unfold stream4
 dsimp only
 rw [List.length_append,List.length_cons,List.length_nil,List.range_succ,List.map_append,List.contains_append]
 congr 1
 ·congr 1
  refine List.map_congr_left fun i hi=>?_
  rw [List.take_append_of_le_length (by have:=List.mem_range.mp hi; assumption)]
 ·show ([isStream ((t.pk++[x]).take (t.pk.length+1))]).contains true=_
  rw [List.take_of_length_le (by simp)]
  cases isStream (t.pk++[x])<;>rfl
theorem st2 (r s a c d:Bool):(¬Builtin.bitAnd (stInd r s a c d) 2=0)↔s=true:=by
 rw [st_and2]; cases s<;>simp
theorem live_hit {x:WTalk}{y:BT'}{now way:Int}(hp:y.d.a.p=x.a.p) (l:Live x y.d):Live {x with pk:=x.pk++[(now,way)]} (goD y now way).d:=by
 refine byP fun PG kG=>?_
 obtain ⟨⟨r,c,h1,h2,h3⟩,h4,h5,h6⟩:=l
 refine kG ?_
 have hs4:=stream4_snoc x (now,way)
 have hst:=isStream_snoc h6 now way
 have hun:(goD y now way).d.until_=(goB y now).d.until_:=by unfold goD; split<;>rfl
 have hsi:(goD y now way).d.since=y.d.since:=by
  unfold goD goB
  split<;>split<;>first | rfl | (split<;>rfl)
 have hgo:(goB y now).d.until_=untilW {x with pk:=x.pk++[(now,way)]}∧(goB y now).d.status=stInd r (wayIn x.pk) (decide (x.a.p=17)&&(stream4 x||isStream (x.pk++[(now,way)]))) c false:=by
  have hc:(¬Builtin.bitAnd y.d.status 2=0∧y.d.since+2000<now)↔(wayIn x.pk=true∧firstT x.pk+2000<now):=by rw [h3,h5,st2]
  unfold goB untilW
  dsimp only
  rw [hp,lastT_snoc,hst]
  by_cases h17:x.a.p=17
  ·rw [if_pos h17,if_pos h17,decide_eq_true h17]
   by_cases hw:wayIn x.pk=true∧firstT x.pk+2000<now
   ·rw [if_pos (hc.mpr hw)]
    refine ⟨?_,?_⟩
    ·show now+120000=now+_
     rw [hw.1,decide_eq_true hw.2]; rfl
    ·show Builtin.bitOr y.d.status 4=_
     rw [h3,st_or4,hw.1,decide_eq_true hw.2]
     simp
   ·rw [if_neg (mt hc.mp hw)]
    have hf:(decide (firstT x.pk+2000<now)&&wayIn x.pk)=false:=by
     by_cases h:firstT x.pk+2000<now
     ·have:wayIn x.pk=false:=by
       cases hh:wayIn x.pk
       ·rfl
       ·exact absurd ⟨hh,h⟩ hw
      rw [this,Bool.and_false]
     ·rw [decide_eq_false h]; rfl
    refine ⟨?_,?_⟩
    ·show now+30000=now+_
     rw [hf]; rfl
    ·show y.d.status=_
     rw [h3,hf,decide_eq_true h17]
     simp
  ·rw [if_neg h17,if_neg h17,decide_eq_false h17]
   refine ⟨rfl,?_⟩
   show y.d.status=_
   rw [h3,decide_eq_false h17]; rfl
 refine ⟨⟨r,c,h1,h2,?_⟩,?_,?_,by simp⟩
 ·rw [hs4]
  dsimp only
  rw [wayIn_snoc]
  unfold goD
  by_cases hw:way=1
  ·rw [if_pos hw,decide_eq_true hw,Bool.or_true]
   show Builtin.bitOr (goB y now).d.status 2=_
   rw [hgo.2,st_or2]
  ·rw [if_neg hw,decide_eq_false hw,Bool.or_false]
   exact hgo.2
 ·rw [hun]; exact hgo.1
 ·rw [hsi,h5]; exact (firstT_snoc h6 _).symm
theorem live_new {x:WTalk}{y:BT'}{now:Int}{r:Bool}(hpk:x.pk=[]) (hb:x.bits=if r then 1 else 0) (hin:x.isIn=false) (hp:y.d.a.p=x.a.p) (hs:y.d.status=if r then 1 else 0) (hsi:y.d.since=now):Live {x with pk:=x.pk++[(now,0)]} (goB y now).d:=by
 have hs0:y.d.status=stInd r false false false false:=by rw [hs]; cases r<;>rfl
 have e1:isStream [(now,(0:Int))]=false:=by
  unfold isStream firstT lastT
  show (decide (now+2000<now)&&_)=false
  rw [decide_eq_false (by lia)]; rfl
 have e4:stream4 {x with pk:=x.pk++[(now,(0:Int))]}=false:=by
  rw [stream4_snoc]
  unfold stream4
  rw [hpk]
  show (false||isStream [(now,(0:Int))])=false
  rw [e1]; rfl
 have e2:¬(¬Builtin.bitAnd y.d.status 2=0∧y.d.since+2000<now):=fun h=>h.1 (by rw [hs0,st_and2]; rfl)
 refine ⟨⟨r,false,by rw [hb]; simp,hin.symm,?_⟩,?_,?_,by simp⟩
 ·rw [e4,Bool.and_false]
  dsimp only
  rw [hpk,show wayIn ([]++[(now,(0:Int))])=false from rfl]
  unfold goB
  rw [if_neg e2]
  split<;>exact hs0
 ·unfold goB untilW
  dsimp only
  rw [if_neg e2,hp,hpk,List.nil_append,e1]
  split
  ·show now+30000=_; rfl
  ·show now+600000=_; rfl
 ·unfold goB
  rw [if_neg e2,hpk]
  split<;>exact hsi
section
theorem first_same {p:Exp→Bool}:∀{l1 l2:List WE}{e:WE}{m1 m2:List BE}{f:BE},(m1++f::m2).map (·.d)=(l1++e::l2).map (·.d)→(∀y∈l1,p y.d=false)→p e.d=true→(∀y∈m1,p y.d=false)→p f.d=true →
  m1.map (·.d)=l1.map (·.d)∧f.d=e.d∧m2.map (·.d)=l2.map (·.d)
 | [],l2,e,[],m2,f,h,_,_,_,_=>by
  simp only [List.nil_append,List.map_cons,List.cons.injEq] at h
  exact ⟨rfl,h.1,h.2⟩
 | [],l2,e,y::m1,m2,f,h,_,he,hm,_=>by
  simp only [List.nil_append,List.cons_append,List.map_cons,List.cons.injEq] at h
  have:=hm y (.head _)
  rw [h.1,he] at this; cases this
 | x::l1,l2,e,[],m2,f,h,hl,_,_,hf=>by
  simp only [List.nil_append,List.cons_append,List.map_cons,List.cons.injEq] at h
  have:=hl x (.head _)
  rw [←h.1,hf] at this; cases this
 | x::l1,l2,e,y::m1,m2,f,h,hl,he,hm,hf=>by
  simp only [List.cons_append,List.map_cons,List.cons.injEq] at h
  have z:=first_same (p:=p) h.2 (fun u hu=>hl u (.tail _ hu)) he (fun u hu=>hm u (.tail _ hu)) hf
  exact ⟨by rw [List.map_cons,List.map_cons,h.1,z.1],z.2⟩
theorem all_same {L:List WE}{M:List BE}(h:M.map (·.d)=L.map (·.d)) {p:Exp→Prop}:(∀y∈L,p y.d)↔(∀y∈M,p y.d):=by
 constructor
 ·intro hp y hy
  obtain ⟨x,hx,e⟩:=List.mem_map.mp (h▸List.mem_map_of_mem (f:=(·.d)) hy:y.d∈L.map (·.d))
  rw [←e]; exact hp x hx
 ·intro hp y hy
  obtain ⟨x,hx,e⟩:=List.mem_map.mp (h▸List.mem_map_of_mem (f:=(·.d)) hy:y.d∈M.map (·.d))
  rw [←e]; exact hp x hx
noncomputable def killD (n:Int) (d:Exp):Exp:=if d.master=n then {d with gone:=true} else d
theorem kill_map (n:Int) {L:List WE}{M:List BE}(h:M.map (·.d)=L.map (·.d)):(M.map (BE.kill n)).map (·.d)=(L.map (WE.kill n)).map (·.d):=by
 have e1:((fun e:BE=>e.d) ∘ BE.kill n)=(killD n ∘ fun e:BE=>e.d):=funext fun e=>by unfold killD; show (e.kill n).d=_; unfold BE.kill BE.dead; dsimp only [Function.comp]; split<;>rfl
 have e2:((fun e:WE=>e.d) ∘ WE.kill n)=(killD n ∘ fun e:WE=>e.d):=funext fun e=>by unfold killD; show (e.kill n).d=_; unfold WE.kill WE.dead; dsimp only [Function.comp]; split<;>rfl
 rw [List.map_map,List.map_map,e1,e2,←List.map_map,←List.map_map,h]
section
variable {w:Wd}{b:Bk}{i:Nat}{x x':WT}{y y':BT'}
theorem Sim.addW (s:Sim w b) (z:Int×Wire):Sim (w.addW z) b:=⟨s.len,s.last,s.t,s.num,s.e,s.ez,s.inv⟩
theorem set_get {α:Type}{l:List α}{i j:Nat}{x x' z:α}(h:l[i]?=some x) (hz:(l.set i x')[j]?=some z):(i=j∧z=x')∨(i≠j∧l[j]?=some z):=by
 by_cases e:i=j
 ·subst e
  rw [set_at h x'] at hz
  exact .inl ⟨rfl,(Option.some.inj hz).symm⟩
 ·rw [List.getElem?_set_ne e] at hz
  exact .inr ⟨e,hz⟩
theorem Sim.talks (s:Sim w b) (hx:w.talks[i]?=some x) (hy:b.talks[i]?=some y) (t:SimT x'.d y'.d) (hn:x'.d.num=x.d.num) (hz:x'.d.zone=x.d.zone) {w':Wd}{b':Bk}(ew:w'.talks=w.talks.set i x') (eb:b'.talks=b.talks.set i y') (el:b'.last=b.last)
  (ee:b'.exps.map (·.d)=w'.exps.map (·.d)) (ez:∀e∈w'.exps,∃e'∈w.exps,e'.d.master=e.d.master∧e'.d.zone=e.d.zone) (inv:BInv b'):Sim w' b' where
 len:=by rw [ew,eb,List.length_set,List.length_set]; exact s.len
 last:=by rw [el,ew,List.length_set]; exact s.last
 t:=fun j u v hu hv=>by
  rw [ew] at hu
  rw [eb] at hv
  rcases set_get hx hu with ⟨rfl,rfl⟩ | ⟨hj,hu⟩
  ·rcases set_get hy hv with ⟨_,rfl⟩ | ⟨hj,_⟩
   ·exact t
   ·exact absurd rfl hj
  ·rcases set_get hy hv with ⟨rfl,_⟩ | ⟨_,hv⟩
   ·exact absurd rfl hj
   ·exact s.t j u v hu hv
 num:=fun j u hu=>by
  rw [ew] at hu
  rcases set_get hx hu with ⟨rfl,rfl⟩ | ⟨_,hu⟩
  ·rw [hn]; exact s.num i x hx
  ·exact s.num j u hu
 e:=ee
 ez:=fun e he=>by
  refine byP fun PG kG=>?_
  obtain ⟨e',he',h1,h2⟩:=ez e he
  obtain ⟨j,u,hu,h3,h4⟩:=s.ez e' he'
  refine kG ?_
  rw [←h1,←h2,ew]
  by_cases hij:i=j
  ·refine byP fun PG kG=>?_
   subst hij
   rw [hx] at hu
   cases hu
   refine kG ?_
   exact ⟨i,x',set_at hx x',by rw [hn]; exact h3,by rw [hz]; exact h4⟩
  ·exact ⟨j,u,by rw [List.getElem?_set_ne hij]; exact hu,h3,h4⟩
 inv:=inv
theorem Sim.out (s:Sim w b) (hx:w.talks[i]?=some x) (hy:b.talks[i]?=some y) (xl:Addr):Sim (w.out i x) (b.drop i y xl):=by
 have t:=s.t i x y hx hy
 refine s.talks (x':=x.off) (y':=y.off) hx hy ⟨t.num,t.zone,t.a,t.b,t.mark,t.master,rfl,t.wire,fun h=>by cases h⟩ rfl rfl rfl rfl rfl ?_ (fun e he=>?_) (drop_inv s.inv hy)
 ·show (b.exps.map (BE.kill y.d.num)).map (·.d)=(w.exps.map (WE.kill x.d.num)).map (·.d)
  rw [t.num]
  exact kill_map _ s.e
 ·obtain ⟨e',he',rfl⟩:=List.mem_map.mp he
  refine ⟨e',he',?_⟩
  unfold WE.kill WE.dead
  split<;>exact ⟨rfl,rfl⟩
theorem Sim.set (s:Sim w b) (hx:w.talks[i]?=some x) (hy:b.talks[i]?=some y) (t:SimT x'.d y'.d) (hn:x'.d.num=x.d.num) (hz:x'.d.zone=x.d.zone) (sb:SameB y y'):Sim (w.setT i x') (b.setT i y') :=
 s.talks (x':=x') (y':=y') hx hy t hn hz rfl rfl rfl s.e (fun e he=>⟨e,he,rfl,rfl⟩) (s.inv.setT hy sb)
end
end
section
theorem snoc_get {α:Type}{l:List α}{x z:α}{j:Nat}(h:(l++[x])[j]?=some z):l[j]?=some z∨(j=l.length∧z=x):=by
 rcases Nat.lt_trichotomy j l.length with h1 | h1 | h1
 ·rw [List.getElem?_append_left h1] at h; exact .inl h
 ·subst h1
  rw [at_end] at h
  exact .inr ⟨rfl,(Option.some.inj h).symm⟩
 ·rw [List.getElem?_eq_none (by rw [List.length_append]; exact h1)] at h; cases h
section
variable {w:Wd}{b:Bk}{x:WT}{y:BT'}
theorem Sim.addT (s:Sim w b) (t:SimT x.d y.d) (hn:x.d.num=(w.talks.length:Int)+1) {w':Wd}{b':Bk}(ew:w'.talks=w.talks++[x]) (eb:b'.talks=b.talks++[y]) (el:b'.last=b.last+1)
  (ee:b'.exps.map (·.d)=w'.exps.map (·.d)) (ez:∀e∈w'.exps,∃e'∈w.exps,e'.d.master=e.d.master∧e'.d.zone=e.d.zone) (inv:BInv b'):Sim w' b' where
 len:=by rw [ew,eb,List.length_append,List.length_append,s.len]; rfl
 last:=by rw [el,ew,List.length_append,s.last]; rfl
 t:=fun j u v hu hv=>by
  rw [ew] at hu
  rw [eb] at hv
  rcases snoc_get hu with hu | ⟨rfl,rfl⟩
  ·rcases snoc_get hv with hv | ⟨rfl,rfl⟩
   ·exact s.t j u v hu hv
   ·rw [s.len] at hu
    exact absurd (List.getElem?_eq_some_iff.mp hu).1 (Nat.lt_irrefl _)
  ·rcases snoc_get hv with hv | ⟨_,rfl⟩
   ·rw [←s.len] at hv
    exact absurd (List.getElem?_eq_some_iff.mp hv).1 (Nat.lt_irrefl _)
   ·exact t
 num:=fun j u hu=>by
  rw [ew] at hu
  rcases snoc_get hu with hu | ⟨rfl,rfl⟩
  ·exact s.num j u hu
  ·exact hn
 e:=ee
 ez:=fun e he=>by
  refine byP fun PG kG=>?_
  obtain ⟨e',he',h1,h2⟩:=ez e he
  obtain ⟨j,u,hu,h3,h4⟩:=s.ez e' he'
  refine kG ?_
  exact ⟨j,u,by rw [ew,List.getElem?_append_left (List.getElem?_eq_some_iff.mp hu).1]; exact hu,by rw [←h1]; exact h3,by rw [←h2]; exact h4⟩
 inv:=inv
theorem Sim.sumMark (s:Sim w b) {n m:Int}(h:IsMark (b.next.addT y) n m) (hy:y.d.isIn=false):sumMark w.talks n=m:=by
 unfold Mine.sumMark
 rcases h with ⟨v,hv,hin,hvn,rfl⟩ | ⟨hno,rfl⟩
 ·rcases List.mem_append.mp (show v∈b.talks++[y] from hv) with hv | hv
  ·obtain ⟨j,hj⟩:=List.getElem?_of_mem hv
   refine byP fun PG kG=>?_
   obtain ⟨u,hu,t⟩:=s.both' hj
   obtain ⟨l1,l2,e,hl,_⟩:=split_at hu
   refine kG ?_
   have off:∀(k:Nat) (z:WT),w.talks[k]?=some z→k≠j→(z.d.isIn&&decide (z.d.num=n))=false:=fun k z hz hk=>by
    have h1:=s.num k z hz
    have h2:=s.num j u hu
    have h3:z.d.num≠n:=by
     rw [←hvn,t.num,h1,h2]
     exact fun h=>hk (Int.ofNat_inj.mp (by first | exact (Int.add_left_inj 1).mp h | exact (Int.add_right_inj 1).mp h))
    rw [decide_eq_false h3,Bool.and_false]
   have f1:l1.filter (fun x:WT=>x.d.isIn&&decide (x.d.num=n))=[]:=List.filter_eq_nil_iff.mpr fun z hz=>by
    obtain ⟨k,hk⟩:=List.getElem?_of_mem hz
    have hlt:=(List.getElem?_eq_some_iff.mp hk).1
    rw [off k z (by rw [e,List.getElem?_append_left hlt]; exact hk) (hl▸Nat.ne_of_lt hlt)]
    exact Bool.false_ne_true
   have f2:l2.filter (fun x:WT=>x.d.isIn&&decide (x.d.num=n))=[]:=List.filter_eq_nil_iff.mpr fun z hz=>by
    obtain ⟨k,hk⟩:=List.getElem?_of_mem hz
    have hj:j<j+1+k:=Nat.lt_of_lt_of_le (Nat.lt_succ_self j) (Nat.le_add_right _ _)
    rw [off (j+1+k) z (by rw [e,List.getElem?_append_right (Nat.le_trans (Nat.le_of_eq hl) (Nat.le_of_lt hj)),hl,Nat.add_assoc,Nat.add_sub_cancel_left,Nat.add_comm]; exact hk) (Nat.ne_of_gt hj)]
    exact Bool.false_ne_true
   have hu1:(u.d.isIn&&decide (u.d.num=n))=true:=by rw [←t.isIn,hin,←t.num,decide_eq_true hvn]; rfl
   rw [e,List.filter_append,List.filter_cons,if_pos hu1,f1,f2]
   rw [t.mark]
   simp
  ·rw [List.mem_singleton.mp hv,hy] at hin; cases hin
 ·have f:w.talks.filter (fun x:WT=>x.d.isIn&&decide (x.d.num=n))=[]:=List.filter_eq_nil_iff.mpr fun z hz h=>by
   obtain ⟨j,hj⟩:=List.getElem?_of_mem hz
   obtain ⟨v,hv,t⟩:=s.both hj
   rw [Bool.and_eq_true,decide_eq_true_eq] at h
   exact hno v (List.mem_append_left _ (List.mem_of_getElem? hv)) (by rw [t.isIn]; exact h.1) (by rw [t.num]; exact h.2)
  rw [f]; rfl
end
end
structure NewB (w:Wd) (b b1:Bk) (s1:Sc) (x:WT) (w2:Wd) (s:Sc) (zone now:Int) (y:BT'):Prop where
 at_:b1.talks=b.talks++[y]
 sc:s1=s.put (.ref y.ad) (stateW x.d 0) 0
 sim:Sim w2 b1
 t:SimT x.d y.d
 pk:x.d.pk=[]
 bits:∃r:Bool,x.d.bits=(if r then 1 else 0)∧y.d.status=(if r then 1 else 0)
 isIn:x.d.isIn=false
 since:y.d.since=now
 zone:x.d.zone=zone
 wat:w2.talks=w.talks++[x]
 ba:b1.ba=b.ba
theorem sim_begin {w w2:Wd}{b b1:Bk}{s s1:Sc}{zone:Int}{wire:Wire}{x:WT}(S:Sim w b) (hw:WireOk wire) (hn:NewW w zone wire s.now x w2) (hb:BeginB b s zone wire.key b1 s1) (hl:b.talks.length<60) :
  ∃y,NewB w b b1 s1 x w2 s zone s.now y:=by
 have hne:wire.key≠wire.key.inv:=key_ne hw
 cases hb with
 | @mk ad dx r _ hr =>
  have tt:∀(x:WTalk) (y:BTalk),x.num=(w.talks.length:Int)+1→x.zone=zone→x.a=wire.key→x.b=wire.back.key→x.isIn=false→y.num=b.last+1→y.zone=zone→y.a=wire.key→y.b=wire.key.inv→y.isIn=false→y.mark=x.mark→y.master=x.master→SimT x y:=fun x y h1 h2 h3 h4 h5 h6 h7 h8 h9 h10 h11 h12 =>
   ⟨by rw [h6,h1,S.last],by rw [h7,h2],by rw [h8,h3],by rw [h9,h4,key_back],h11,h12,by rw [h10,h5],⟨wire,hw,h3,h4⟩,fun h=>by rw [h5] at h; cases h⟩
  have inv0:BInv (b.next.addT ⟨ad,dx,newB b zone s.now wire.key⟩):=BInv.addT (b:=b.next) S.inv.next rfl hne hl
  cases hn with
  | @plain ad' pd hno =>
   cases hr with
   | no _ =>
    refine ⟨⟨ad,dx,newB b zone s.now wire.key⟩,rfl,rfl,?_,?_,rfl,⟨false,rfl,rfl⟩,rfl,rfl,rfl,rfl,rfl⟩
    ·exact S.addT (x:=⟨ad',pd,newTalk w zone wire⟩) (y:=⟨ad,dx,newB b zone s.now wire.key⟩) (tt _ _ rfl rfl rfl rfl rfl rfl rfl rfl rfl rfl rfl rfl) rfl rfl rfl rfl S.e (fun e he=>⟨e,he,rfl,rfl⟩) inv0
    ·exact tt _ _ rfl rfl rfl rfl rfl rfl rfl rfl rfl rfl rfl rfl
   | @yes m1 m2 f mk he h1 h2 h3 =>
    have z:=(all_same S.e (p:=fun d=>fitW d zone wire.key s.now=false)).mp hno f (by
     have:f∈b.exps:=by
      have e:b.exps=m1++f::m2:=he
      rw [e]; exact List.mem_append_right _ (.head _)
     exact this)
    have h2':fitW f.d zone wire.key s.now=true:=h2
    rw [h2'] at z; cases z
  | @rel ad' pd l1 l2 e he h1 h2 =>
   cases hr with
   | no hno =>
    have z:=(all_same S.e (p:=fun d=>fitW d zone wire.key s.now=false)).mpr hno e (by rw [he]; exact List.mem_append_right _ (.head _))
    rw [h2] at z; cases z
   | @yes m1 m2 f mk he' h1' h2' h3 =>
    have he'':b.exps=m1++f::m2:=he'
    have hee:=S.e
    rw [he,he''] at hee
    have z:=first_same (p:=fun d=>fitW d zone wire.key s.now) hee h1 h2 h1' h2'
    have hmark:sumMark w.talks e.d.master=mk:=by
     rw [←z.2.1]
     exact S.sumMark h3 rfl
    have hset:∀v,(({b.next.addT ⟨ad,dx,newB b zone s.now wire.key⟩ with exps:=m1++f.dead::m2}:Bk).setT b.talks.length v).talks=b.talks++[v]:=fun v=>set_end b.talks _ v
    refine ⟨BT'.rel ⟨ad,dx,newB b zone s.now wire.key⟩ f.d.master mk,hset _,rfl,?_,?_,rfl,⟨true,rfl,?_⟩,rfl,rfl,rfl,rfl,rfl⟩
    ·refine S.addT (x:=⟨ad',pd,{newTalk w zone wire with bits:=1,master:=e.d.master,mark:=sumMark w.talks e.d.master}⟩) (y:=BT'.rel ⟨ad,dx,newB b zone s.now wire.key⟩ f.d.master mk) ?_ rfl rfl (hset _) rfl ?_ (fun u hu=>?_) ?_
     ·exact tt _ _ rfl rfl rfl rfl rfl rfl rfl rfl rfl rfl hmark.symm (congrArg Exp.master z.2.1)
     ·show (m1++f.dead::m2).map (·.d)=(l1++e.dead::l2).map (·.d)
      rw [List.map_append,List.map_append,List.map_cons,List.map_cons,z.1,z.2.2]
      congr 2
      show {f.d with gone:=true}={e.d with gone:=true}
      rw [z.2.1]
     ·rcases List.mem_append.mp (show u∈l1++e.dead::l2 from hu) with hu | hu
      ·exact ⟨u,by rw [he]; exact List.mem_append_left _ hu,rfl,rfl⟩
      ·rcases List.mem_cons.mp hu with rfl | hu
       ·exact ⟨e,by rw [he]; exact List.mem_append_right _ (.head _),rfl,rfl⟩
       ·exact ⟨u,by rw [he]; exact List.mem_append_right _ (.tail _ hu),rfl,rfl⟩
     ·have i1:BInv ({b.next.addT ⟨ad,dx,newB b zone s.now wire.key⟩ with exps:=m1++f.dead::m2}:Bk):=⟨inv0.tab,inv0.ids,inv0.ne,inv0.many,by
       have:=inv0.exps
       rw [show (b.next.addT ⟨ad,dx,newB b zone s.now wire.key⟩).exps=m1++f::m2 from he'] at this
       show (m1++f.dead::m2).length≤900
       simpa using this⟩
      exact i1.setT (x:=⟨ad,dx,newB b zone s.now wire.key⟩) (x':=BT'.rel ⟨ad,dx,newB b zone s.now wire.key⟩ f.d.master mk) (addT_at (b:=b.next)) ⟨rfl,rfl,rfl,rfl,rfl,rfl,rfl⟩
    ·exact tt _ _ rfl rfl rfl rfl rfl rfl rfl rfl rfl rfl hmark.symm (congrArg Exp.master z.2.1)
    ·show Builtin.bitOr 0 1=_
     decide +kernel
section
structure Cur (w:Wd) (b:Bk) (i:Nat) (x:WT) (y:BT') (zone:Int):Prop where
 hx:w.talks[i]?=some x
 hy:b.talks[i]?=some y
 sim:Sim w b
 live:Live x.d y.d
 zone:x.d.zone=zone
 fresh:x.d.isIn=false→i+1=b.talks.length∧OutOk b y
theorem Cur.t {w:Wd}{b:Bk}{i:Nat}{x:WT}{y:BT'}{zone:Int}(c:Cur w b i x y zone):SimT x.d y.d:=c.sim.t i x y c.hx c.hy
section
variable {w w1 w2:Wd}{b b1:Bk}{s s1:Sc}{zone now:Int}{x:WT}{y:BT'}
theorem Sim.bk (S:Sim w b):∀y∈b.talks,y.d.b=y.d.a.inv:=fun y hy=>by
 obtain ⟨i,hi⟩:=List.getElem?_of_mem hy
 obtain ⟨x,hx,t⟩:=S.both' hi
 rw [t.b,t.a]; exact t.inv
theorem no_inv (S:Sim w b) {t:T6}(h:∀p∈b.tab,p.1≠(zone,t.l)):∀p∈b.tab,p.1≠(zone,t.inv.l):=fun p hp e=>by
 obtain ⟨k,v⟩:=p
 cases e
 obtain ⟨i,z,dir,hz,hh,_⟩:=tab_mem S.inv hp
 have hb:=S.bk z (List.mem_of_getElem? hz)
 have:hitB z.d zone t:=⟨hh.1,hh.2.1,by
  rcases hh.2.2 with e | e
  ·right; rw [hb,←e]; rfl
  ·left; rw [hb] at e; have:=congrArg T6.inv e; exact this⟩
 obtain ⟨q,hq,hqe⟩:=tab_of (List.mem_of_getElem? hz) this
 exact h q hq hqe
theorem ids_small (S:Sim w b):∀p∈b.ids,p.1≠b.last+1:=fun p hp e=>by
 obtain ⟨z,hz,rfl⟩:=List.mem_map.mp hp
 obtain ⟨i,hi⟩:=List.getElem?_of_mem (List.mem_filter.mp hz).1
 obtain ⟨u,hu,t⟩:=S.both' hi
 have h1:=S.num i u hu
 have h2:=(List.getElem?_eq_some_iff.mp hu).1
 have e':z.d.num=b.last+1:=e
 rw [t.num,h1,S.last] at e'
 exact absurd (Int.ofNat_inj.mp (by first | exact (Int.add_left_inj 1).mp e' | exact (Int.add_right_inj 1).mp e')) (Nat.ne_of_lt h2)
theorem sim_look (S:Sim w b) {t:T6}{b0:Bk}{w0:Wd}(hf:FoundW w zone t now .none w0) (hl:LookB b zone t now .none b0):Sim w0 b0∧(∀p∈b0.tab,p.1≠(zone,t.l)):=by
 cases hf with
 | none hno =>
  cases hl with
  | none h=>exact ⟨S,h⟩
  | old h1 h2 h3 =>
   obtain ⟨u,hu,tt⟩:=S.both' h1
   exact absurd ((tt.hit zone t).mpr h2) (hno u (List.mem_of_getElem? hu))
 | @old i x hx hh ho =>
  obtain ⟨y,hy,tt⟩:=S.both hx
  have hb:=(tt.hit zone t).mp hh
  cases hl with
  | none h =>
   obtain ⟨q,hq,hqe⟩:=tab_of (List.mem_of_getElem? hy) hb
   exact absurd hqe (h q hq)
  | @old j z xl h1 h2 h3 =>
   obtain rfl:=uniq S.inv hy h1 hb h2
   obtain rfl:y=z:=by rw [hy] at h1; exact Option.some.inj h1
   have S0:=S.out hx hy xl
   refine ⟨S0,fun p hp e=>?_⟩
   obtain ⟨k,v⟩:=p
   cases e
   obtain ⟨j,z,dir,hz,hhz,_⟩:=tab_mem S0.inv hp
   rcases set_get hy (show (b.talks.set i y.off)[j]?=some z from hz) with ⟨_,rfl⟩ | ⟨hij,hz'⟩
   ·cases hhz.1
   ·exact hij (uniq S.inv hy hz' hb hhz)
theorem st1 (r s a c d:Bool):(¬Builtin.bitAnd (stInd r s a c d) 1=0)↔r=true:=by
 rw [st_and1]; cases r<;>simp
theorem state_eq {x:WTalk}{y:BTalk}(l:Live x y) (way:Int):stB y way=stateW x way:=by
 refine byP fun PG kG=>?_
 obtain ⟨r,c,h1,h2,h3⟩:=l.is
 refine kG ?_
 have e1:(way=1∨¬Builtin.bitAnd y.status 2=0)↔(way=1∨wayIn x.pk=true):=by rw [h3,st2]
 have e2:(¬Builtin.bitAnd y.status 1=0)↔x.bits%2=1:=by
  rw [h3,st1,h1]
  cases r<;>cases c<;>simp
 unfold stB stateW
 by_cases h:way=1∨wayIn x.pk=true
 ·rw [if_pos (e1.mpr h),if_pos h]
 ·rw [if_neg (mt e1.mp h),if_neg h]
  by_cases h':x.bits%2=1
  ·rw [if_pos (e2.mpr h'),if_pos h']
  ·rw [if_neg (mt e2.mp h'),if_neg h']
theorem goD_same (x:BT') (now dir:Int):SameB x (goD x now dir):=by
 have g:=goB_same x now
 unfold goD
 split
 ·exact ⟨g.ad,g.dx,g.num,g.zone,g.a,g.b,g.isIn⟩
 ·exact g
theorem goD_rest (x:BT') (now dir:Int):(goD x now dir).d.mark=x.d.mark∧(goD x now dir).d.master=x.d.master:=by
 unfold goD goB
 split<;>split<;>first | exact ⟨rfl,rfl⟩ | (split<;>exact ⟨rfl,rfl⟩)
theorem SimT.go {x:WT}{y:BT'}{now dir:Int}{p:Int×Int}(t:SimT x.d y.d) (l:Live (x.add p).d (goD y now dir).d):SimT (x.add p).d (goD y now dir).d :=
 ⟨(goD_same y now dir).num.trans t.num,(goD_same y now dir).zone.trans t.zone,(goD_same y now dir).a.trans t.a,(goD_same y now dir).b.trans t.b,(goD_rest y now dir).1.trans t.mark,(goD_rest y now dir).2.trans t.master,(goD_same y now dir).isIn.trans t.isIn,t.wire,fun _=>l⟩
theorem sim_meet (S:Sim w b) {wire:Wire}(hw:WireOk wire) (hl:b.talks.length<60) {way st:Int}{nw:Bool}(hm:MeetW w zone wire s.now x way nw st w1) (hb:BringB b s zone wire.key b1 s1) :
  ∃i y,Cur w1 b1 i x y zone∧s1=s.put (.ref y.ad) st way∧(nw=true↔x.d.isIn=false):=by
 cases hm with
 | @hit i x way hx hh hu hd =>
  obtain ⟨y,hy,t⟩:=S.both hx
  have hB:=(t.hit zone wire.key).mp hh
  have l:=t.live hh.1
  cases hb with
  | @hit j z dir h1 h2 h3 h4 =>
   obtain rfl:=uniq S.inv hy h1 hB h2
   obtain rfl:y=z:=by rw [hy] at h1; exact Option.some.inj h1
   have hwd:dir=way:=by rw [h4,hd,t.a]
   subst hwd
   have l':=live_hit (now:=s.now) (way:=dir) (by rw [t.a]) l
   have t':=t.go (x:=x) (p:=(s.now,dir)) l'
   refine ⟨i,goD y s.now dir,⟨set_at hx _,set_at hy _,S.set hx hy t' rfl rfl (goD_same y s.now dir),l',hh.2.1,fun h=>?_⟩,?_,?_⟩
   ·have:x.d.isIn=false:=h
    rw [hh.1] at this; cases this
   ·rw [(goD_same y s.now dir).ad,state_eq l]
   ·show (false=true↔x.d.isIn=false)
    rw [hh.1]; simp
  | new h1 h2 h3 h4 =>
   cases h1 with
   | none h =>
    obtain ⟨q,hq,hqe⟩:=tab_of (List.mem_of_getElem? hy) hB
    exact absurd hqe (h q hq)
   | old g1 g2 g3 =>
    obtain rfl:=uniq S.inv hy g1 hB g2
    rw [hy] at g1
    cases g1
    rw [l.til] at g3
    exact absurd g3 hu
 | @new w0 w2 x hf hn =>
  cases hb with
  | hit h1 h2 h3 h4 =>
   obtain ⟨u,hu,tt⟩:=S.both' h1
   have hW:=(tt.hit zone wire.key).mpr h2
   cases hf with
   | none hno=>exact absurd hW (hno u (List.mem_of_getElem? hu))
   | @old i' x' hx' hh' ho' =>
    obtain ⟨y',hy',t'⟩:=S.both hx'
    obtain rfl:=uniq S.inv hy' h1 ((t'.hit zone wire.key).mp hh') h2
    rw [hx'] at hu
    cases hu
    rw [(tt.live hW.1).til] at h3
    exact absurd ho' h3
  | @new b0 b2 _ z h1 h2 h3 h4 =>
   obtain ⟨S0,hno⟩:=sim_look S hf h1
   have hl0:b0.talks.length<60:=by rw [(look_talks h1).1]; exact hl
   obtain ⟨y,N⟩:=sim_begin S0 hw hn h2 hl0
   have hyz:y=z:=by
    rw [N.at_,at_end] at h3
    exact Option.some.inj h3
   subst hyz
   obtain ⟨r,hr1,hr2⟩:=N.bits
   have l':=live_new (x:=x.d) (y:=y) (now:=s.now) N.pk hr1 N.isIn (by rw [N.t.a]) hr2 N.since
   have hgD:goD y s.now 0=goB y s.now:=by unfold goD; rw [if_neg (by decide)]
   have hyb:b2.talks[b0.talks.length]?=some y:=by rw [N.at_]; exact at_end _ _
   have hxw:w2.talks[w0.talks.length]?=some x:=by rw [N.wat]; exact at_end _ _
   have hlen:w0.talks.length=b0.talks.length:=S0.len.symm
   rw [hlen] at hxw ⊢
   have t':=N.t.go (x:=x) (p:=(s.now,0)) (now:=s.now) (dir:=0) (by rw [hgD]; exact l')
   rw [hgD] at t'
   have S1:=N.sim.set (x':=x.add (s.now,0)) (y':=goB y s.now) hxw hyb t' rfl rfl (goB_same y s.now)
   refine ⟨b0.talks.length,goB y s.now,⟨set_at hxw _,set_at hyb _,S1,l',N.zone,fun _=>⟨?_,?_⟩⟩,?_,?_⟩
   ·show _=(b2.talks.set _ _).length
    rw [List.length_set,N.at_,List.length_append]; rfl
   ·have hin:y.d.isIn=false:=by rw [N.t.isIn]; exact N.isIn
    have et:=setT_tab (b:=b2) (x':=goB y s.now) hyb (goB_same y s.now)
    have eb:b2.tab=b0.tab∧b2.ids=b0.ids:=by
     have:=addT_tab (b:=b0) (x:=y) hin
     unfold Bk.tab Bk.ids at this ⊢
     rw [N.at_]; exact this
    have ek0:(goB y s.now).d.k0=(zone,wire.key.l):=by
     unfold BTalk.k0
     rw [(goB_same y s.now).zone,(goB_same y s.now).a,N.t.zone,N.zone,N.t.a]
     cases hn<;>rfl
    have ek1:(goB y s.now).d.k1=(zone,wire.key.inv.l):=by
     unfold BTalk.k1
     rw [(goB_same y s.now).zone,(goB_same y s.now).b,N.t.zone,N.zone,N.t.b,N.t.inv]
     cases hn<;>rfl
    have en:(goB y s.now).d.num=b0.last+1:=by
     rw [(goB_same y s.now).num,N.t.num,S0.last]
     have:=N.sim.num _ _ hxw
     rw [this,←hlen]
    refine ⟨?_,?_,?_⟩
    ·rw [et.1,eb.1,ek0]; exact hno
    ·rw [et.1,eb.1,ek1]; exact no_inv S0 hno
    ·rw [et.2,eb.2,en]; exact ids_small S0
   ·rw [N.sc,(goB_same y s.now).ad]
   ·show (true=true↔x.d.isIn=false)
    rw [N.isIn]; simp
end
end
section
section
variable {w w' w1:Wd}{b b' b1:Bk}{i:Nat}{zone now way:Int}{x:WT}{y:BT'}{s:Spec}
theorem Cur.exps (c:Cur w b i x y zone) (ew:w'.talks=w.talks) (eb:b'.talks=b.talks) (el:b'.last=b.last) (ee:b'.exps.map (·.d)=w'.exps.map (·.d)) (ez:∀e∈w'.exps,(∃e'∈w.exps,e'.d.master=e.d.master∧e'.d.zone=e.d.zone)∨(e.d.master=x.d.num∧e.d.zone=x.d.zone)) (h9:b'.exps.length≤900):Cur w' b' i x y zone:=by
 have S:=c.sim
 have et:b'.tab=b.tab:=by unfold Bk.tab; rw [eb]
 have ei:b'.ids=b.ids:=by unfold Bk.ids; rw [eb]
 refine ⟨by rw [ew]; exact c.hx,by rw [eb]; exact c.hy,⟨by rw [ew,eb]; exact S.len,by rw [el,ew]; exact S.last,by rw [ew,eb]; exact S.t,by rw [ew]; exact S.num,ee,fun e he=>?_,⟨by rw [et]; exact S.inv.tab,by rw [ei]; exact S.inv.ids,by rw [eb]; exact S.inv.ne,by rw [eb]; exact S.inv.many,h9⟩⟩,c.live,c.zone,fun h=>?_⟩
 ·rw [ew]
  rcases ez e he with ⟨e',he',h1,h2⟩ | ⟨h1,h2⟩
  ·refine byP fun PG kG=>?_
   obtain ⟨j,u,hu,h3,h4⟩:=S.ez e' he'
   refine kG ?_
   exact ⟨j,u,hu,by rw [←h1]; exact h3,by rw [←h2]; exact h4⟩
  ·exact ⟨i,x,c.hx,h1.symm,h2⟩
 ·obtain ⟨h1,h2⟩:=c.fresh h
  exact ⟨by rw [eb]; exact h1,⟨by rw [et]; exact h2.t0,by rw [et]; exact h2.t1,by rw [ei]; exact h2.n⟩⟩
theorem Cur.zoneE (c:Cur w b i x y zone):∀e∈w.exps,e.d.master=x.d.num→e.d.zone=x.d.zone:=fun e he hm=>by
 refine byP fun PG kG=>?_
 obtain ⟨j,u,hu,h1,h2⟩:=c.sim.ez e he
 have h3:=c.sim.num j u hu
 have h4:=c.sim.num i x c.hx
 have:j=i:=by
  have:(j:Int)+1=i+1:=by rw [←h3,←h4,h1,hm]
  exact Int.ofNat_inj.mp (by first | exact (Int.add_left_inj 1).mp this | exact (Int.add_right_inj 1).mp this)
 subst this
 rw [c.hx] at hu
 cases hu
 refine kG ?_
 exact h2
theorem same_eq (c:Cur w b i x y zone):∀e∈w.exps,sameE x.d.num (sideW x.d.a x.d.b way) s e.d=sameZ y.d.num y.d.zone (sideW y.d.a y.d.b way) s e.d:=fun e he=>by
 have t:=c.t
 rw [t.num,t.zone,t.a,t.b]
 unfold sameE sameZ ownE
 by_cases hm:e.d.master=x.d.num
 ·have hz:=c.zoneE e he hm
  rw [decide_eq_true hm,decide_eq_true hz]
  generalize (if s.nf=0 then 2 else s.nf)=nf'
  have:(decide (e.d.source=(sideW x.d.a x.d.b way).a)&&decide ([e.d.nf,e.d.p,e.d.t,e.d.port]=[nf',s.p,(sideW x.d.a x.d.b way).c,s.port]))=decide ([e.d.nf,e.d.p,e.d.source,e.d.t,e.d.port]=[nf',s.p,(sideW x.d.a x.d.b way).a,(sideW x.d.a x.d.b way).c,s.port]):=by
   rw [←Bool.decide_and]
   congr 1
   simp only [List.cons.injEq,and_true,eq_iff_iff]
   constructor
   ·rintro ⟨h1,h2,h3,h4,h5⟩; exact ⟨h2,h3,h1,h4,h5⟩
   ·rintro ⟨h1,h2,h3,h4,h5⟩; exact ⟨h3,h1,h2,h4,h5⟩
  rw [this]
  cases e.d.gone<;>rfl
 ·rw [decide_eq_false hm]
  cases e.d.gone<;>rfl
theorem conf_eq {x:WTalk}{y:BTalk}(l:Live x y):(¬Builtin.bitAnd y.status 520=0↔x.bits/8%2=1)∧(¬Builtin.bitAnd y.status 8=0↔x.bits/8%2=1)∧(x.bits/8%2=1↔x.isIn=true)∧(x.bits/8%2=0↔x.isIn=false):=by
 refine byP fun PG kG=>?_
 obtain ⟨r,c,h1,h2,h3⟩:=l.is
 refine kG ?_
 rw [h3,st_and520,st_and8,h1,←h2]
 cases r<;>cases c<;>simp
theorem sim_exp (c:Cur w b i x y zone) (h9:w.exps.length<900) {v v':PV}(hw:ExpW w x.d way s now v w') (hb:AddB b y.d way s now v' b'):v'=v∧Cur w' b' i x y zone:=by
 have t:=c.t
 have e1:=(conf_eq c.live).1
 have e2:manyE (b.exps.map (·.d)) y.d.num now=manyE (w.exps.map (·.d)) x.d.num now:=by rw [c.sim.e,t.num]
 have hlen:b.exps.length=w.exps.length:=by have:=congrArg List.length c.sim.e; rwa [List.length_map,List.length_map] at this
 have hse:=same_eq (way:=way) (s:=s) c
 have nob:¬x.d.bits/8%2=1→¬s.most≤manyE (w.exps.map (·.d)) x.d.num now→¬(¬Builtin.bitAnd y.d.status 520=0∨s.most≤manyE (b.exps.map (·.d)) y.d.num now):=fun h1 h2 h=>by
  rcases h with h | h
  ·exact h1 (e1.mp h)
  ·rw [e2] at h; exact h2 h
 cases hw with
 | brk h =>
  have hb':¬Builtin.bitAnd y.d.status 520=0∨s.most≤manyE (b.exps.map (·.d)) y.d.num now:=by
   rcases h with h | h
   ·exact .inl (e1.mpr h)
   ·exact .inr (by rw [e2]; exact h)
  cases hb with
  | brk _=>exact ⟨rfl,c⟩
  | renew g1 g2 _ _ _=>rcases hb' with z | z; exact absurd g1 z; exact absurd z g2
  | add g1 g2 _=>rcases hb' with z | z; exact absurd g1 z; exact absurd z g2
 | @renew l1 l2 e h1 h2 he hno hyes =>
  have hseL:∀u∈l1,sameZ y.d.num y.d.zone (sideW y.d.a y.d.b way) s u.d=false:=fun u hu=>by rw [←hse u (by rw [he]; exact List.mem_append_left _ hu)]; exact hno u hu
  have hseE:sameZ y.d.num y.d.zone (sideW y.d.a y.d.b way) s e.d=true:=by rw [←hse e (by rw [he]; exact List.mem_append_right _ (.head _))]; exact hyes
  cases hb with
  | brk z=>exact absurd z (nob h1 h2)
  | @renew m1 m2 f g1 g2 he' hno' hyes' =>
   have hee:=c.sim.e
   rw [he,he'] at hee
   have z:=first_same (p:=sameZ y.d.num y.d.zone (sideW y.d.a y.d.b way) s) hee hseL hseE hno' hyes'
   refine ⟨rfl,c.exps rfl rfl rfl ?_ (fun u hu=>.inl ?_) ?_⟩
   ·show (m1++f.till (now+s.span)::m2).map (·.d)=(l1++e.till (now+s.span)::l2).map (·.d)
    rw [List.map_append,List.map_append,List.map_cons,List.map_cons,z.1,z.2.2]
    congr 2
    show {f.d with until_:=now+s.span}={e.d with until_:=now+s.span}
    rw [z.2.1]
   ·rcases List.mem_append.mp (show u∈l1++e.till (now+s.span)::l2 from hu) with hu | hu
    ·exact ⟨u,by rw [he]; exact List.mem_append_left _ hu,rfl,rfl⟩
    ·rcases List.mem_cons.mp hu with rfl | hu
     ·exact ⟨e,by rw [he]; exact List.mem_append_right _ (.head _),rfl,rfl⟩
     ·exact ⟨u,by rw [he]; exact List.mem_append_right _ (.tail _ hu),rfl,rfl⟩
   ·have:=c.sim.inv.exps
    rw [he'] at this
    show (m1++f.till (now+s.span)::m2).length≤900
    simpa using this
  | add g1 g2 hno' =>
   have z:=(all_same c.sim.e (p:=fun d=>sameZ y.d.num y.d.zone (sideW y.d.a y.d.b way) s d=false)).mpr hno' e (by rw [he]; exact List.mem_append_right _ (.head _))
   rw [hseE] at z; cases z
 | @add ad h1 h2 hno =>
  cases hb with
  | brk z=>exact absurd z (nob h1 h2)
  | @renew m1 m2 f g1 g2 he' hno' hyes' =>
   have z:=(all_same c.sim.e (p:=fun d=>sameZ y.d.num y.d.zone (sideW y.d.a y.d.b way) s d=false)).mp (fun u hu=>by rw [←hse u hu]; exact hno u hu) f (by rw [he']; exact List.mem_append_right _ (.head _))
   rw [hyes'] at z; cases z
  | add g1 g2 hno' =>
   refine ⟨rfl,c.exps rfl rfl rfl ?_ (fun u hu=>?_) ?_⟩
   ·show (b.exps++[_]).map (fun e:BE=>e.d)=(w.exps++[_]).map (fun e:WE=>e.d)
    rw [List.map_append,List.map_append,c.sim.e]
    congr 1
    show [newE y.d.num y.d.zone (sideW y.d.a y.d.b way) s now]=[newE x.d.num x.d.zone (sideW x.d.a x.d.b way) s now]
    rw [t.num,t.zone,t.a,t.b]
   ·rcases List.mem_append.mp (show u∈w.exps++[_] from hu) with hu | hu
    ·exact .inl ⟨u,hu,rfl,rfl⟩
    ·rw [List.mem_singleton.mp hu]; exact .inr ⟨rfl,rfl⟩
   ·show (b.exps++[_]).length≤900
    rw [List.length_append,hlen]
    exact h9
noncomputable def anyB (x:BTalk) (s:Spec) (zone now:Int):Exp:={master:=x.num,zone,source:=-1,nf:=s.nf,p:=s.p,t:=x.a.a,port:=s.port,until_:=now+s.span,gone:=false}
theorem sim_any (c:Cur w b i x y zone) (h9:w.exps.length<900) {ad ad' dx:Addr}:Cur (w.addE ⟨ad,anyE x.d s now⟩) (b.addE ⟨ad',dx,anyB y.d s zone now⟩) i x y zone:=by
 have t:=c.t
 have hlen:b.exps.length=w.exps.length:=by have:=congrArg List.length c.sim.e; rwa [List.length_map,List.length_map] at this
 refine c.exps rfl rfl rfl ?_ (fun u hu=>?_) ?_
 ·show (b.exps++[_]).map (fun e:BE=>e.d)=(w.exps++[_]).map (fun e:WE=>e.d)
  rw [List.map_append,List.map_append,c.sim.e]
  congr 1
  show [anyB y.d s zone now]=[anyE x.d s now]
  unfold anyB anyE
  rw [t.num,t.a,c.zone]
 ·rcases List.mem_append.mp (show u∈w.exps++[_] from hu) with hu | hu
  ·exact .inl ⟨u,hu,rfl,rfl⟩
  ·rw [List.mem_singleton.mp hu]; exact .inr ⟨rfl,rfl⟩
 ·show (b.exps++[_]).length≤900
  rw [List.length_append,hlen]
  exact h9
end
end
section
section
variable {w w' w1:Wd}{b b' b1:Bk}{i:Nat}{zone now way:Int}{x x':WT}{y y':BT'}{s:Sc}
theorem Cur.set (c:Cur w b i x y zone) (t:SimT x'.d y'.d) (l:Live x'.d y'.d) (hn:x'.d.num=x.d.num) (hz:x'.d.zone=x.d.zone) (hi:x'.d.isIn=x.d.isIn) (sb:SameB y y'):Cur (w.setT i x') (b.setT i y') i x' y' zone:=by
 refine ⟨set_at c.hx _,set_at c.hy _,c.sim.set c.hx c.hy t hn hz sb,l,by rw [hz]; exact c.zone,fun h=>?_⟩
 obtain ⟨h1,h2⟩:=c.fresh (by rw [←hi]; exact h)
 have e:=setT_tab c.hy sb
 refine ⟨by show i+1=(b.talks.set i y').length; rw [List.length_set]; exact h1,⟨?_,?_,?_⟩⟩
 ·rw [e.1,show y'.d.k0=y.d.k0 by unfold BTalk.k0; rw [sb.zone,sb.a]]; exact h2.t0
 ·rw [e.1,show y'.d.k1=y.d.k1 by unfold BTalk.k1; rw [sb.zone,sb.b]]; exact h2.t1
 ·rw [e.2,sb.num]; exact h2.n
noncomputable def BT'.markAt (y:BT') (m:Int):BT':={y with d:={y.d with mark:=m}}
theorem Cur.mark (c:Cur w b i x y zone) (m:Int):Cur (w.setT i (x.marked m)) (b.setT i (y.markAt m)) i (x.marked m) (y.markAt m) zone:=by
 have t:=c.t
 have l:=c.live
 have l':Live (x.marked m).d (y.markAt m).d:=⟨l.is,l.til,l.since,l.ne⟩
 exact c.set ⟨t.num,t.zone,t.a,t.b,rfl,t.master,t.isIn,t.wire,fun _=>l'⟩ l' rfl rfl rfl ⟨rfl,rfl,rfl,rfl,rfl,rfl,rfl⟩
theorem last_of {b:Bk}{i:Nat}{y:BT'}(h:i+1=b.talks.length) (hy:b.talks[i]?=some y):∃l,b.talks=l++[y]∧l.length=i:=by
 refine byP fun PG kG=>?_
 obtain ⟨l1,l2,e,hl,_⟩:=split_at hy
 refine kG ?_
 have:l2=[]:=by
  rw [e,List.length_append,List.length_cons,hl] at h
  exact List.eq_nil_of_length_eq_zero (Nat.succ.inj (Nat.add_left_cancel h)).symm
 subst this
 exact ⟨l1,e,hl⟩
theorem inn_inv {l:List BT'}(I:BInv b) (e:b.talks=l++[y]) (hin:y.d.isIn=false) (ok:OutOk b y):BInv (b.setT l.length y.inn):=by
 have z:=inn_parts e hin
 have hm:y∈b.talks:=by rw [e]; exact List.mem_append_right _ (.head _)
 refine ⟨?_,?_,fun u hu=>?_,?_,I.exps⟩
 ·rw [z.1,List.map_append,List.nodup_append]
  refine ⟨I.tab,?_,fun k hk k' hk' h=>?_⟩
  ·refine List.nodup_cons.mpr ⟨fun h=>?_,List.nodup_cons.mpr ⟨fun h=>(nomatch h),List.nodup_nil⟩⟩
   have:=List.mem_singleton.mp h
   exact I.ne y hm (T6.l_inj.mp (congrArg Prod.snd this))
  ·obtain ⟨p,hp,rfl⟩:=List.mem_map.mp hk
   rcases List.mem_cons.mp hk' with h' | h'
   ·exact ok.t0 p hp (h.trans h')
   ·exact ok.t1 p hp (h.trans (List.mem_singleton.mp h'))
 ·rw [z.2,List.map_append,List.nodup_append]
  refine ⟨I.ids,List.nodup_cons.mpr ⟨fun h=>(nomatch h),List.nodup_nil⟩,fun k hk k' hk' h=>?_⟩
  obtain ⟨p,hp,rfl⟩:=List.mem_map.mp hk
  exact ok.n p hp (h.trans (List.mem_singleton.mp hk'))
 ·rcases List.mem_or_eq_of_mem_set hu with hu | rfl
  ·exact I.ne u hu
  ·exact I.ne y hm
 ·show (b.talks.set l.length y.inn).length≤60
  rw [List.length_set]; exact I.many
theorem Cur.keep (c:Cur w b i x y zone) (hin:x.d.isIn=false):∃l,b.talks=l++[y]∧l.length=i∧y.d.isIn=false∧OutOk b y∧Cur (w.setT i x.keep) (b.setT i y.inn) i x.keep y.inn zone:=by
 have t:=c.t
 refine byP fun PG kG=>?_
 obtain ⟨h1,ok⟩:=c.fresh hin
 obtain ⟨l,e,hl⟩:=last_of h1 c.hy
 have hyi:y.d.isIn=false:=by rw [t.isIn]; exact hin
 have inv:=inn_inv c.sim.inv e hyi ok
 rw [hl] at inv
 obtain ⟨⟨r,cc,g1,g2,g3⟩,g4,g5,g6⟩:=c.live
 refine kG ?_
 have hcc:cc=false:=by rw [g2]; exact hin
 subst hcc
 have lv:Live x.keep.d y.inn.d:=⟨⟨r,true,by show x.d.bits+8=_; rw [g1]; simp,rfl,by
  show Builtin.bitOr y.d.status 8=_
  rw [g3,st_or8]; rfl⟩,g4,g5,g6⟩
 have t':SimT x.keep.d y.inn.d:=⟨t.num,t.zone,t.a,t.b,t.mark,t.master,rfl,t.wire,fun _=>lv⟩
 refine ⟨l,e,hl,hyi,ok,⟨set_at c.hx _,set_at c.hy _,?_,lv,c.zone,fun h=>by cases h⟩⟩
 exact c.sim.talks (x':=x.keep) (y':=y.inn) c.hx c.hy t' rfl rfl rfl rfl rfl c.sim.e (fun e he=>⟨e,he,rfl,rfl⟩) inv
theorem Cur.out (c:Cur w b i x y zone) (xl:Addr):Sim (w.out i x) (b.drop i y xl):=c.sim.out c.hx c.hy xl
theorem bring_ba {t:T6}{s1:Sc}(h:BringB b s zone t b1 s1):b1.ba=b.ba:=by
 cases h with
 | hit _ _ _ _=>rfl
 | new h1 h2 h3 h4 =>
  refine byP fun PG kG=>?_
  obtain ⟨_,_,_,_,_,e,_⟩:=begin_x h2
  refine kG ?_
  show _=_
  rw [←(look_talks h1).2.1,←e]; rfl
theorem add_ba {x:BTalk}{sp:Spec}{v:PV}(h:AddB b x way sp now v b1):b1.ba=b.ba:=by cases h<;>rfl
end
end
section
variable {C:Cfg}(hC:CK C) {H:GHeap}{F:List Cell}
include hC
theorem t_do10 {w:Wd}{b:Bk}{i:Nat}{x:WT}{y:BT'}{zone:Int}{s:Sc}{r:RowD}{ra da:Addr}(c:Cur w b i x y zone) (o:Own H (s.cells++(b.cells++F))) (ht:s.talk=.ref y.ad) (hra:(ra,.sdict r.kv)∈F) :
  ExOk C 6 (scOf (stAt 83)) ((bodyOf (stAt 83)).drop 10) [("row",.ref ra),("scene",.ref s.ad),("book",.ref b.ba),("told",.ref da)] H
   fun fl _ H'=>flv fl=.ref da∧∃b',Sim (if r.kind=3 then w.out i x else w) b'∧b'.ba=b.ba∧Own H' (b'.cells++F):=by
 have i0:=o.at_ (s.ad,.inst 408 s.dx) (.head _)
 have d0:=o.at_ (s.dx,.sdict s.kv) (.tail _ (.head _))
 have hr:=o.at_ (ra,.sdict r.kv) (List.mem_append_right _ (List.mem_append_right _ hra))
 have I:=c.sim.inv
 have ob:=o.right
 have dr:=t_drop hC ob c.hy I (fun h=>(c.fresh (by rw [←c.t.isIn]; exact h)).2) (tab_len I)
 refine wp_ok (C:=C) (n:=6) (sc:=scOf (stAt 83)) hC.wok 300 (.ex _ _ _ _) ?_
 walk_at "g"
 refine subS hr rfl ?_
 walk_at "g"
 refine And.intro (fun h1=>?_) (fun h1=>?_)
 ·walk_at "g"
  refine getI hC i0 d0 rfl (show _=some (.ref y.ad) by rw [←ht]; rfl) rfl ?_
  walk_at "g"
  refine getI hC i0 d0 rfl (show _=some (.ref y.ad) by rw [←ht]; rfl) rfl ?_
  walk_at "g"
  refine up dr rfl fun v H1 h=>?_
  obtain ⟨rfl,xl,o1⟩:=h
  walk_at "g"
  rw [if_pos h1]
  exact ⟨rfl,_,c.out xl,rfl,o1⟩
 ·walk_at "g"
  rw [if_neg h1]
  exact ⟨rfl,b,c.sim,rfl,ob⟩
theorem t_do9 {w:Wd}{b:Bk}{i:Nat}{x:WT}{y:BT'}{zone:Int}{s:Sc}{r:RowD}{ra da rs:Addr}{seen:PV}(c:Cur w b i x y zone) (o:Own H (s.cells++(b.cells++((da,.list [seen,.ref rs,.none])::F)))) (hs:s.talks=.ref b.ba) (ht:s.talk=.ref y.ad) (hra:(ra,.sdict r.kv)∈F) :
  ExOk C 6 (scOf (stAt 83)) ((bodyOf (stAt 83)).drop 9) [("row",.ref ra),("scene",.ref s.ad),("book",.ref b.ba),("told",.ref da)] H
   fun fl _ H'=>flv fl=.ref da∧∃b',Sim (finW w i x r.kind r.kept) b'∧b'.ba=b.ba∧Own H' (b'.cells++((da,.list [seen,.ref rs,.none])::F)):=by
 have hr:=o.at_ (ra,.sdict r.kv) (List.mem_append_right _ (List.mem_append_right _ (.tail _ hra)))
 have cf:=conf_eq c.live
 have tail:∀{w':Wd}{b':Bk}{x':WT}{y':BT'}{H':GHeap},Cur w' b' i x' y' zone→b'.ba=b.ba→y'.ad=y.ad→KeepW w i x r.kept=(x',w')→Own H' (s.cells++(b'.cells++((da,.list [seen,.ref rs,.none])::F))) →
   ExOk C 6 (scOf (stAt 83)) ((bodyOf (stAt 83)).drop 10) [("row",.ref ra),("scene",.ref s.ad),("book",.ref b.ba),("told",.ref da)] H' fun fl _ H'=>flv fl=.ref da∧∃b',Sim (finW w i x r.kind r.kept) b'∧b'.ba=b.ba∧Own H' (b'.cells++((da,.list [seen,.ref rs,.none])::F)):=fun {w' b' x' y' H'} c' hb hy hk o'=>by
  have z:=t_do10 hC (r:=r) (ra:=ra) (da:=da) c' o' (by rw [ht,hy]) (.tail _ hra)
  rw [hb] at z
  refine z.mono fun fl _ H' h=>?_
  refine byP fun PG kG=>?_
  obtain ⟨h1,b2,h2,h3,h4⟩:=h
  refine kG ?_
  refine ⟨h1,b2,?_,h3,h4⟩
  unfold finW
  rw [hk]
  exact h2
 refine wp_ok (C:=C) (n:=6) (sc:=scOf (stAt 83)) hC.wok 300 (.exn 1 _ _ _ _) ?_
 walk_at "g"
 refine subS hr rfl ?_
 walk_at "g"
 refine And.intro (fun h1=>?_) (fun h1=>?_)
 ·have fin:∀{w':Wd}{b':Bk}{x':WT}{y':BT'}{H1:GHeap},Cur w' b' i x' y' zone→b'.ba=b.ba→y'.ad=y.ad→KeepW w i x r.kept=(x',w')→Own H1 (s.cells++(b'.cells++((da,.list [seen,.ref rs,.none])::F))) →
    SetOk C 6 (.ref da) (.int 2) .none H1 fun H2=>ExOk C 6 (scOf (stAt 83)) ((bodyOf (stAt 83)).drop 10) [("row",.ref ra),("scene",.ref s.ad),("book",.ref b.ba),("told",.ref da)] H2 fun fl _ H'=>flv fl=.ref da∧∃b',Sim (finW w i x r.kind r.kept) b'∧b'.ba=b.ba∧Own H' (b'.cells++((da,.list [seen,.ref rs,.none])::F)):=fun {w' b' x' y' H1} c' hb hy hk o1=>by
   rw [←List.append_assoc] at o1
   refine si_list o1.inF (by decide) (by show (2:Int)<3; decide) (Nat.le_of_ble_eq_true rfl) ?_
   have o2:=o1.putF (g':=.list [seen,.ref rs,.none])
   rw [List.append_assoc] at o2
   exact tail c' hb hy hk o2
  have ss:=o.swap
  cases hin:x.d.isIn with
  | true =>
   have cn:=t_confOld hC o hs ht (List.mem_of_getElem? c.hy) (cf.2.1.mpr (cf.2.2.1.mpr hin))
   walk_at "g"
   refine up cn rfl fun v H1 h=>?_
   obtain ⟨rfl,rfl⟩:=h
   walk_at "g"
   have hk:KeepW w i x r.kept=(x,w):=by
    unfold KeepW
    rw [if_neg]
    rintro ⟨_,h⟩
    rw [cf.2.2.2.mp h] at hin; cases hin
   refine SetOk.mono (fin c rfl rfl hk o) fun H2 z=>?_
   walk_at "g"
   exact z
  | false =>
   refine byP fun PG kG=>?_
   obtain ⟨l,e,hl,hyi,ok,c'⟩:=c.keep hin
   refine kG ?_
   have cn:=t_confNew hC o c.sim.inv hs ht e hyi (Decidable.not_not.mp fun h=>by rw [cf.2.2.1.mp (cf.2.1.mp h)] at hin; cases hin) ok
   rw [hl] at cn
   walk_at "g"
   refine up cn rfl fun v H1 h=>?_
   obtain ⟨rfl,o1⟩:=h
   walk_at "g"
   have hk:KeepW w i x r.kept=(x.keep,w.setT i x.keep):=by
    unfold KeepW
    rw [if_pos ⟨h1,cf.2.2.2.mpr hin⟩]
   refine SetOk.mono (fin c' rfl rfl hk o1) fun H2 z=>?_
   walk_at "g"
   exact z
 ·walk_at "g"
  have hk:KeepW w i x r.kept=(x,w):=by
   unfold KeepW
   rw [if_neg (fun h=>by rw [h1] at h; cases h.1)]
  exact (tail c rfl rfl hk o).looks (subF_is rfl)
end
section
theorem exps_at {x:WTalk}{way now:Int}{l:List Spec}{w w':Wd}{res:List PV}(h:ExpsW x way now l w res w'):∃f:Nat→Wd,f 0=w∧f l.length=w'∧res.length=l.length∧∀(j:Nat) (sp:Spec),l[j]?=some sp→∃v,res[j]?=some v∧ExpW (f j) x way sp now v (f (j+1)):=by
 induction h with
 | nil=>exact ⟨fun _=>_,rfl,rfl,rfl,fun j sp h=>by cases h⟩
 | @snoc w w1 w2 l sp ys y h1 h2 ih =>
  obtain ⟨f,h3,h4,h5,h6⟩:=ih
  refine ⟨fun j=>if j≤l.length then f j else w2,by dsimp only; rw [if_pos (Nat.zero_le _),h3],by dsimp only; rw [List.length_append,List.length_singleton,if_neg (by lia)],by rw [List.length_append,List.length_append,h5]; rfl,fun j q hq=>?_⟩
  rcases snoc_get hq with hq | ⟨rfl,rfl⟩
  ·have hj:=(List.getElem?_eq_some_iff.mp hq).1
   obtain ⟨v,hv,he⟩:=h6 j q hq
   refine ⟨v,by rw [List.getElem?_append_left (by rw [h5]; exact hj)]; exact hv,?_⟩
   dsimp only
   rw [if_pos (by exact Nat.le_of_lt (by assumption)),if_pos (by assumption)]
   exact he
  ·refine ⟨y,by rw [←h5]; exact at_end _ _,?_⟩
   dsimp only
   rw [if_pos (Nat.le_refl _),if_neg (by lia),h4]
   exact h2
variable {C:Cfg}(hC:CK C) {H:GHeap}{F:List Cell}
include hC
theorem t_do8 {w w1:Wd}{b:Bk}{i:Nat}{x:WT}{y:BT'}{zone now:Int}{s:Sc}{sp:Spec}{r:RowD}{ra da rs:Addr}{seen:PV}(c:Cur w b i x y zone) (h9:w.exps.length<900) (ha:AnyW w x.d r.kind sp zone now r.any w1) (o:Own H (s.cells++(b.cells++((da,.list [seen,.ref rs,.none])::F)))) (hs:s.talks=.ref b.ba) (ht:s.talk=.ref y.ad) (hra:(ra,.sdict r.kv)∈F) :
  ExOk C 6 (scOf (stAt 83)) ((bodyOf (stAt 83)).drop 8) [("row",.ref ra),("scene",.ref s.ad),("book",.ref b.ba),("told",.ref da)] H
   fun fl _ H'=>flv fl=.ref da∧∃b',Sim (finW w1 i x r.kind r.kept) b'∧b'.ba=b.ba∧Own H' (b'.cells++((da,.list [seen,.ref rs,.none])::F)):=by
 have hr:=o.at_ (ra,.sdict r.kv) (List.mem_append_right _ (List.mem_append_right _ (.tail _ hra)))
 refine wp_ok (C:=C) (n:=6) (sc:=scOf (stAt 83)) hC.wok 300 (.exn 1 _ _ _ _) ?_
 cases hany:r.any with
 | none =>
  rw [hany] at ha
  walk_at "g"
  refine subS hr (show _=some .none by rw [←hany]; rfl) ?_
  walk_at "g"
  cases ha with
  | no _=>exact (t_do9 hC c o hs ht hra).looks (subF_is rfl)
 | tup l =>
  rw [hany] at ha
  generalize hg:PV.tup l=any at ha
  cases ha with
  | no _=>cases hg
  | @yes ad hk =>
   have t:=c.t
   have hpv:r.any=.tup [.int y.d.num,.tup [.int sp.nf,.int sp.p,.int (-1),.int y.d.a.a,.int sp.port],.int zone,.int (now+sp.span)]:=by rw [hany,hg,t.num,t.a]; rfl
   have ob:=o.swap
   rw [cellsW_is] at ob
   walk_at "g"
   refine subS hr (show _=some (.tup [.int y.d.num,.tup [.int sp.nf,.int sp.p,.int (-1),.int y.d.a.a,.int sp.port],.int zone,.int (now+sp.span)]) by rw [←hpv]; rfl) ?_
   walk_at "g"
   refine subS hr (show _=some (.tup [.int y.d.num,.tup [.int sp.nf,.int sp.p,.int (-1),.int y.d.a.a,.int sp.port],.int zone,.int (now+sp.span)]) by rw [←hpv]; rfl) ?_
   walk_at "g"
   refine getI hC (b_ba ob) (b_bd ob) rfl rfl rfl ?_
   walk_at "g"
   refine methL (b_xl ob) rfl ?_
   have mk:=t_mkExpect hC (m:=.int y.d.num) (t:=.tup [.int sp.nf,.int sp.p,.int (-1),.int y.d.a.a,.int sp.port]) (z:=.int zone) (u:=.int (now+sp.span)) ob
   walk_at "g"
   refine up mk rfl fun v H2 h=>?_
   obtain ⟨ad',dx,rfl,o2⟩:=h
   have o2:Own H2 (BE.cells ⟨ad',dx,anyB y.d sp zone now⟩++(b.cellsW b.tab b.ids b.xs++(s.cells++((da,.list [seen,.ref rs,.none])::F)))):=o2
   have o3:=own_addE (x:=⟨ad',dx,anyB y.d sp zone now⟩) o2
   have hxl:=b_xl o3
   walk_at "g"
   refine c_append hxl (xs_len c.sim.inv) ?_
   have o4:=b_setXs o3 (b.xs++[.ref ad'])
   have c':=sim_any (s:=sp) (now:=now) (ad:=ad) (ad':=ad') (dx:=dx) c h9
   have o5:Own (H2.set b.xl (.list (b.xs++[.ref ad']))) ((b.addE ⟨ad',dx,anyB y.d sp zone now⟩).cells++(s.cells++((da,.list [seen,.ref rs,.none])::F))):=by
    rw [cellsW_is,addE_xs rfl]
    exact o4
   walk_at "g"
   exact (t_do9 hC c' o5.swap hs ht hra).looks (subF_is rfl)
 | _ =>
  rw [hany] at ha
  generalize hg:r.any=any at ha
  cases ha
end
section
theorem own_put3 {H:GHeap}{A B F:List Cell}{c:Cell}{a:Addr}{g g':GObj}(o:Own H (A++(B++(c::(a,g)::F)))):Own (H.set a g') (A++(B++(c::(a,g')::F))):=by
 have e:∀g,A++(B++(c::(a,g)::F))=(A++(B++[c]))++((a,g)::F):=fun g=>by simp
 rw [e] at o ⊢
 exact o.putF
variable {C:Cfg}(hC:CK C) {H:GHeap}{F:List Cell}
include hC
theorem t_do7 {w w1 w2:Wd}{b:Bk}{i:Nat}{x:WT}{y:BT'}{zone:Int}{s:Sc}{sp:Spec}{specs:List Spec}{res:List PV}{r:RowD}{ra da rs:Addr}{seen:PV}(c:Cur w b i x y zone) (h9:w.exps.length+specs.length<900) (he:ExpsW x.d s.isReply s.now specs w res w1) (ha:AnyW w1 x.d r.kind sp zone s.now r.any w2)
  (hw:s.isReply=0∨s.isReply=1) (o:Own H (s.cells++(b.cells++((da,.list [seen,.ref rs,.none])::(rs,.list [])::F)))) (hs:s.talks=.ref b.ba) (ht:s.talk=.ref y.ad) (hra:(ra,.sdict r.kv)∈F) (hsa:(r.sa,.list (specs.map Spec.pv))∈F) (hsl:specs.length≤2) :
  ExOk C 6 (scOf (stAt 83)) ((bodyOf (stAt 83)).drop 7) [("row",.ref ra),("scene",.ref s.ad),("book",.ref b.ba),("told",.ref da)] H
   fun fl _ H'=>flv fl=.ref da∧∃b',Sim (finW w2 i x r.kind r.kept) b'∧b'.ba=b.ba∧Own H' (b'.cells++((da,.list [seen,.ref rs,.none])::(rs,.list res)::F)):=by
 have mem:∀{c:Cell},c∈F→∀{H':GHeap}{b':Bk}{l:List PV},Own H' (s.cells++(b'.cells++((da,.list [seen,.ref rs,.none])::(rs,.list l)::F)))→H' c.1=some c.2:=fun hc _ _ _ o'=>o'.at_ _ (List.mem_append_right _ (List.mem_append_right _ (.tail _ (.tail _ hc))))
 refine byP fun PG kG=>?_
 obtain ⟨f,f0,fl,hres,hstep⟩:=exps_at he
 refine kG ?_
 have flen:∀j,j≤specs.length→(f j).exps.length≤w.exps.length+j:=fun j=>by
  induction j with
  | zero=>intro _; rw [f0]; exact Nat.le_refl _
  | succ j ih =>
   intro hj
   obtain ⟨v,_,h⟩:=hstep j _ (List.getElem?_eq_getElem hj)
   exact Nat.le_trans h.same.2 (Nat.succ_le_succ (ih (Nat.le_of_succ_le hj)))
 refine wp_ok (C:=C) (n:=6) (sc:=scOf (stAt 83)) hC.wok 300 (.exn 1 _ _ _ _) ?_
 walk_at "g"
 refine subS (mem hra o) rfl ?_
 walk_at "g"
 refine srcL (mem hsa o) (by rw [List.length_map]; exact Nat.le_trans hsl (by decide)) ?_
 refine for_st hC.wok (σ:=Unit) (fun _=>[("row",.ref ra),("scene",.ref s.ad),("book",.ref b.ba),("told",.ref da)]) (fun j _ H'=>∃b',Cur (f j) b' i x y zone∧b'.ba=b.ba∧Own H' (s.cells++(b'.cells++((da,.list [seen,.ref rs,.none])::(rs,.list (res.take j))::F)))) () rfl ⟨b,by rw [f0]; exact c,rfl,o⟩ (fun _ _ _ h=>?_) (fun j v _ H1 hv h=>?_) (fun _ H1 h=>?_)
 ·obtain ⟨b',_,_,o'⟩:=h
  exact .list (.inl (mem hsa o'))
 ·obtain ⟨b',c',hb,o1⟩:=h
  rw [List.getElem?_map] at hv
  refine byP fun PG kG=>?_
  obtain ⟨q,hq,rfl⟩:=Option.map_eq_some_iff.mp hv
  refine kG ?_
  have hj:=(List.getElem?_eq_some_iff.mp hq).1
  obtain ⟨u,hu,hE⟩:=hstep j q hq
  have hd1:H1 da=some (.list [seen,.ref rs,.none]):=o1.at_ (da,_) (List.mem_append_right _ (List.mem_append_right _ (.head _)))
  have ad:=t_add hC (sp:=q) o1 c'.sim.inv (by rw [hs,hb]) ht (List.mem_of_getElem? c'.hy) hw
  walk_at "g"
  refine subL (.inl hd1) (by decide) (by decide) rfl ?_
  walk_at "g"
  refine methL (o1.at_ (rs,_) (List.mem_append_right _ (List.mem_append_right _ (.tail _ (.head _))))) rfl ?_
  walk_at "g"
  refine up ad rfl fun v H2 h=>?_
  refine byP fun PG kG=>?_
  obtain ⟨b2,hB,o2⟩:=h
  have hf:=flen j (Nat.le_of_lt hj)
  obtain ⟨rfl,c2⟩:=sim_exp c' (by lia) hE hB
  refine kG ?_
  have hrs:H2 rs=some (.list (res.take j)):=o2.at_ (rs,_) (List.mem_append_right _ (List.mem_append_right _ (.tail _ (.head _))))
  walk_at "g"
  refine c_append hrs (by rw [List.length_take]; lia) ?_
  have o3:=own_put3 (g':=.list (res.take (j+1))) o2
  have et:res.take j++[v]=res.take (j+1):=by rw [List.take_add_one,hu]; rfl
  rw [et]
  walk_at "g"
  exact ⟨(),rfl,b2,c2,(add_ba hB).trans hb,o3⟩
 ·obtain ⟨b',c',hb,o1⟩:=h
  rw [List.length_map,←hres,List.take_length] at o1
  rw [List.length_map,fl] at c'
  have hf:=flen specs.length (Nat.le_refl _)
  rw [fl] at hf
  have z:=t_do8 hC (sp:=sp) (now:=s.now) (r:=r) (ra:=ra) (F:=(rs,.list res)::F) c' (by lia) ha o1 (by rw [hs,hb]) ht (.tail _ hra)
  rw [hb] at z
  walk_at "g"
  exact z.looks (subF_is rfl)
end
section
variable {C:Cfg}(hC:CK C) {H:GHeap}{F:List Cell}
include hC
theorem t_do6 {w w1 w2:Wd}{b:Bk}{i:Nat}{x:WT}{y:BT'}{zone number:Int}{m:Bool}{s:Sc}{sp:Spec}{specs:List Spec}{res:List PV}{r:RowD}{ra da rs:Addr}{seen:PV}(c:Cur w b i x y zone) (h9:w.exps.length+specs.length<900) (hm:r.mark=if m=true then 1000+number else -1) (hn:0≤number)
  (he:ExpsW (if m=true then x.marked (1000+number) else x).d s.isReply s.now specs (if m=true then w.setT i (x.marked (1000+number)) else w) res w1) (ha:AnyW w1 (if m=true then x.marked (1000+number) else x).d r.kind sp zone s.now r.any w2)
  (hw:s.isReply=0∨s.isReply=1) (o:Own H (s.cells++(b.cells++((da,.list [seen,.ref rs,.none])::(rs,.list [])::F)))) (hs:s.talks=.ref b.ba) (ht:s.talk=.ref y.ad) (hra:(ra,.sdict r.kv)∈F) (hsa:(r.sa,.list (specs.map Spec.pv))∈F) (hsl:specs.length≤2) :
  ExOk C 6 (scOf (stAt 83)) ((bodyOf (stAt 83)).drop 6) [("row",.ref ra),("scene",.ref s.ad),("book",.ref b.ba),("told",.ref da)] H
   fun fl _ H'=>flv fl=.ref da∧∃b',Sim (finW w2 i (if m=true then x.marked (1000+number) else x) r.kind r.kept) b'∧b'.ba=b.ba∧Own H' (b'.cells++((da,.list [seen,.ref rs,.none])::(rs,.list res)::F)):=by
 have i0:=o.at_ (s.ad,.inst 408 s.dx) (.head _)
 have d0:=o.at_ (s.dx,.sdict s.kv) (.tail _ (.head _))
 have hr:=o.at_ (ra,.sdict r.kv) (List.mem_append_right _ (List.mem_append_right _ (.tail _ (.tail _ hra))))
 refine wp_ok (C:=C) (n:=6) (sc:=scOf (stAt 83)) hC.wok 300 (.exn 1 _ _ _ _) ?_
 induction m using Bool.casesOn with
 | true =>
  rw [if_pos rfl] at hm he ha ⊢
  rw [if_pos rfl] at he
  have c':=c.mark (1000+number)
  have ob:=o.swap
  have hi:=b_i ob (List.mem_of_getElem? c.hy)
  have hd:=b_d ob (List.mem_of_getElem? c.hy)
  walk_at "g"
  refine subS hr rfl ?_
  walk_at "g"
  refine And.intro (fun h1=>?_) (fun h1=>absurd (show 0≤r.mark by rw [hm]; lia) h1)
  walk_at "g"
  refine subS hr rfl ?_
  walk_at "g"
  refine getI hC i0 d0 rfl (show _=some (.ref y.ad) by rw [←ht]; rfl) rfl ?_
  walk_at "g"
  refine putI hC hi hd rfl (kvs':=(y.markAt r.mark).kv) rfl rfl ?_
  have o2:=b_set (x':=y.markAt r.mark) ob c.hy ⟨rfl,rfl,rfl,rfl,rfl,rfl,rfl⟩
  rw [hm] at o2 ⊢
  walk_at "g"
  exact (t_do7 hC c' h9 he ha hw o2.swap hs ht hra hsa hsl).looks (subF_is rfl)
 | false =>
  rw [if_neg Bool.false_ne_true] at hm he ha ⊢
  rw [if_neg Bool.false_ne_true] at he
  walk_at "g"
  refine subS hr rfl ?_
  walk_at "g"
  refine And.intro (fun h1=>absurd h1 (show ¬0≤r.mark by rw [hm]; decide)) (fun h1=>?_)
  walk_at "g"
  exact (t_do7 hC c h9 he ha hw o hs ht hra hsa hsl).looks (subF_is rfl)
theorem t_doNone {b:Bk}{s:Sc}{specs:List Spec}{r:RowD}{ra da rs:Addr}{seen:PV}(hm:r.mark=-1) (hany:r.any=.none) (o:Own H (s.cells++(b.cells++((da,.list [seen,.ref rs,.none])::(rs,.list [])::F)))) (hs:s.talks=.ref b.ba) (ht:s.talk=.none) (hra:(ra,.sdict r.kv)∈F) (hsa:(r.sa,.list (specs.map Spec.pv))∈F) (hsl:specs.length≤2) :
  ExOk C 6 (scOf (stAt 83)) ((bodyOf (stAt 83)).drop 6) [("row",.ref ra),("scene",.ref s.ad),("book",.ref b.ba),("told",.ref da)] H
   fun fl _ H'=>flv fl=.ref da∧Own H' (b.cells++((da,.list [seen,.ref rs,.none])::(rs,.list (specs.map fun _=>brkPV))::F)):=by
 have mem:∀{c:Cell},c∈F→∀{H':GHeap}{l:List PV},Own H' (s.cells++(b.cells++((da,.list [seen,.ref rs,.none])::(rs,.list l)::F)))→H' c.1=some c.2:=fun hc _ _ o'=>o'.at_ _ (List.mem_append_right _ (List.mem_append_right _ (.tail _ (.tail _ hc))))
 have hs0:∀{H':GHeap}{l:List PV},Own H' (s.cells++(b.cells++((da,.list [seen,.ref rs,.none])::(rs,.list l)::F)))→H' s.ad=some (.inst 408 s.dx)∧H' s.dx=some (.sdict s.kv):=fun o'=>⟨o'.at_ (s.ad,.inst 408 s.dx) (.head _),o'.at_ (s.dx,.sdict s.kv) (.tail _ (.head _))⟩
 have tail:∀{H1:GHeap},Own H1 (s.cells++(b.cells++((da,.list [seen,.ref rs,.none])::(rs,.list (specs.map fun _=>brkPV))::F)))→ExOk C 6 (scOf (stAt 83)) ((bodyOf (stAt 83)).drop 10) [("row",.ref ra),("scene",.ref s.ad),("book",.ref b.ba),("told",.ref da)] H1 fun fl _ H'=>flv fl=.ref da∧Own H' (b.cells++((da,.list [seen,.ref rs,.none])::(rs,.list (specs.map fun _=>brkPV))::F)):=fun {H1} o1=>by
  refine wp_ok (C:=C) (n:=6) (sc:=scOf (stAt 83)) hC.wok 300 (.ex _ _ _ _) ?_
  walk_at "g"
  refine subS (mem hra o1) rfl ?_
  walk_at "g"
  refine And.intro (fun h1=>?_) (fun h1=>?_)
  ·walk_at "g"
   refine getI hC (hs0 o1).1 (hs0 o1).2 rfl (show _=some .none by rw [←ht]; rfl) rfl ?_
   walk_at "g"
   exact ⟨rfl,o1.right⟩
  ·walk_at "g"
   exact ⟨rfl,o1.right⟩
 refine wp_ok (C:=C) (n:=6) (sc:=scOf (stAt 83)) hC.wok 300 (.exn 4 _ _ _ _) ?_
 walk_at "g"
 refine subS (mem hra o) rfl ?_
 walk_at "g"
 refine And.intro (fun h1=>absurd h1 (show ¬0≤r.mark by rw [hm]; decide)) (fun h1=>?_)
 walk_at "g"
 refine subS (mem hra o) rfl ?_
 walk_at "g"
 refine srcL (mem hsa o) (by rw [List.length_map]; exact Nat.le_trans hsl (by decide)) ?_
 refine for_st hC.wok (σ:=Unit) (fun _=>[("row",.ref ra),("scene",.ref s.ad),("book",.ref b.ba),("told",.ref da)]) (fun j _ H'=>Own H' (s.cells++(b.cells++((da,.list [seen,.ref rs,.none])::(rs,.list ((specs.take j).map fun _=>brkPV))::F)))) () rfl o (fun _ _ _ h=>.list (.inl (mem hsa h))) (fun j v _ H1 hv o1=>?_) (fun _ H1 o1=>?_)
 ·rw [List.getElem?_map] at hv
  obtain ⟨q,hq,rfl⟩:=Option.map_eq_some_iff.mp hv
  have hd1:H1 da=some (.list [seen,.ref rs,.none]):=o1.at_ (da,_) (List.mem_append_right _ (List.mem_append_right _ (.head _)))
  have hrs:H1 rs=some (.list ((specs.take j).map fun _=>brkPV)):=o1.at_ (rs,_) (List.mem_append_right _ (List.mem_append_right _ (.tail _ (.head _))))
  have ad:=t_addNone hC (sp:=q) o1 ht (by rw [hs]; rfl)
  walk_at "g"
  refine subL (.inl hd1) (by decide) (by decide) rfl ?_
  walk_at "g"
  refine methL hrs rfl ?_
  walk_at "g"
  refine up ad rfl fun v H2 h=>?_
  obtain ⟨rfl,rfl⟩:=h
  walk_at "g"
  refine c_append hrs (by rw [List.length_map,List.length_take]; lia) ?_
  have o3:=own_put3 (g':=.list ((specs.take (j+1)).map fun _=>brkPV)) o1
  have et:((specs.take j).map fun _=>brkPV)++[brkPV]=(specs.take (j+1)).map fun _=>brkPV:=by rw [List.take_add_one,hq,List.map_append]; rfl
  rw [et]
  walk_at "g"
  exact ⟨(),rfl,o3⟩
 ·rw [List.length_map,List.take_length] at o1
  walk_at "g"
  refine subS (mem hra o1) (show _=some .none by rw [←hany]; rfl) ?_
  walk_at "g"
  refine subS (mem hra o1) rfl ?_
  walk_at "g"
  refine And.intro (fun h1=>?_) (fun h1=>?_)
  ·have cn:=t_confNone hC o1 hs ht
   have hd1:H1 da=some (.list [seen,.ref rs,.none]):=o1.at_ (da,_) (List.mem_append_right _ (List.mem_append_right _ (.head _)))
   walk_at "g"
   refine up cn rfl fun v H2 h=>?_
   obtain ⟨rfl,rfl⟩:=h
   walk_at "g"
   refine si_list hd1 (by decide) (by show (2:Int)<3; decide) (Nat.le_of_ble_eq_true rfl) ?_
   rw [←List.append_assoc] at o1
   have o2:=o1.putF (g':=.list [seen,.ref rs,.none])
   rw [List.append_assoc] at o2
   walk_at "g"
   exact (tail o2).looks (subF_is rfl)
  ·walk_at "g"
   exact (tail o1).looks (subF_is rfl)
end
section
theorem own_new3 {H:GHeap}{A B F:List Cell}{a:Addr}{g:GObj}(o:Own H (A++(B++F))) (e:H a=none):Own (H.set a g) (A++(B++((a,g)::F))):=by
 rw [←List.append_assoc] at o ⊢
 exact o.newF e
theorem meet_way {w w1:Wd}{zone now way st:Int}{wire:Wire}{x:WT}{nw:Bool}(h:MeetW w zone wire now x way nw st w1):way=0∨way=1:=by
 cases h with
 | new _ _=>exact .inl rfl
 | hit _ _ _ h=>rw [h]; split; exact .inl rfl; exact .inr rfl
theorem meet_len {w w1:Wd}{zone now way st:Int}{wire:Wire}{x:WT}{nw:Bool}(h:MeetW w zone wire now x way nw st w1):w1.exps.length=w.exps.length:=by
 cases h with
 | hit _ _ _ _=>rfl
 | new hf hn =>
  have e1:∀{w0:Wd},FoundW w zone wire.key now .none w0→w0.exps.length=w.exps.length:=fun hf=>by
   cases hf with
   | none _=>rfl
   | old _ _ _=>show (w.exps.map _).length=_; rw [List.length_map]
  rw [←e1 hf]
  cases hn with
  | plain _=>rfl
  | rel he _ _=>rw [he]; show (_++_::_).length=_; simp
noncomputable def DoQ (w':Wd) (ba:Addr) (seen:PV) (res:List PV) (F:List Cell):QT:=fun fl _ H'=>∃da rs b',flv fl=.ref da∧Sim w' b'∧b'.ba=ba∧Own H' (b'.cells++((da,.list [seen,.ref rs,.none])::(rs,.list res)::F))
noncomputable abbrev Ev.pc (e:Ev):Int:=if e.d6=7 then 3 else 0
structure DoIn (w:Wd) (b:Bk) (s:Sc) (p:Pk) (e:Ev) (mk:Int) (any:PV) (ra sa:Addr) (H:GHeap) (F:List Cell):Prop where
 S:Sim w b
 E:EvOk' e
 hn:0≤e.number
 hpk:s.packet=.ref p.ad
 hnow:s.now=e.now
 htk:s.talk=.none
 h9:w.exps.length≤800
 hl:b.talks.length<60
 o:Own H (s.cells++(b.cells++((p.looked e.wire e.pc).cells++F)))
 hoct:p.oct=octL e.wire e.pc
 hra:(ra,.sdict (e.row mk sa any).kv)∈F
 hsa:(sa,.list (e.specs.map Spec.pv))∈F
noncomputable def Sc.begun (s:Sc) (ba:Addr) (st:Int):Sc:={s with talks:=.ref ba,state:=st,isReply:=1}
noncomputable abbrev DoE (C:Cfg) (k:Nat) (fr:Vars) (H:GHeap) (Q:QT):Prop:=ExOk C 6 (scOf (stAt 83)) ((bodyOf (stAt 83)).drop k) fr H Q
noncomputable abbrev fr5 (s ba ra:Addr):Vars:=[("scene",.ref s),("book",.ref ba),("row",.ref ra),("verdict",.none)]
noncomputable abbrev fr6 (s ba ra da:Addr):Vars:=[("row",.ref ra),("scene",.ref s),("book",.ref ba),("told",.ref da)]
theorem dropP {H5:GHeap}{b2:Bk}{L F:List Cell}{c1 c2:Cell}(o5:Own H5 (b2.cells++(c1::c2::(L++F)))):Own H5 (b2.cells++(c1::c2::F)):=o5.sub (List.Sublist.append_left (List.Sublist.cons_cons _ (List.Sublist.cons_cons _ (List.sublist_append_right _ _))) _)
theorem seenB_none {s:Sc}{ba:Addr}{st:Int}:seenB (s.begun ba st) none=.tup [.none,.int st,.int 1]:=rfl
section
variable {C:Cfg}(hC:CK C) {H:GHeap}{F:List Cell}{Q:QT}
include hC
theorem do_pre {w:Wd}{b:Bk}{s:Sc}{p:Pk}{e:Ev}{mk:Int}{any:PV}{ra sa:Addr}(D:DoIn w b s p e mk any ra sa H F)
  (k:∀b' s' H4,TrackB b (s.begun b.ba (e.row mk sa any).state) e.zone e.wire e.pc b' s'→Own H4 (s'.cells++(b'.cells++((p.looked e.wire e.pc).cells++F)))→DoE C 5 (fr5 s.ad b.ba ra) H4 Q) :
  DoE C 1 [("scene",.ref s.ad),("book",.ref b.ba),("row",.ref ra)] H Q:=by
 have o:=D.o
 have hrF:∀{H':GHeap}{s':Sc}{b':Bk},Own H' (s'.cells++(b'.cells++((p.looked e.wire e.pc).cells++F)))→H' ra=some (.sdict (e.row mk sa any).kv):=fun o'=>o'.at_ (ra,_) (List.mem_append_right _ (List.mem_append_right _ (List.mem_append_right _ D.hra)))
 refine wp_ok (C:=C) (n:=6) (sc:=scOf (stAt 83)) hC.wok 300 (.exn 4 _ _ _ _) ?_
 walk_at "g"
 refine Own.putN o hC rfl (kvs':=Sc.kv {s with talks:=.ref b.ba}) rfl rfl fun H (o:Own _ (({s with talks:=.ref b.ba}:Sc).cells++(b.cells++((p.looked e.wire e.pc).cells++F))))=>?_
 walk_at "g"
 refine subS (hrF o) rfl ?_
 walk_at "g"
 refine Own.putN o hC rfl (kvs':=Sc.kv {s with talks:=.ref b.ba,state:=(e.row mk sa any).state}) rfl rfl fun H (o:Own _ (({s with talks:=.ref b.ba,state:=(e.row mk sa any).state}:Sc).cells++(b.cells++((p.looked e.wire e.pc).cells++F))))=>?_
 walk_at "g"
 refine Own.putN o hC rfl (kvs':=Sc.kv (s.begun b.ba (e.row mk sa any).state)) rfl rfl fun H (o:Own _ ((s.begun b.ba (e.row mk sa any).state).cells++(b.cells++((p.looked e.wire e.pc).cells++F))))=>?_
 have hpc:e.pc=0∨e.pc=3:=by
  by_cases h:e.d6=7
  ·exact .inr (if_pos h)
  ·exact .inl (if_neg h)
 have tr:=t_track hC (zone:=e.zone) o D.S.inv rfl D.E.wire hpc D.hoct D.hpk D.hl D.S.bk
 walk_at "g"
 refine subS (hrF o) rfl ?_
 walk_at "g"
 refine up tr rfl fun v H4 h=>?_
 obtain ⟨rfl,b',s',hT,o4⟩:=h
 walk_at "g"
 exact ExOk.looks (fr':=fr5 s.ad b.ba ra) (k b' s' H4 hT o4) (subF_is rfl)
theorem do_tail {b':Bk}{s':Sc}{ad ba ra:Addr}{x:Option BT'}(o:Own H (s'.cells++(b'.cells++F))) (hx:∀y,x=some y→y∈b'.talks) (ht:s'.talk=talkPV x) (had:s'.ad=ad) (hba:b'.ba=ba)
  (k:∀H5 da rs,Own H5 (s'.cells++(b'.cells++((da,.list [seenB s' x,.ref rs,.none])::(rs,.list [])::F)))→DoE C 6 (fr6 s'.ad b'.ba ra da) H5 Q):DoE C 5 (fr5 ad ba ra) H Q:=by
 refine wp_ok (C:=C) (n:=6) (sc:=scOf (stAt 83)) hC.wok 300 (.exn 1 _ _ _ _) ?_
 have ts:=t_seen hC o hx ht
 rw [had] at ts
 walk_at "g"
 refine up ts rfl fun v H5 h=>?_
 obtain ⟨rfl,rfl⟩:=h
 walk_at "g"
 intro rs hrs
 have o:=own_new3 (g:=.list []) o hrs
 walk_at "g"
 intro da hda
 have o:=own_new3 (g:=.list [seenB s' x,.ref rs,.none]) o hda
 walk_at "g"
 have z:=k _ da rs o
 rw [had,hba] at z
 exact z.looks (subF_is rfl)
theorem do_none {w:Wd}{b:Bk}{s s':Sc}{p:Pk}{e:Ev}{ra sa:Addr}{seen:PV}(D:DoIn w b s p e (-1) .none ra sa H F) (hs:seenB s' none=seen) (ht:s'.talk=.none) (had:s'.ad=s.ad) (hts:s'.talks=.ref b.ba) {H4:GHeap}
  (o4:Own H4 (s'.cells++(b.cells++((p.looked e.wire e.pc).cells++F)))):DoE C 5 (fr5 s.ad b.ba ra) H4 (DoQ (w.addW (e.zone,e.wire)) b.ba seen (e.specs.map fun _=>brkPV) F):=by
 subst hs
 exact do_tail hC (x:=none) o4 (fun _ h=>nomatch h) ht had rfl fun H5 da rs o5 =>
  (t_doNone hC (r:=e.row (-1) sa .none) rfl rfl o5 hts ht (List.mem_append_right _ D.hra) (List.mem_append_right _ D.hsa) D.E.sl).mono fun fl _ H' h=>⟨da,rs,b,h.1,D.S.addW _,rfl,dropP h.2⟩
theorem do_six {w:Wd}{b:Bk}{s:Sc}{p:Pk}{e:Ev}{ra sa:Addr}(D:DoIn w b s p e (-1) .none ra sa H F) (h6:e.d6=6):DoE C 1 [("scene",.ref s.ad),("book",.ref b.ba),("row",.ref ra)] H (DoQ (w.addW (e.zone,e.wire)) b.ba (.tup [.none,.int 64,.int 1]) (e.specs.map fun _=>brkPV) F) :=
 do_pre hC D fun b' s' H4 hT o4=>by
  have hst:(e.row (-1) sa .none).state=64:=if_pos h6
  cases hT with
  | keep _=>exact do_none hC D (seenB_none.trans (by rw [hst])) D.htk rfl rfl o4
  | none h _=>exact absurd hst h
  | some h _ _=>exact absurd hst h
theorem do_seven {w:Wd}{b:Bk}{s:Sc}{p:Pk}{e:Ev}{ra sa:Addr}(D:DoIn w b s p e (-1) .none ra sa H F) (h7:e.d6=7):DoE C 1 [("scene",.ref s.ad),("book",.ref b.ba),("row",.ref ra)] H (DoQ (w.addW (e.zone,e.wire)) b.ba (.tup [.none,.int 1,.int 0]) (e.specs.map fun _=>brkPV) F) :=
 do_pre hC D fun b' s' H4 hT o4=>by
  have hne:¬(e.row (-1) sa .none).state=64:=by
   show ¬(if e.d6=6 then 64 else 8:Int)=64
   rw [if_neg (by rw [h7]; decide)]; decide
  cases hT with
  | keep h=>exact absurd h hne
  | some _ h _=>rw [show e.pc=3 from if_pos h7] at h; cases h
  | none _ _=>exact do_none hC D (s':=(s.begun b.ba (e.row (-1) sa .none).state).put .none 1 0) rfl rfl rfl rfl o4
theorem do_meet {w w1 w2 w3:Wd}{b:Bk}{s:Sc}{p:Pk}{e:Ev}{i:Nat}{x:WT}{way st:Int}{nw:Bool}{res:List PV}{any:PV}{ra sa:Addr}(D:DoIn w b s p e (if (nw&&e.isMark)=true then 1000+e.number else -1) any ra sa H F) (h6:e.d6<6)
  (hm:MeetW (w.addW (e.zone,e.wire)) e.zone e.wire e.now x way nw st w1) (hx:w1.talks[i]?=some x)
  (he:ExpsW (if (nw&&e.isMark)=true then x.marked (1000+e.number) else x).d way e.now e.specs (if (nw&&e.isMark)=true then w1.setT i (x.marked (1000+e.number)) else w1) res w2)
  (ha:AnyW w2 (if (nw&&e.isMark)=true then x.marked (1000+e.number) else x).d e.kind e.s e.zone e.now any w3) :
  DoE C 1 [("scene",.ref s.ad),("book",.ref b.ba),("row",.ref ra)] H (DoQ (finW w3 i (if (nw&&e.isMark)=true then x.marked (1000+e.number) else x) e.kind e.kept) b.ba (seenPV x.d st way e.zone) res F) :=
 do_pre hC D fun b' s' H4 hT o4=>by
  have hb:BringB b (s.begun b.ba (e.row (if (nw&&e.isMark)=true then 1000+e.number else -1) sa any).state) e.zone e.wire.key b' s':=by
   cases hT with
   | keep h =>
    have h:(if e.d6=6 then 64 else 8:Int)=64:=h
    rw [if_neg (Int.ne_of_lt h6)] at h; cases h
   | none _ h=>exact absurd (if_neg (by lia)) h
   | some _ _ hb=>exact hb
  clear hT
  have hnow':(s.begun b.ba (e.row (if (nw&&e.isMark)=true then 1000+e.number else -1) sa any).state).now=e.now:=D.hnow
  refine byP fun PG kG=>?_
  obtain ⟨j,y,c,rfl,hnw⟩:=sim_meet (D.S.addW (e.zone,e.wire)) D.E.wire D.hl (hnow'▸hm) hb
  have hij:j=i:=by
   have h1:=c.sim.num i x hx
   have h2:=c.sim.num j x c.hx
   lia
  subst hij
  refine kG ?_
  refine do_tail hC (x:=some y) o4 (fun z hz=>Option.some.inj hz▸List.mem_of_getElem? c.hy) rfl rfl (bring_ba hb) fun H5 da rs o5=>?_
  rw [seen_eq c.t c.live c.zone] at o5
  have z:=t_do6 hC (m:=nw&&e.isMark) (number:=e.number) (sp:=e.s) (r:=e.row (if (nw&&e.isMark)=true then 1000+e.number else -1) sa any) (ra:=ra) c (by rw [meet_len hm]; exact Nat.lt_of_le_of_lt (Nat.add_le_add D.h9 D.E.sl) (by decide)) rfl D.hn (hnow'.symm▸he) (hnow'.symm▸ha) (meet_way hm) o5 (congrArg PV.ref (bring_ba hb).symm) rfl (List.mem_append_right _ D.hra) (List.mem_append_right _ D.hsa) D.E.sl
  exact z.mono fun fl _ H' h=>h.2.elim fun b2 g=>⟨da,rs,b2,h.1,g.1,g.2.1.trans (bring_ba hb),dropP g.2.2⟩
theorem t_do1 {w w':Wd}{e:Ev}{seen any:PV}{res:List PV}{mk:Int}(T:StepW w e seen res mk any w'):∀{b:Bk}{s:Sc}{p:Pk}{ra sa:Addr},DoIn w b s p e mk any ra sa H F→DoE C 1 [("scene",.ref s.ad),("book",.ref b.ba),("row",.ref ra)] H (DoQ w' b.ba seen res F):=by
 cases T with
 | six h6=>exact fun D=>do_six hC D h6
 | seven h7=>exact fun D=>do_seven hC D h7
 | meet h6 hm hx he ha=>exact fun D=>do_meet hC D h6 hm hx he ha
end
end
section
variable {C:Cfg}(hC:CK C) {H:GHeap}{F:List Cell}
include hC
omit hC in
theorem CallN.mono {n:Nat}{f:PV}{args:List PV}{Q Q':PV→GHeap→Prop}(h:CallN C n f args H Q) (q:∀v H',Q v H'→Q' v H'):CallN C n f args H Q':=⟨fun A kp s v vs hA S a b=>wpN_mono (h.run A kp s v vs hA S a b) fun u s' ⟨x,H1,S1,t1,q1⟩=>⟨x,H1,S1,t1,q x H1 q1⟩⟩
theorem t_do {w w':Wd}{b:Bk}{e:Ev}{seen any:PV}{res:List PV}{mk:Int}{ra sa:Addr}(S:Sim w b) (E:EvOk' e) (T:StepW w e seen res mk any w') (hn:0≤e.number) (h9:w.exps.length≤800) (hl:b.talks.length<60)
  (o:Own H (b.cells++F)) (hra:(ra,.sdict (e.row mk sa any).kv)∈F) (hsa:(sa,.list (e.specs.map Spec.pv))∈F) :
  CallN C 7 (.ref 545) [.ref b.ba,.ref ra] H (fun v H'=>∃da rs b',v=.ref da∧Sim w' b'∧b'.ba=b.ba∧Own H' (b'.cells++((da,.list [seen,.ref rs,.none])::(rs,.list res)::F))):=by
 have hpc:(if e.d6=7 then 3 else 0:Int)=0∨(if e.d6=7 then 3 else 0:Int)=3:=by split<;>simp
 have hr:=o.at_ (ra,.sdict (e.row mk sa any).kv) (List.mem_append_right _ hra)
 refine CodeN.call ?_
 refine fn_codeN hC (stAt 83) (n:=6) (dv:=[]) (dx:=[]) (fr:=[("book",.ref b.ba),("row",.ref ra)]) rfl rfl rfl (by kernel_rfl) (fun s X v0 v1=>BindsTo.of_eq (by kernel_rfl)) (fun _=>.nil) ?_
 have W:∀j,wp C 6 (scOf (stAt 83)) 300 j→j.Ok C 6 (scOf (stAt 83)):=wp_ok hC.wok 300
 refine exN_cons (stN_assign (evN_call (W (.ev _ _ _ _) ?_) (by with_unfolding_all rfl) (by with_unfolding_all rfl)) (by with_unfolding_all rfl) (fun _=>by with_unfolding_all rfl) (fun _=>by with_unfolding_all rfl))
 walk_at "g"
 refine ⟨fnKnown_is hC.wok rfl,evsN_cons (evN_call (W (.ev _ _ _ _) ?_) (by with_unfolding_all rfl) (by with_unfolding_all rfl)) (by with_unfolding_all rfl)⟩
 walk_at "g"
 refine ⟨fnKnown_is hC.wok rfl,evsN_cons (EvOk.calm (W (.ev _ _ _ _) ?_)) (by with_unfolding_all rfl)⟩
 walk_at "g"
 refine subS hr rfl ?_
 refine W (.evs _ _ _ _) ?_
 walk_at "g"
 refine CallN.mono ((t_packet hC o E.wire hpc).le (by decide)) fun v H1 h=>?_
 refine byP fun PG kG=>?_
 obtain ⟨p,rfl,hoct,o1⟩:=h
 refine kG ?_
 refine W (.evs _ _ _ _) ?_
 walk_at "g"
 refine ev_dict0 (g:=.sdict []) (.inl rfl) fun fa hfa=>?_
 have o2:Own (H1.set fa (.sdict [])) ((p.looked e.wire (if e.d6=7 then 3 else 0)).cells++(b.cells++F)):=o1.gr (Gr.new hfa)
 have hr2:=o2.at_ (ra,.sdict (e.row mk sa any).kv) (List.mem_append_right _ (List.mem_append_right _ hra))
 walk_at "g"
 refine subS hr2 rfl ?_
 walk_at "g"
 refine CallOk.calm (CallOk.le (CodeOk.call (call_class (n:=1) (makeable hC (p:=(408,405)) (.tail _ (.tail _ (.tail _ (.tail _ (.head _)))))) fun x dx h1 h2=>?_)) (by decide))
 refine CodeOk.mono (i_scene hC (o2.mk2 h1 h2)) fun v H3 h=>?_
 refine byP fun PG kG=>?_
 obtain ⟨rfl,s,rfl,rfl,hpk,hnow,htk,_,_,_,_,o3⟩:=h
 refine kG ?_
 refine ⟨rfl,?_⟩
 refine W (.as _ _ _ _ _) ?_
 walk_at "g"
 have o4:Own H3 (s.cells++(b.cells++((p.looked e.wire (if e.d6=7 then 3 else 0)).cells++F))):=o3.perm (List.Perm.append_left _ (by
  rw [←List.append_assoc,←List.append_assoc]
  exact List.perm_append_comm.append_right _))
 exact ((t_do1 hC T ⟨S,E,hn,hpk,hnow,htk,h9,hl,o4,hoct,hra,hsa⟩).looks (subF_is (by exact rfl))).calm
end
theorem pair_lists {α β γ:Type}{p:α→Bool}{q:β→Bool}{f:α→γ}{g:β→γ}:∀{l:List α}{m:List β},l.length=m.length→(∀(i:Nat) x y,l[i]?=some x→m[i]?=some y→p x=q y∧(p x=true→f x=g y))→(l.filter p).map f=(m.filter q).map g
 | [],[],_,_=>rfl
 | x::l,y::m,hl,h=>by
  have h0:=h 0 x y rfl rfl
  have ih:=pair_lists (p:=p) (q:=q) (f:=f) (g:=g) (Nat.succ.inj hl) fun i=>h (i+1)
  rw [List.filter_cons,List.filter_cons]
  cases hp:p x with
  | true=>rw [←h0.1,hp,if_pos rfl,if_pos rfl,List.map_cons,List.map_cons,h0.2 hp,ih]
  | false=>rw [←h0.1,hp,if_neg Bool.false_ne_true,if_neg Bool.false_ne_true,ih]
theorem Sim.trs {w:Wd}{b:Bk}(S:Sim w b):w.trs=b.trs:=by
 unfold Wd.trs Bk.trs
 rw [List.flatMap_def,List.flatMap_def]
 congr 1
 refine pair_lists S.len.symm fun i x y hx hy=>?_
 have t:=S.t i x y hx hy
 refine ⟨t.isIn.symm,fun _=>?_⟩
 unfold wTrs
 rw [t.zone,t.a,t.b,t.num]
theorem Sim.rows {w:Wd}{b:Bk}(S:Sim w b):(w.talks.filter (·.d.isIn)).map wRow=(b.talks.filter (·.d.isIn)).map tRow:=by
 refine pair_lists S.len.symm fun i x y hx hy=>?_
 have t:=S.t i x y hx hy
 refine ⟨t.isIn.symm,fun h=>?_⟩
 have l:=t.live h
 unfold wRow tRow
 rw [t.num,l.status,t.mark,l.til]
theorem Sim.erows {w:Wd}{b:Bk}(S:Sim w b):(w.exps.filter (!·.d.gone)).map weRow=(b.exps.filter (!·.d.gone)).map eRow:=by
 have hl:w.exps.length=b.exps.length:=by have:=congrArg List.length S.e; rw [List.length_map,List.length_map] at this; exact this.symm
 refine pair_lists hl fun i x y hx hy=>?_
 have e:y.d=x.d:=by
  have h1:(b.exps.map (·.d))[i]?=some y.d:=by rw [List.getElem?_map,hy]; rfl
  rw [S.e,List.getElem?_map,hx] at h1
  exact (Option.some.inj h1).symm
 refine ⟨by rw [e],fun _=>?_⟩
 unfold weRow eRow
 rw [e]
theorem Sim.asc {w:Wd}{b:Bk}(S:Sim w b):∀i,i+1<b.ids.length→¬(b.ids.map (·.1)).getD (i+1) 0<(b.ids.map (·.1)).getD i 0:=by
 have pw:(b.talks.map (·.d.num)).Pairwise (·<·):=by
  rw [List.pairwise_iff_getElem]
  intro i j hi hj hij
  rw [List.getElem_map,List.getElem_map]
  rw [List.length_map] at hi hj
  obtain ⟨x,hx,tx⟩:=S.both' (List.getElem?_eq_getElem hi)
  obtain ⟨z,hz,tz⟩:=S.both' (List.getElem?_eq_getElem hj)
  rw [tx.num,tz.num,S.num i x hx,S.num j z hz]
  exact Int.add_lt_add_right (Int.ofNat_lt.mpr hij) 1
 have pw2:(b.ids.map (·.1)).Pairwise (·<·):=by
  have e:b.ids.map (·.1)=(b.talks.filter (·.d.isIn)).map (·.d.num):=by unfold Bk.ids; rw [List.map_map]; rfl
  rw [e]
  exact pw.sublist (List.filter_sublist.map _)
 intro i hi h
 have hi2:i+1<(b.ids.map (·.1)).length:=by rw [List.length_map]; exact hi
 rw [List.getD_eq_getElem?_getD,List.getElem?_eq_getElem hi2,List.getD_eq_getElem?_getD,List.getElem?_eq_getElem (Nat.lt_of_succ_lt hi2)] at h
 have:=(List.pairwise_iff_getElem.mp pw2) i (i+1) (Nat.lt_of_succ_lt hi2) hi2 (Nat.lt_succ_self i)
 exact absurd h (Int.not_lt.mpr (Int.le_of_lt this))
structure WN (w:Wd) (n:Nat):Prop where
 tl:w.talks.length≤n
 el:w.exps.length≤3*n
 wl:w.wires.length≤n
 pk:∀x∈w.talks,x.d.pk≠[]∧x.d.pk.length≤n
 es:∀x∈w.exps,ExpOk x.d
 ws:∀x∈w.wires,(x.1=0∨x.1=1)∧WireOk x.2
 tw:∀x∈w.talks,(∃u,WireOk u∧x.d.a=u.key∧x.d.b=u.back.key)∧(x.d.zone=0∨x.d.zone=1)
theorem WN.ok {w:Wd}{n:Nat}(W:WN w n) (h:n≤30):WOk w∧WInv w:=by
 refine ⟨⟨⟨fun x hx=>(W.pk x hx).1,fun x hx=>?_,?_,?_⟩,fun x hx=>?_,?_,?_⟩,⟨W.es,W.ws,?_,?_⟩⟩
 ·exact Nat.le_trans (W.pk x hx).2 (Nat.le_trans h (by decide))
 ·exact Nat.le_trans W.tl (Nat.le_trans h (by decide))
 ·exact Nat.le_trans W.el (Nat.le_trans (Nat.mul_le_mul_left 3 h) (by decide))
 ·exact Nat.le_trans (W.pk x hx).2 (Nat.le_trans h (by decide))
 ·exact Nat.le_trans W.tl (Nat.le_trans h (by decide))
 ·exact Nat.le_trans W.el (Nat.le_trans (Nat.mul_le_mul_left 3 h) (by decide))
 ·exact Nat.le_trans W.el (Nat.le_trans (Nat.mul_le_mul_left 3 h) (by decide))
 ·exact Nat.le_trans W.wl (Nat.le_trans h (by decide))
structure WM (w:Wd) (t e l p:Nat):Prop where
 tl:w.talks.length≤t
 el:w.exps.length≤e
 wl:w.wires.length≤l
 pk:∀x∈w.talks,x.d.pk≠[]∧x.d.pk.length≤p
 es:∀x∈w.exps,ExpOk x.d
 ws:∀x∈w.wires,(x.1=0∨x.1=1)∧WireOk x.2
 tw:∀x∈w.talks,(∃u,WireOk u∧x.d.a=u.key∧x.d.b=u.back.key)∧(x.d.zone=0∨x.d.zone=1)
theorem ExpOk.kill {e:WE}(n:Int) (h:ExpOk e.d):ExpOk (e.kill n).d:=by
 unfold WE.kill WE.dead
 split
 ·exact ⟨h.p,h.s,h.t0,h.t1,h.port0,h.port1,h.zone⟩
 ·exact h
theorem WM.out {w:Wd}{t e l p i:Nat}{x:WT}(W:WM w t e l p) (hx:w.talks[i]?=some x):WM (w.out i x) t e l p:=by
 have hm:=List.mem_of_getElem? hx
 refine ⟨by show (w.talks.set i x.off).length≤t; rw [List.length_set]; exact W.tl,by show (w.exps.map _).length≤e; rw [List.length_map]; exact W.el,W.wl,fun y hy=>?_,fun y hy=>?_,W.ws,fun y hy=>?_⟩
 ·rcases List.mem_or_eq_of_mem_set hy with hy | rfl
  ·exact W.pk y hy
  ·exact W.pk x hm
 ·obtain ⟨z,hz,rfl⟩:=List.mem_map.mp hy
  exact (W.es z hz).kill _
 ·rcases List.mem_or_eq_of_mem_set hy with hy | rfl
  ·exact W.tw y hy
  ·exact W.tw x hm
section
section
variable {w w' w1:Wd}{t e l p i:Nat}{x x':WT}{zone now way:Int}
theorem WM.set (W:WM w t e l p) (hx:w.talks[i]?=some x) (hp:x'.d.pk≠[]∧x'.d.pk.length≤p) (ha:x'.d.a=x.d.a) (hb:x'.d.b=x.d.b) (hz:x'.d.zone=x.d.zone):WM (w.setT i x') t e l p:=by
 have hm:=List.mem_of_getElem? hx
 refine ⟨by show (w.talks.set i x').length≤t; rw [List.length_set]; exact W.tl,W.el,W.wl,fun y hy=>?_,W.es,W.ws,fun y hy=>?_⟩
 ·rcases List.mem_or_eq_of_mem_set hy with hy | rfl
  ·exact W.pk y hy
  ·exact hp
 ·rcases List.mem_or_eq_of_mem_set hy with hy | rfl
  ·exact W.tw y hy
  ·rw [ha,hb,hz]; exact W.tw x hm
theorem WM.found {tt:T6}{v:PV}(W:WM w t e l p) (h:FoundW w zone tt now v w'):WM w' t e l p:=by
 cases h with
 | none _=>exact W
 | old hx _ _=>exact W.out hx
 | hit _ _ _ _=>exact W
theorem WM.le {t' e' l' p':Nat}(W:WM w t e l p) (h1:t≤t') (h2:e≤e') (h3:l≤l') (h4:p≤p'):WM w t' e' l' p' :=
 ⟨Nat.le_trans W.tl h1,Nat.le_trans W.el h2,Nat.le_trans W.wl h3,fun x hx=>⟨(W.pk x hx).1,Nat.le_trans (W.pk x hx).2 h4⟩,W.es,W.ws,W.tw⟩
theorem WM.addE (W:WM w t e l p) {u:WE}(h:ExpOk u.d):WM (w.addE u) t (e+1) l p:=by
 refine ⟨W.tl,?_,W.wl,W.pk,fun y hy=>?_,W.ws,W.tw⟩
 ·show (w.exps++[u]).length≤e+1
  rw [List.length_append]; exact Nat.succ_le_succ W.el
 ·rcases List.mem_append.mp hy with hy | hy
  ·exact W.es y hy
  ·rw [List.mem_singleton.mp hy]; exact h
end
end
section
section
variable {w w' w1:Wd}{t e l p i:Nat}{x x':WT}{zone now way st:Int}{wire:Wire}{nw:Bool}
theorem WM.addNew {w0:Wd}(W:WM w0 t e l p) (hw:WireOk wire) (hz:zone=0∨zone=1) (hx:x.d.pk≠[]∧x.d.pk.length≤p) (ha:x.d.a=wire.key) (hb:x.d.b=wire.back.key) (hzo:x.d.zone=zone) (ew:w'.talks=w0.talks++[x]) (ee:w'.exps.length≤e) (es:∀u∈w'.exps,ExpOk u.d) (el:w'.wires=w0.wires):WM w' (t+1) e l p:=by
 refine ⟨by rw [ew,List.length_append]; exact Nat.succ_le_succ W.tl,ee,by rw [el]; exact W.wl,fun y hy=>?_,es,by rw [el]; exact W.ws,fun y hy=>?_⟩
 ·rw [ew] at hy
  rcases List.mem_append.mp hy with hy | hy
  ·exact W.pk y hy
  ·rw [List.mem_singleton.mp hy]; exact hx
 ·rw [ew] at hy
  rcases List.mem_append.mp hy with hy | hy
  ·exact W.tw y hy
  ·rw [List.mem_singleton.mp hy]; exact ⟨⟨wire,hw,ha,hb⟩,by rw [hzo]; exact hz⟩
theorem WM.meet (W:WM w t e l p) (hw:WireOk wire) (hz:zone=0∨zone=1) (h:MeetW w zone wire now x way nw st w1):WM w1 (t+1) e l (p+1):=by
 cases h with
 | @hit i x way hx _ _ _ =>
  have hm:=List.mem_of_getElem? hx
  exact (W.le (Nat.le_succ t) (Nat.le_refl e) (Nat.le_refl l) (Nat.le_succ p)).set (x':=x.add (now,way)) hx ⟨by show x.d.pk++[_]≠[]; simp,by show (x.d.pk++[_]).length≤p+1; rw [List.length_append]; exact Nat.succ_le_succ (W.pk x hm).2⟩ rfl rfl rfl
 | @new w0 w2 x hf hn =>
  have W0:=(W.found hf).le (Nat.le_refl t) (Nat.le_refl e) (Nat.le_refl l) (Nat.le_succ p)
  have hpk:x.d.pk=[]:=hn.at_.2
  have hone:(x.add (now,0)).d.pk≠[]∧(x.add (now,0)).d.pk.length≤p+1:=by
   show x.d.pk++[_]≠[]∧(x.d.pk++[_]).length≤p+1
   rw [hpk]; exact ⟨by simp,by simp⟩
  cases hn with
  | plain _=>exact W0.addNew hw hz hone rfl rfl rfl (set_end _ _ _) W0.el W0.es rfl
  | @rel ad pd l1 l2 u he _ _ =>
   refine W0.addNew hw hz hone rfl rfl rfl (set_end _ _ _) ?_ (fun v hv=>?_) rfl
   ·have:=W0.el
    rw [he] at this
    show (l1++u.dead::l2).length≤e
    simpa using this
   ·have all:=W0.es
    rw [he] at all
    rcases List.mem_append.mp (show v∈l1++u.dead::l2 from hv) with hv | hv
    ·exact all v (List.mem_append_left _ hv)
    ·rcases List.mem_cons.mp hv with rfl | hv
     ·have h:=all u (List.mem_append_right _ (.head _))
      exact ⟨h.p,h.s,h.t0,h.t1,h.port0,h.port1,h.zone⟩
     ·exact all v (List.mem_append_right _ (.tail _ hv))
end
end
section
section
variable {w w' w1:Wd}{t e l p i:Nat}{x x':WT}{zone now way:Int}{sp:Spec}{v:PV}
structure T6Ok (t:T6):Prop where
 a0:0≤t.a
 a1:t.a<2^32
 c0:0≤t.c
 c1:t.c<2^32
theorem key_ok {u:Wire}(h:WireOk u):T6Ok u.key:=by
 unfold Wire.key
 split<;>exact ⟨h.s0,h.s1,h.t0,h.t1⟩
theorem WM.exp (W:WM w t e l p) (hx:x∈w.talks) (hs:SpecOk sp) (h:ExpW w x.d way sp now v w'):WM w' t (e+1) l p:=by
 have W':=W.le (Nat.le_refl t) (Nat.le_succ e) (Nat.le_refl l) (Nat.le_refl p)
 cases h with
 | brk _=>exact W'
 | @renew l1 l2 u _ _ he _ _ =>
  refine ⟨W.tl,?_,W.wl,W.pk,fun y hy=>?_,W.ws,W.tw⟩
  ·have:=W.el
   rw [he] at this
   show (l1++u.till (now+sp.span)::l2).length≤e+1
   simp at this ⊢; lia
  ·have all:=W.es
   rw [he] at all
   rcases List.mem_append.mp (show y∈l1++u.till (now+sp.span)::l2 from hy) with hy | hy
   ·exact all y (List.mem_append_left _ hy)
   ·rcases List.mem_cons.mp hy with rfl | hy
    ·have h:=all u (List.mem_append_right _ (.head _))
     exact ⟨h.p,h.s,h.t0,h.t1,h.port0,h.port1,h.zone⟩
    ·exact all y (List.mem_append_right _ (.tail _ hy))
 | add _ _ _ =>
  refine byP fun PG kG=>?_
  obtain ⟨⟨u,hu,ha,hb⟩,hz⟩:=W.tw x hx
  refine kG ?_
  have k:T6Ok (sideW x.d.a x.d.b way):=by
   unfold sideW
   split
   ·rw [hb]; exact key_ok hu.back
   ·rw [ha]; exact key_ok hu
  exact W.addE ⟨hs.p,.inr ⟨k.a0,k.a1⟩,k.c0,k.c1,hs.port0,hs.port1,hz⟩
end
end
section
section
variable {w w' w1:Wd}{t e l p i:Nat}{x x':WT}{zone now way:Int}{sp:Spec}{v:PV}{kind:Int}{kept:Bool}
theorem WM.exps {specs:List Spec}{res:List PV}(W:WM w t e l p) (hx:x∈w.talks) (hs:∀s∈specs,SpecOk s) (h:ExpsW x.d way now specs w res w'):WM w' t (e+specs.length) l p:=by
 induction h with
 | nil=>exact W
 | @snoc w w1 w2 l' s ys y h1 h2 ih =>
  have W1:=ih W hx fun s hs'=>hs s (List.mem_append_left _ hs')
  rw [List.length_append]
  exact W1.exp (x:=x) (by rw [h1.same.1.talks]; exact hx) (hs s (List.mem_append_right _ (.head _))) h2
theorem WM.any (W:WM w t e l p) (hx:x∈w.talks) (hs:SpecOk sp) (h:AnyW w x.d kind sp zone now v w'):WM w' t (e+1) l p:=by
 cases h with
 | no _=>exact W.le (Nat.le_refl t) (Nat.le_succ e) (Nat.le_refl l) (Nat.le_refl p)
 | yes _ =>
  refine byP fun PG kG=>?_
  obtain ⟨⟨u,hu,ha,hb⟩,hz⟩:=W.tw x hx
  refine kG ?_
  have k:T6Ok x.d.a:=by rw [ha]; exact key_ok hu
  exact W.addE ⟨hs.p,.inl rfl,k.a0,k.a1,hs.port0,hs.port1,hz⟩
theorem WM.fin (W:WM w t e l p) (hx:w.talks[i]?=some x):WM (finW w i x kind kept) t e l p:=by
 have hm:=List.mem_of_getElem? hx
 have key:WM (KeepW w i x kept).2 t e l p∧(KeepW w i x kept).2.talks[i]?=some (KeepW w i x kept).1:=by
  unfold KeepW
  split
  ·exact ⟨W.set (x':=x.keep) hx (W.pk x hm) rfl rfl rfl,set_at hx _⟩
  ·exact ⟨W,hx⟩
 unfold finW
 split
 ·exact key.1.out key.2
 ·exact key.1
end
end
theorem WM.addW {w:Wd}{t e l p:Nat}{z:Int×Wire}(W:WM w t e l p) (hz:z.1=0∨z.1=1) (hw:WireOk z.2):WM (w.addW z) t e (l+1) p:=by
 refine ⟨W.tl,W.el,?_,W.pk,W.es,fun y hy=>?_,W.tw⟩
 ·show (w.wires++[z]).length≤l+1
  rw [List.length_append]; exact Nat.succ_le_succ W.wl
 ·rcases List.mem_append.mp (show y∈w.wires++[z] from hy) with hy | hy
  ·exact W.ws y hy
  ·rw [List.mem_singleton.mp hy]; exact ⟨hz,hw⟩
theorem WN.step {w w':Wd}{n:Nat}{e:Ev}{seen any:PV}{res:List PV}{mk:Int}(W:WN w n) (E:EvOk' e) (h:StepW w e seen res mk any w'):WN w' (n+1):=by
 have W0:WM (w.addW (e.zone,e.wire)) n (3*n) (n+1) n:=WM.addW ⟨W.tl,W.el,W.wl,W.pk,W.es,W.ws,W.tw⟩ E.zone E.wire
 have fin:∀{u:Wd},WM u (n+1) (3*n+3) (n+1) (n+1)→WN u (n+1):=fun U=>⟨U.tl,U.el,U.wl,U.pk,U.es,U.ws,U.tw⟩
 cases h with
 | six _=>exact fin (W0.le (Nat.le_succ _) (Nat.le_add_right _ _) (Nat.le_refl _) (Nat.le_succ _))
 | seven _=>exact fin (W0.le (Nat.le_succ _) (Nat.le_add_right _ _) (Nat.le_refl _) (Nat.le_succ _))
 | @meet w1 w2 w3 i x way st nw _ _ _ hm hx he ha =>
  have W1:=W0.meet E.wire E.zone hm
  have key:∀(u:Wd) (y:WT),WM u (n+1) (3*n) (n+1) (n+1)→u.talks[i]?=some y→ExpsW y.d way e.now e.specs u res w2→AnyW w2 y.d e.kind e.s e.zone e.now any w3→WN (finW w3 i y e.kind e.kept) (n+1):=fun u y U hy hE hA=>by
   have hm:=List.mem_of_getElem? hy
   have U2:=U.exps hm E.specs hE
   have e2:=hE.same.1.talks
   have U3:=U2.any (x:=y) (by rw [e2]; exact hm) E.s hA
   have e3:w3.talks=w2.talks:=by cases hA<;>rfl
   exact fin ((U3.fin (by rw [e3,e2]; exact hy)).le (Nat.le_refl _) (Nat.succ_le_succ (Nat.add_le_add_left E.sl _)) (Nat.le_refl _) (Nat.le_refl _))
  cases hb:(nw&&e.isMark) with
  | true =>
   simp only [hb,if_true] at he ha ⊢
   exact key _ _ (W1.set (x':=x.marked (1000+e.number)) hx (W1.pk x (List.mem_of_getElem? hx)) rfl rfl rfl) (set_at hx _) he ha
  | false =>
   simp only [hb,Bool.false_eq_true,if_false] at he ha ⊢
   exact key _ _ W1 hx he ha
section
structure Lay (k:Nat) (d:PyData):Prop where
 lay:d.canLay0=true
 deep:d.depth≤k
theorem layAll {k:Nat}:∀{xs:List PyData},(∀x∈xs,Lay k x)→PyData.canLayAll0 xs=true∧PyData.depthAll xs≤k
 | [],_=>⟨rfl,Nat.zero_le _⟩
 | x::xs,h=>by
  have a:=h x (.head _)
  have b:=layAll fun y hy=>h y (.tail _ hy)
  refine ⟨?_,?_⟩
  ·simp only [PyData.canLayAll0,a.lay,b.1,Bool.and_self]
  ·simp only [PyData.depthAll]
   exact Nat.max_le.mpr ⟨a.deep,b.2⟩
theorem Lay.mono {k m:Nat}{d:PyData}(l:Lay k d) (h:k≤m):Lay m d:=⟨l.lay,Nat.le_trans l.deep h⟩
theorem Lay.tup {k:Nat}{xs:List PyData}(h:∀x∈xs,Lay k x):Lay (k+1) (.tuple xs):=by
 have z:=layAll h
 exact ⟨by simp only [PyData.canLay0]; exact z.1,by simp only [PyData.depth]; exact Nat.succ_le_succ z.2⟩
theorem Lay.list {k:Nat}{xs:List PyData}(h:∀x∈xs,Lay k x):Lay (k+1) (.list xs):=by
 have z:=layAll h
 exact ⟨by simp only [PyData.canLay0]; exact z.1,by simp only [PyData.depth]; exact Nat.succ_le_succ z.2⟩
theorem Lay.int (k:Nat) (i:Int):Lay k (.int i):=⟨rfl,Nat.zero_le _⟩
theorem Lay.str (k:Nat) (x:Str) (h:(PyData.str x).canLay0=true):Lay k (.str x):=⟨h,Nat.zero_le _⟩
theorem Lay.none (k:Nat):Lay k .none:=⟨rfl,Nat.zero_le _⟩
theorem Lay.shaped {k:Nat}{d:PyData}(l:Lay k d) (h:k≤64):SeqAt.shaped d=true:=by
 unfold SeqAt.shaped
 rw [l.lay,decide_eq_true (Nat.le_trans l.deep h)]; rfl
section
variable {C:Cfg}{n:Nat}{H:GHeap}{Q:PV→GHeap→Prop}
theorem op_ne_same {a b:PV}{d:PyData}{k:Nat}(ha:Dt C H a d) (hb:Dt C H b d) (l:Lay k d) (hk:k≤64) (q:Q (.bool false) H):Op2Ok C n (compareOp .NotEq) a b H Q :=
 op_ne_deep ha hb (l.shaped hk) (l.shaped hk) (by rw [SeqAt.eqv_refl d l.lay]; exact q)
theorem op_eq_same {a b:PV}{d:PyData}{k:Nat}(ha:Dt C H a d) (hb:Dt C H b d) (l:Lay k d) (hk:k≤64) (q:Q (.bool true) H):Op2Ok C n (compareOp .Eq) a b H Q :=
 op_eq_deep ha hb (l.shaped hk) (l.shaped hk) (by rw [SeqAt.eqv_refl d l.lay]; exact q)
end
end
noncomputable def Tame (k:Nat) (x:PV):Prop:=∃d,Lay k d∧∀C H,Dt C H x d
theorem Tame.int (k:Nat) (i:Int):Tame k (.int i):=⟨_,.int k i,fun _ _=>.int i⟩
theorem Tame.none (k:Nat):Tame k .none:=⟨_,.none k,fun _ _=>.none⟩
theorem Tame.str (k:Nat) (x:Str) (h:(PyData.str x).canLay0=true):Tame k (.str x):=⟨_,.str k x h,fun _ _=>.str x⟩
theorem Tame.all {k:Nat}:∀{xs:List PV},(∀x∈xs,Tame k x)→∃ds,(∀d∈ds,Lay k d)∧∀C H,DtL C H xs ds
 | [],_=>⟨[],fun _ h=>(by cases h),fun _ _=>.nil⟩
 | x::xs,h=>by
  refine byP fun PG kG=>?_
  obtain ⟨d,l,t⟩:=h x (.head _)
  obtain ⟨ds,ls,ts⟩:=Tame.all fun y hy=>h y (.tail _ hy)
  refine kG ?_
  refine ⟨d::ds,fun e he=>?_,fun C H=>.cons (t C H) (ts C H)⟩
  rcases List.mem_cons.mp he with rfl | he
  ·exact l
  ·exact ls e he
theorem Tame.tup {k:Nat}{xs:List PV}(h:∀x∈xs,Tame k x):Tame (k+1) (.tup xs):=let ⟨_,l,t⟩:=Tame.all h; ⟨_,.tup l,fun C H=>.tup (t C H)⟩
theorem tame_nil {k:Nat}:∀x∈([]:List PV),Tame k x:=fun _ h=>by cases h
theorem tame_cons {k:Nat}{x:PV}{xs:List PV}(h:Tame k x) (t:∀x∈xs,Tame k x):∀y∈x::xs,Tame k y:=fun y hy=>by
 rcases List.mem_cons.mp hy with rfl | hy
 ·exact h
 ·exact t y hy
theorem tame_ints (k:Nat) (is:List Int):Tame (k+1) (.tup (is.map .int)):=.tup fun x hx=>by
 obtain ⟨i,_,rfl⟩:=List.mem_map.mp hx
 exact .int _ _
theorem T6.tame (k:Nat) (t:T6):Tame (k+1) t.pv:=tame_ints k t.l
theorem TR.tame (k:Nat) (r:TR):Tame (k+3) r.pv :=
 .tup (tame_cons (.tup (tame_cons (.int _ _) (tame_cons (r.t.tame k) tame_nil))) (tame_cons (tame_ints (k+1) [r.n,r.w]) tame_nil))
theorem tame_getD {k:Nat}{xs:List PV}(h:∀x∈xs,Tame k x) (i:Nat):Tame k (xs.getD i .none):=by
 rw [List.getD_eq_getElem?_getD]
 by_cases hi:i<xs.length
 ·rw [List.getElem?_eq_getElem hi]; exact h _ (List.getElem_mem hi)
 ·rw [List.getElem?_eq_none (by exact Nat.not_lt.mp (by assumption))]; exact .none k
theorem tame_sort (l:List TR):∀x∈sortT l,Tame 3 x:=fun x hx=>by
 unfold sortT sortL at hx
 obtain ⟨i,_,rfl⟩:=List.mem_map.mp hx
 refine tame_getD (fun x hx=>?_) i
 obtain ⟨r,_,rfl⟩:=List.mem_map.mp hx
 exact r.tame 0
theorem tame_row (a b c d:Int):Tame 3 (.tup [.int a,.int b,.int c,.int d]):=tame_ints 2 [a,b,c,d]
theorem tame_rows {α:Type}{f:α→PV}{l:List α}{k:Nat}(h:∀x,Tame k (f x)):∀x∈l.map f,Tame k x:=fun x hx=>by
 obtain ⟨y,_,rfl⟩:=List.mem_map.mp hx
 exact h y
theorem eRow_tame (e:BE):Tame 3 (eRow e):=.tup (tame_cons (.int _ _) (tame_cons (tame_ints 1 [_,_,_,_,_]) (tame_cons (.int _ _) (tame_cons (.int _ _) tame_nil))))
theorem alike {w:Wd}{b:Bk}{C:Cfg}{H:GHeap}{v u:PV}(S:Sim w b) (hv:BookV b H v) (hu:LeftV w H u):∃d,Dt C H v d∧Dt C H u d∧Lay 5 d:=by
 cases hv with
 | mk v1 v2 v3 =>
  cases hu with
  | mk u1 u2 u3 =>
   rw [S.trs] at u1
   rw [S.rows] at u2
   rw [S.erows] at u3
   refine byP fun PG kG=>?_
   obtain ⟨d1,l1,t1⟩:=Tame.all (tame_sort b.trs)
   obtain ⟨d2,l2,t2⟩:=Tame.all (tame_rows (f:=tRow) (l:=b.talks.filter (·.d.isIn)) fun x=>tame_row _ _ _ _)
   obtain ⟨d3,l3,t3⟩:=Tame.all (tame_rows (f:=eRow) (l:=b.exps.filter (!·.d.gone)) eRow_tame)
   refine kG ?_
   refine ⟨.tuple [.list d1,.list d2,.list d3],.tup (.cons (.list (.inl v1) (t1 C H)) (.cons (.list (.inl v2) (t2 C H)) (.cons (.list (.inl v3) (t3 C H)) .nil))),
    .tup (.cons (.list (.inl u1) (t1 C H)) (.cons (.list (.inl u2) (t2 C H)) (.cons (.list (.inl u3) (t3 C H)) .nil))),.tup fun d hd=>?_⟩
   rcases List.mem_cons.mp hd with rfl | hd
   ·exact .list l1
   rcases List.mem_cons.mp hd with rfl | hd
   ·exact .list l2
   ·rw [List.mem_singleton.mp hd]; exact .list l3
theorem brk_tame (k:Nat):Tame (k+1) brkPV:=.tup (tame_cons (.str _ _ (by kernel_rfl)) (tame_cons (.str _ _ (by kernel_rfl)) tame_nil))
theorem seen_tame (x:WTalk) (a b c:Int):Tame 3 (seenPV x a b c) :=
 .tup (tame_cons (.none _) (tame_cons (.int _ _) (tame_cons (.int _ _) (tame_cons (.int _ _) (tame_cons (.int _ _) (tame_cons (.int _ _) (tame_cons (.int _ _) (tame_cons (.int _ _) (tame_cons (.int _ _) (tame_cons (x.a.tame 1) (tame_cons (x.b.tame 1) tame_nil)))))))))))
theorem exps_tame {w w':Wd}{x:WTalk}{way now:Int}{l:List Spec}{res:List PV}(h:ExpsW x way now l w res w'):∀y∈res,Tame 3 y:=by
 induction h with
 | nil=>exact tame_nil
 | snoc _ hs ih =>
  intro y hy
  rcases List.mem_append.mp hy with hy | hy
  ·exact ih y hy
  ·rw [List.mem_singleton.mp hy]
   cases hs with
   | brk _=>exact brk_tame 2
   | renew _ _ _ _ _=>exact .none 3
   | add _ _ _=>exact .none 3
theorem step_tame {w w':Wd}{e:Ev}{seen any:PV}{res:List PV}{mk:Int}(h:StepW w e seen res mk any w'):Tame 3 seen∧∀y∈res,Tame 3 y:=by
 cases h with
 | six _=>exact ⟨.tup (tame_cons (.none _) (tame_cons (.int _ _) (tame_cons (.int _ _) tame_nil))),tame_rows fun _=>brk_tame 2⟩
 | seven _=>exact ⟨.tup (tame_cons (.none _) (tame_cons (.int _ _) (tame_cons (.int _ _) tame_nil))),tame_rows fun _=>brk_tame 2⟩
 | meet _ _ _ he _=>exact ⟨seen_tame _ _ _ _,exps_tame he⟩
theorem due_alike {C:Cfg}{H:GHeap}{da rs da' rs':Addr}{seen:PV}{res:List PV}(hs:Tame 3 seen) (hr:∀y∈res,Tame 3 y) (h1:H da=some (.list [seen,.ref rs,.none])) (h2:H rs=some (.list res)) (h3:H da'=some (.list [seen,.ref rs',.none])) (h4:H rs'=some (.list res)) :
  ∃d,Dt C H (.ref da) d∧Dt C H (.ref da') d∧Lay 5 d:=by
 refine byP fun PG kG=>?_
 obtain ⟨d,l,t⟩:=hs
 obtain ⟨ds,ls,ts⟩:=Tame.all hr
 refine kG ?_
 refine ⟨.list [d,.list ds,.none],.list (.inl h1) (.cons (t C H) (.cons (.list (.inl h2) (ts C H)) (.cons .none .nil))),.list (.inl h3) (.cons (t C H) (.cons (.list (.inl h4) (ts C H)) (.cons .none .nil))),.list fun e he=>?_⟩
 rcases List.mem_cons.mp he with rfl | he
 ·exact l.mono (by decide)
 rcases List.mem_cons.mp he with rfl | he
 ·exact .list ls
 ·rw [List.mem_singleton.mp he]; exact .none _
theorem Own.also {H:GHeap}{L:List Cell}(o:Own H L) {a:Addr}{g:GObj}(e:H a=some g):∃M,Own H (L++M)∧(a,g)∈L++M:=by
 by_cases h:a∈L.map (·.1)
 ·refine ⟨[],by rw [List.append_nil]; exact o,?_⟩
  obtain ⟨⟨b,g'⟩,hp,rfl⟩:=List.mem_map.mp h
  have:=o.at_ _ hp
  rw [e] at this
  rw [List.append_nil,Option.some.inj this]
  exact hp
 ·refine ⟨[(a,g)],⟨fun p hp=>?_,?_⟩,List.mem_append_right _ (.head _)⟩
  ·rcases List.mem_append.mp hp with hp | hp
   ·exact o.at_ p hp
   ·rw [List.mem_singleton.mp hp]; exact e
  ·rw [List.map_append,List.nodup_append]
   refine ⟨o.nd,List.nodup_cons.mpr ⟨List.not_mem_nil,List.nodup_nil⟩,fun x hx y hy=>?_⟩
   rw [List.mem_singleton.mp hy]
   rintro rfl
   exact h hx
theorem bookv_hold {b:Bk}{H:GHeap}{v:PV}{L:List Cell}(o:Own H L) (hv:BookV b H v):∃M,Own H (L++M)∧∀H' L',Own H' (L'++(L++M))→BookV b H' v:=by
 cases hv with
 | mk v1 v2 v3 =>
  refine byP fun PG kG=>?_
  obtain ⟨M1,o1,m1⟩:=o.also v1
  obtain ⟨M2,o2,m2⟩:=o1.also v2
  obtain ⟨M3,o3,m3⟩:=o2.also v3
  refine kG ?_
  refine ⟨M1++(M2++M3),by rw [←List.append_assoc,←List.append_assoc]; exact o3,fun H' L' o'=>?_⟩
  have o':=o'.right
  rw [←List.append_assoc,←List.append_assoc] at o'
  exact .mk (o'.at_ _ (List.mem_append_left _ (List.mem_append_left _ m1))) (o'.at_ _ (List.mem_append_left _ m2)) (o'.at_ _ m3)
section
section
variable {C:Cfg}{n:Nat}{sc:Scope}{H:GHeap}{fr fr':Vars}{target:Expr}{body:List Stmt}{k:Sk}{pv:PV}{xs:List PV}
theorem ForN.looks {i:Nat}{Q:Fl→Vars→GHeap→Prop}(h:ForN C n sc target body k pv xs i fr' H Q) (l:subF fr' fr):ForN C n sc target body k pv xs i fr H Q:=⟨fun A kp env s I hA S F=>h.run A kp env s I hA S (F.looks (subF_is l))⟩
theorem ExN.mono {ss:List Stmt}{Q Q':Fl→Vars→GHeap→Prop}(h:ExN C n sc ss fr H Q) (q:∀x fr' H',Q x fr' H'→Q' x fr' H'):ExN C n sc ss fr H Q':=⟨fun A kp env s hA S F =>
 wpN_mono (h.run A kp env s hA S F) fun _ _ b=>b.mono q⟩
theorem ExN.looks {ss:List Stmt}{Q:Fl→Vars→GHeap→Prop}(h:ExN C n sc ss fr' H Q) (l:subF fr' fr):ExN C n sc ss fr H Q:=⟨fun A kp env s hA S F=>h.run A kp env s hA S (F.looks (subF_is l))⟩
theorem forN_go {σ:Type}{Q:Fl→Vars→GHeap→Prop}(F:σ→Vars) (Inv:Nat→σ→GHeap→Prop) (hsrc:∀i s H,Inv i s H→Src C H k pv xs)
  (step:∀i x s H,xs[i]?=some x→Inv i s H→AsOk C n sc target x (F s) H fun fr1 H1=>ExN C n sc body fr1 H1 fun fl fr2 H2 =>
   loopF (∃s',subF (F s') fr2∧Inv (i+1) s' H2) (Q .next fr2 H2) (fun v=>Q (.ret v) fr2 H2) fl)
  (hend:∀s H,Inv xs.length s H→Q .next (F s) H):∀(m i:Nat) (s:σ) (H:GHeap),i+m=xs.length→Inv i s H→ForN C n sc target body k pv xs i (F s) H Q:=fun m=>by
 induction m with
 | zero =>
  intro i s H e hi
  obtain rfl:i=xs.length:=e
  exact forN_nil (hsrc _ _ _ hi) rfl (hend _ _ hi)
 | succ m ih =>
  intro i s H e hi
  have hlt:i<xs.length:=e▸Nat.lt_add_of_pos_right (Nat.succ_pos m)
  have e':=(Nat.succ_add_eq_add_succ i m).trans e
  have hx:xs[i]?=some xs[i]:=List.getElem?_eq_getElem hlt
  refine forN_cons (hsrc _ _ _ hi) hx (AsOk.mono (step i _ s H hx hi) fun fr1 H1 h=>ExN.mono h fun fl fr2 H2 h=>?_)
  induction fl using Mine.Fl.casesOn with
  | next=>obtain ⟨s',l,hi'⟩:=h; exact (ih (i+1) s' H2 e' hi').looks l
  | cont=>obtain ⟨s',l,hi'⟩:=h; exact (ih (i+1) s' H2 e' hi').looks l
  | brk=>exact h
  | ret v=>exact h
theorem forN_st {σ:Type}{Q:Fl→Vars→GHeap→Prop}(F:σ→Vars) (Inv:Nat→σ→GHeap→Prop) (s0:σ) (l0:subF (F s0) fr) (h0:Inv 0 s0 H) (hsrc:∀i s H,Inv i s H→Src C H k pv xs)
  (step:∀i x s H,xs[i]?=some x→Inv i s H→AsOk C n sc target x (F s) H fun fr1 H1=>ExN C n sc body fr1 H1 fun fl fr2 H2 =>
   loopF (∃s',subF (F s') fr2∧Inv (i+1) s' H2) (Q .next fr2 H2) (fun v=>Q (.ret v) fr2 H2) fl)
  (hend:∀s H,Inv xs.length s H→Q .next (F s) H):ForN C n sc target body k pv xs 0 fr H Q :=
 (forN_go F Inv hsrc step hend xs.length 0 s0 H (Nat.zero_add _) h0).looks l0
theorem ev_freeze {e:Expr}{Q:PV→GHeap→Prop}(h:EvOk C n sc e fr H fun v H1=>∃a kvs,v=.ref a∧H1 a=some (.idict kvs)∧∀ep,Q (.ref a) (H1.set a (.fdict kvs ep))):EvOk C n sc e fr H Q:=⟨fun A kp env s hA S F =>
 h.next hA S F fun v s1 x H1 S1 F1 t1 q=>by
  refine byP fun PG kG=>?_
  obtain ⟨a,kvs,rfl,ha,q⟩:=q
  refine kG ?_
  refine (freeze S1 ha).elim fun ep S2=>⟨.ref a,_,S2,F1.change (fun _ _ _ e=>e) (Keep.refl _) fun b onf=>?_,t1,q ep⟩
  rw [GHeap.set_other _ _ (fun z:b=a=>by subst z; rw [F1.free onf] at ha; cases ha)]
  exact F1.free onf⟩
theorem ev_subF {value slice:Expr}{pos:Pos}{Q:PV→GHeap→Prop}(h:EvOk C n sc value fr H fun o H1=>EvOk C n sc slice fr H1 fun i H2=>∃a k kvs ep x,o=.ref a∧i=.int k∧H2 a=some (.fdict kvs ep)∧kvs.lookup k=some x∧Q x H2):EvOk C n sc (.Subscript value slice pos) fr H Q:=⟨fun A kp env s hA S F =>
 Subscript_ (h.next hA S F fun u s1 o H1 S1 F1 t1 q1=>q1.nextK hA S1 F1 fun v s2 i H2 K S2 F2 t2 q=>by
  refine byP fun PG kG=>?_
  obtain ⟨a,k,kvs,ep,x,rfl,rfl,ha,hx,q⟩:=q
  obtain rfl:=t1.inv
  obtain ⟨vs,⟨o,es,ho,hd⟩,t⟩:=S2.own _ _ ha
  refine kG ?_
  have hD:s2.heap.DictOf (intKind C.prog C.w) a vs:=⟨o,es,ep,ho,hd⟩
  exact sub_tail hD.typeIs slot_dict_getitem.lookup (op_frame F2 S2 fun kp' S' _=>(t.lookup hx).elim fun w z=>wpAny_getItem_of (intKey (C:=C) t2) hD.mapOf ((valueAt_eq k vs).trans z.1) (BackV.of (S'.toks _) z.2 q)))⟩
end
end
inductive Outs (w:Wd):List Nat→Wd→Prop
 | nil:Outs w [] w
 | snoc {l:List Nat}{w':Wd}{i:Nat}{x:WT}:Outs w l w'→w'.talks[i]?=some x→Outs w (l++[i]) (w'.out i x)
theorem outs_wa {w w':Wd}{l:List Nat}(h:Outs w l w'):w'.wa=w.wa∧w'.talks.length=w.talks.length:=by
 induction h with
 | nil=>exact ⟨rfl,rfl⟩
 | snoc _ _ ih=>exact ⟨ih.1,List.length_set.trans ih.2⟩
theorem outs_drops {w:Wd}{b:Bk}(S:Sim w b) {l:List Nat}{w':Wd}(h:Outs w l w'):∀{m:List Nat}{b':Bk},Drops b m b'→l=m→Sim w' b':=by
 induction h with
 | nil =>
  intro m b' d e
  cases d with
  | nil=>exact S
  | snoc _ _=>simp at e
 | snoc h hx ih =>
  intro m b' d e
  cases d with
  | nil=>simp at e
  | snoc d hy =>
   obtain ⟨e1,e2⟩:=List.append_inj' e rfl
   cases e2
   exact (ih d e1).out hx hy _
theorem idxs_same {α β:Type}{p:α→Bool}{q:β→Bool}:∀{l:List α}{m:List β}{k:Nat},l.length=m.length→(∀(i:Nat) x y,l[i]?=some x→m[i]?=some y→p x=q y)→idxs p k l=idxs q k m
 | [],[],_,_,_=>rfl
 | x::l,y::m,k,hl,h=>by
  unfold idxs
  rw [h 0 x y rfl rfl,idxs_same (k:=k+1) (Nat.succ.inj hl) fun i=>h (i+1)]
theorem Sim.old {w:Wd}{b:Bk}(S:Sim w b) (now:Int):idxs (fun x:WT=>x.d.isIn&&decide (untilW x.d≤now)) 0 w.talks=idxs (fun x:BT'=>x.d.isIn&&decide (x.d.until_≤now)) 0 b.talks:=by
 refine idxs_same S.len.symm fun i x y hx hy=>?_
 have t:=S.t i x y hx hy
 rw [t.isIn]
 cases h:x.d.isIn with
 | false=>rfl
 | true=>rw [(t.live h).til]
theorem ExpsW.wa {w w':Wd}{x:WTalk}{way now:Int}{l:List Spec}{res:List PV}(h:ExpsW x way now l w res w'):w'.wa=w.wa:=by
 induction h with
 | nil=>rfl
 | snoc _ hs ih=>exact (hs.same.1.wa).trans ih
theorem AnyW.wa {w w':Wd}{x:WTalk}{kind zone now:Int}{s:Spec}{v:PV}(h:AnyW w x kind s zone now v w'):w'.wa=w.wa:=by cases h<;>rfl
theorem FoundW.wa {w w1:Wd}{zone now:Int}{t:T6}{v:PV}(h:FoundW w zone t now v w1):w1.wa=w.wa:=by cases h<;>rfl
theorem NewW.wa {w w':Wd}{zone now:Int}{wire:Wire}{x:WT}(h:NewW w zone wire now x w'):w'.wa=w.wa:=by cases h<;>rfl
theorem MeetW.wa {w w1:Wd}{zone now way st:Int}{wire:Wire}{x:WT}{nw:Bool}(h:MeetW w zone wire now x way nw st w1):w1.wa=w.wa:=by
 cases h with
 | hit hf _ _ _=>first | rfl | exact FoundW.wa hf
 | new hf hn=>exact (NewW.wa hn).trans (FoundW.wa hf)
theorem finW_wa (w:Wd) (i:Nat) (x:WT) (kind:Int) (kept:Bool):(finW w i x kind kept).wa=w.wa:=by
 unfold finW KeepW
 repeat (first | rfl | split)
theorem step_wa {w w':Wd}{e:Ev}{seen any:PV}{res:List PV}{mk:Int}(h:StepW w e seen res mk any w'):w'.wa=w.wa:=by
 cases h with
 | six _=>rfl
 | seven _=>rfl
 | meet _ hm _ he ha =>
  rw [finW_wa,ha.wa,he.wa]
  have:=hm.wa
  split
  ·exact this
  ·exact this
section
theorem outs_ok {w w':Wd}{l:List Nat}(h:Outs w l w') (k:TalksOk w):TalksOk w':=by
 induction h with
 | nil=>exact k
 | snoc _ hx ih=>exact ih.out hx
noncomputable def oldW (e:Int) (x:WT):Bool:=x.d.isIn&&decide (untilW x.d≤e)
variable {C:Cfg}(hC:CK C) {H:GHeap}{F:List Cell}
include hC
theorem t_cmp {w:Wd}{b:Bk}{Q:PV→PV→GHeap→Prop}(S:Sim w b) (k:TalksOk w) (h12:w.talks.length≤30) (o:Own H (w.cells++(b.cells++F)))
  (q:∀v u H' d,Dt C H' v d→Dt C H' u d→Lay 5 d→notVal v=true→(∃xs,u=.tup xs)→Own H' (w.cells++(b.cells++F))→Q v u H') :
  CallOk C 1 (.ref 550) [.ref b.ba] H fun v H1=>CallOk C 3 (.ref 531) [.ref w.wa] H1 fun u H2=>Q v u H2:=by
 have hb:b.talks.length≤30:=by rw [S.len]; exact h12
 refine CallOk.mono (t_book hC o.swap S.inv hb S.asc) fun v H1 h=>?_
 obtain ⟨hv,g⟩:=h
 obtain ⟨M,o1,keep⟩:=bookv_hold (o.gr g) hv
 rw [List.append_assoc] at o1
 refine CallOk.mono (t_left hC o1 k h12) fun u H2 h=>?_
 obtain ⟨hu,o2⟩:=h
 have hv2:=keep H2 [] (by rw [List.append_assoc]; exact o2)
 obtain ⟨d,d1,d2,l⟩:=alike S hv2 hu
 refine q v u H2 d d1 d2 l (by cases hv; rfl) (by cases hu; exact ⟨_,rfl⟩) ?_
 rw [←List.append_assoc] at o2
 exact o2.left
theorem t_law10 {w w2:Wd}{b:Bk}{e:Int}{oa:Addr}{olds:List PV}(S:Sim w b) (k:TalksOk w) (h12:w.talks.length≤30) (ho:Outs w (idxs (oldW e) 0 w.talks) w2) (hl:olds.length=(idxs (oldW e) 0 w.talks).length)
  (o:Own H (w2.cells++(b.cells++((oa,.list olds)::F)))) (hw:w2.wa=w.wa) :
  ExOk C 7 (scOf (stAt 85)) ((bodyOf (stAt 85)).drop 10) [("book",.ref b.ba),("end",.int e),("old",.ref oa),("world",.ref w.wa)] H fun fl _ H'=>flv fl=.bool true:=by
 have hs:=t_sweep hC (now:=e) o.swap S.inv
 rw [←hw]
 refine wp_ok (C:=C) (n:=7) (sc:=scOf (stAt 85)) hC.wok 300 (.ex _ _ _ _) ?_
 walk_at "g"
 refine up hs rfl fun v H1 h=>?_
 refine byP fun PG kG=>?_
 obtain ⟨b',hD,rfl,o1⟩:=h
 refine kG ?_
 have S':Sim w2 b':=outs_drops S ho hD (S.old e)
 have hb':=(drops_addrs hD).1
 have hlo:H1 oa=some (.list olds):=o1.swap.at_ (oa,_) (List.mem_append_right _ (List.mem_append_right _ (.head _)))
 have h30:w2.talks.length≤30:=by rw [(outs_wa ho).2]; exact h12
 walk_at "g"
 refine c_len (.inl hlo) ?_ ?_
 ·have:=S.len; have:=(outs_wa ho).2
  rw [hl,idxs_len]
  exact Nat.le_trans (List.length_filter_le _ _) (by exact Nat.le_trans (by assumption) (by decide))
 have e1:((idxs (fun x:BT'=>x.d.isIn&&decide (x.d.until_≤e)) 0 b.talks).length:Int)=(olds.length:Int):=by
  rw [hl]; exact congrArg (fun l:List Nat=>(l.length:Int)) (S.old e).symm
 rw [e1]
 walk_at "g"
 refine And.intro (fun _=>?_) (fun h=>absurd h (by rw [decide_eq_true rfl]; decide))
 walk_at "g"
 rw [←hb']
 refine up (t_cmp hC (Q:=fun v u H'=>∃d,Dt C H' v d∧Dt C H' u d∧Lay 5 d∧∃xs,u=.tup xs) S' (outs_ok ho k) h30 o1.swap fun v u H' d d1 d2 l _ ht _=>⟨d,d1,d2,l,ht⟩) rfl fun v H2 h=>?_
 walk_at "g"
 refine up h rfl fun u H3 h=>?_
 refine byP fun PG kG=>?_
 obtain ⟨d,d1,d2,l,xs,rfl⟩:=h
 refine kG ?_
 walk_at "g"
 refine op_eq_same d1 d2 l (by decide) ?_
 walk_at "g"
 exact rfl
end
section
variable {C:Cfg}(hC:CK C) {H:GHeap}{F:List Cell}
include hC
theorem t_law9 {w:Wd}{b:Bk}{e:Int}{oa:Addr}(S:Sim w b) (k:TalksOk w) (h12:w.talks.length≤30)
  (o:Own H (w.cells++(b.cells++((oa,.list ((w.talks.filter (oldW e)).map fun x=>.ref x.ad))::F)))) :
  ExOk C 7 (scOf (stAt 85)) ((bodyOf (stAt 85)).drop 9) [("book",.ref b.ba),("end",.int e),("old",.ref oa),("world",.ref w.wa)] H fun fl _ H'=>flv fl=.bool true:=by
 refine wp_ok (C:=C) (n:=7) (sc:=scOf (stAt 85)) hC.wok 300 (.exn 1 _ _ _ _) ?_
 walk_at "g"
 have hat:∀{w':Wd}{H':GHeap},Own H' (w'.cells++(b.cells++((oa,.list ((w.talks.filter (oldW e)).map fun x=>.ref x.ad))::F)))→H' oa=some (.list ((w.talks.filter (oldW e)).map fun x=>.ref x.ad)):=fun o'=>o'.at_ (oa,_) (List.mem_append_right _ (List.mem_append_right _ (.head _)))
 have hle:=List.length_filter_le (oldW e) w.talks
 refine srcL (hat o) (by rw [List.length_map]; lia) ?_
 refine for_st hC.wok (σ:=Unit) (fun _=>[("book",.ref b.ba),("end",.int e),("old",.ref oa),("world",.ref w.wa)]) (fun j _ H'=>∃w',Outs w ((idxs (oldW e) 0 w.talks).take j) w'∧Own H' (w'.cells++(b.cells++((oa,.list ((w.talks.filter (oldW e)).map fun x=>.ref x.ad))::F)))∧∀j' i,j≤j'→(idxs (oldW e) 0 w.talks)[j']?=some i→w'.talks[i]?=w.talks[i]?) () rfl ⟨w,.nil,o,fun _ _ _ _=>rfl⟩ (fun _ _ _ h=>?_) (fun j y _ H1 hy h=>?_) (fun _ H1 h=>?_)
 ·obtain ⟨w',_,o',_⟩:=h
  exact .list (.inl (hat o'))
 ·obtain ⟨w',hO,o',hsame⟩:=h
  rw [List.getElem?_map] at hy
  obtain ⟨x,hx,rfl⟩:=Option.map_eq_some_iff.mp hy
  obtain ⟨i,hi,hxi⟩:=idxs_at (k:=0) hx
  rw [Nat.zero_add] at hi
  have hxi':=(hsame j i (Nat.le_refl _) hi).trans hxi
  have t:=t_out hC o' hxi' (outs_ok hO k).exps
  rw [(outs_wa hO).1] at t
  walk_at "g"
  refine up t rfl fun v H2 h=>?_
  obtain ⟨rfl,o2⟩:=h
  walk_at "g"
  refine ⟨(),rfl,w'.out i x,by rw [List.take_add_one,hi]; exact .snoc hO hxi',o2,fun j' i' hj hi'=>?_⟩
  have hne:i≠i':=fun e=>by
   have:=idxs_inj hi (e▸hi')
   lia
  show (w'.talks.set i x.off)[i']?=_
  rw [List.getElem?_set_ne hne]
  exact hsame j' i' (by exact Nat.le_of_lt (by assumption)) hi'
 ·obtain ⟨w',hO,o',_⟩:=h
  rw [List.length_map,←idxs_len (k:=0),List.take_length] at hO
  have z:=t_law10 hC S k h12 hO (by rw [List.length_map,idxs_len]) o' (outs_wa hO).1
  walk_at "g"
  exact z.looks (subF_is rfl)
theorem t_law7 {w:Wd}{n:Int}{b:Bk}{sa:Addr}{ks:List Int}{m:Nat}(S:Sim w b) (k:TalksOk w) (h12:w.talks.length≤30) (hsc:∀H,LsAt C H sa (ks.map .int)) (hks:ks.length≤1000) (hm:m≤12)
  (o:Own H (w.cells++(b.cells++F))) :
  ExOk C 7 (scOf (stAt 85)) ((bodyOf (stAt 85)).drop 7) [("book",.ref b.ba),("script",.ref sa),("many",.int m),("now",.int n),("world",.ref w.wa)] H fun fl _ H'=>flv fl=.bool true:=by
 refine wp_ok (C:=C) (n:=7) (sc:=scOf (stAt 85)) hC.wok 300 (.exn 2 _ _ _ _) ?_
 walk_at "g"
 refine up (t_draw hC (hsc H) hks (i:=3*m) (by lia)) rfl fun v H1 h=>?_
 obtain ⟨rfl,g⟩:=h
 walk_at "g"
 refine intIdx [0,29999,600000,120000,30000] (Int.emod_nonneg _ (by decide)) (Int.emod_lt_of_pos _ (by decide)) (by decide) fun dt _=>?_
 have o1:=o.gr g
 walk_at "g"
 refine subS (w_hd o1) rfl ?_
 walk_at "g"
 refine compL hC.wok w.talks (fun x=>if oldW (n+dt) x=true then some (.ref x.ad) else none) (w_tl o1) (Nat.le_trans k.many (by decide)) (fun x H' hx hg=>?_) (fun H2 oa hg hoa=>?_)
 ·have o2:=o1.gr hg
  have hd:=w_td o2 hx
  have tu:=t_until hC (x:=x) ⟨hd,w_tp o2 hx,k.ne x hx,k.len x hx⟩
  walk_at "g"
  refine subS hd rfl ?_
  walk_at "g"
  refine And.intro (fun h1=>?_) (fun h1=>?_)
  ·walk_at "g"
   refine up tu rfl fun v H3 h=>?_
   obtain ⟨rfl,g3⟩:=h
   walk_at "g"
   refine And.intro (fun h2=>?_) (fun h2=>?_)
   ·walk_at "g"
    refine ⟨rfl,?_⟩
    walk_at "g"
    exact ⟨if_pos (by unfold oldW; rw [h1,decide_eq_true h2]; rfl),hg.trans g3⟩
   ·walk_at "g"
    exact ⟨rfl,if_neg (by unfold oldW; rw [h1,decide_eq_false h2]; decide),hg.trans g3⟩
  ·walk_at "g"
   exact ⟨rfl,if_neg (by unfold oldW; rw [h1]; exact Bool.false_ne_true),hg⟩
 rw [fm_filter]
 have o2:=o1.gr hg
 have o3:=Own.newF (A:=w.cells++b.cells) (F:=F) (g:=.list ((w.talks.filter (oldW (n+dt))).map fun x=>PV.ref x.ad)) (by rw [List.append_assoc]; exact o2) hoa
 rw [List.append_assoc] at o3
 have z:=t_law9 hC S k h12 o3
 walk_at "g"
 exact z.looks (subF_is rfl)
theorem t_law6 {w:Wd}{n:Int}{b:Bk}{sa:Addr}{ks:List Int}{m:Nat}(S:Sim w b) (k:TalksOk w) (h12:w.talks.length≤30) (hsc:∀H,LsAt C H sa (ks.map .int)) (hks:ks.length≤1000) (hm:m≤12)
  (o:Own H (w.cells++(b.cells++F))) :
  ExOk C 7 (scOf (stAt 85)) ((bodyOf (stAt 85)).drop 6) [("book",.ref b.ba),("script",.ref sa),("many",.int m),("now",.int n),("world",.ref w.wa)] H fun fl _ H'=>flv fl=.bool true:=by
 refine wp_ok (C:=C) (n:=7) (sc:=scOf (stAt 85)) hC.wok 300 (.exn 1 _ _ _ _) ?_
 walk_at "g"
 refine up (t_cmp hC (Q:=fun v u H'=>∃d,Dt C H' v d∧Dt C H' u d∧Lay 5 d∧(∃xs,u=.tup xs)∧Own H' (w.cells++(b.cells++F))) S k h12 o fun v u H' d d1 d2 l _ ht o'=>⟨d,d1,d2,l,ht,o'⟩) rfl fun v H2 h=>?_
 walk_at "g"
 refine up h rfl fun u H3 h=>?_
 refine byP fun PG kG=>?_
 obtain ⟨d,d1,d2,l,⟨xs,rfl⟩,o3⟩:=h
 refine kG ?_
 walk_at "g"
 refine op_ne_same d1 d2 l (by decide) ⟨_,rfl,?_⟩
 have ow:=o3.swap
 rw [cellsW_is] at ow
 walk_at "g"
 refine getI hC (b_ba ow) (b_bd ow) rfl rfl rfl ?_
 walk_at "g"
 refine subS (w_hd o3) rfl ?_
 walk_at "g"
 refine c_len (.inl (w_tl o3)) (by rw [List.length_map]; exact Nat.le_trans (by assumption) (by decide)) ?_
 rw [List.length_map]
 walk_at "g"
 refine And.intro (fun h=>absurd S.last h) (fun _=>?_)
 walk_at "g"
 exact (t_law7 hC S k h12 hsc hks hm o3).looks (subF_is rfl)
end
section
variable {C:Cfg}(hC:CK C) {H:GHeap}{F:List Cell}
include hC
theorem t_turn {w:Wd}{b:Bk}{sa:Addr}{ks:List Int}{m i:Nat}{now:Int}{R:Fl→Vars→GHeap→Prop}(S:Sim w b) (W:WN w i) (hi:i<12) (hsc:∀H,LsAt C H sa (ks.map .int)) (hks:ks.length≤1000)
  (o:Own H (w.cells++(b.cells++F)))
  (q:∀w' b' now' H',Sim w' b'→WN w' (i+1)→w'.wa=w.wa→b'.ba=b.ba→Own H' (w'.cells++(b'.cells++F))→∀fr',subF [("now",.int now'),("world",.ref w.wa),("book",.ref b.ba),("script",.ref sa),("many",.int m)] fr'→R .next fr' H') :
  ∀body,body=(match ((bodyOf (stAt 85)).drop 5).head? with | some (.For _ _ bd _ _)=>bd | _=>[]) →
  ExN C 7 (scOf (stAt 85)) body [("number",.int i),("now",.int now),("world",.ref w.wa),("book",.ref b.ba),("script",.ref sa),("many",.int m)] H R:=by
 intro body hbody
 subst hbody
 have V:∀j,wp C 7 (scOf (stAt 85)) 300 j→j.Ok C 7 (scOf (stAt 85)):=wp_ok hC.wok 300
 obtain ⟨hOk,hInv⟩:=W.ok (by exact Nat.le_trans (Nat.le_of_lt (by assumption)) (by decide))
 refine exN_cons (SOk.calm (V (.st _ _ _ _) ?_))
 walk_at "g"
 refine c_range ?_
 refine compG hC.wok (List.range 3) (f:=fun j=>PV.int (j:Nat)) (fun j=>some (.int (drawZ ks (3*i+j)))) (fun H' _=>.rng 3 (by decide)) rfl (by decide) (fun j H' hj hg=>?_) (fun H1 dr hg hdr=>?_)
 ·have hj3:=List.mem_range.mp hj
  walk_at "g"
  refine ⟨rfl,?_⟩
  walk_at "g"
  refine up (t_draw hC (hsc H') hks (i:=3*i+j) (by lia)) rfl fun v H2 h=>?_
  obtain ⟨rfl,g⟩:=h
  exact ⟨rfl,hg.trans g⟩
 have o1:=(o.gr hg).gr (Gr.new (g:=.list ((List.range 3).filterMap fun j=>some (PV.int (drawZ ks (3*i+j))))) hdr)
 have hdr1:=GHeap.set_same H1 dr (.list ((List.range 3).filterMap fun j=>some (PV.int (drawZ ks (3*i+j)))))
 revert o1 hdr1
 generalize GHeap.set H1 dr _=H2
 intro o1 hdr1
 have te:=t_event hC (now:=now) (number:=i) (a:=drawZ ks (3*i+0)) (b:=drawZ ks (3*i+1)) (c:=drawZ ks (3*i+2)) hOk hInv o1 (drawZ_nn _ _) (drawZ_nn _ _) (drawZ_nn _ _) hdr1
 walk_at "g"
 refine up te rfl fun v H3 h=>?_
 refine byP fun PG kG=>?_
 obtain ⟨now',zone,wire,e,E,rfl,rfl,hnum,rfl,seen,res,mk,any,w',T,ra,xa,da,rs,rfl,o3⟩:=h
 refine kG ?_
 walk_at "g"
 refine exN_cons (SOk.calm (V (.st _ _ _ _) ?_))
 have hra:=o3.at_ (ra,_) (List.mem_append_right _ (.head _))
 walk_at "g"
 refine subS hra rfl ?_
 walk_at "g"
 have o4:Own H3 (b.cells++((w'.cells++[(ra,.sdict (e.row mk xa any).kv),(da,.list [seen,.ref rs,.none]),(rs,.list res),(xa,.list (e.specs.map Spec.pv))])++F)):=Own.swap (by rw [List.append_assoc]; exact o3)
 refine exN_cons (stN_if (tsN_compare (evN_call (V (.ev _ _ _ _) ?_) (by with_unfolding_all rfl) (by with_unfolding_all rfl)) (by with_unfolding_all rfl)))
 walk_at "g"
 refine ⟨fnKnown_is hC.wok rfl,evsN_cons (EvOk.calm (V (.ev _ _ _ _) ?_)) (by with_unfolding_all rfl)⟩
 walk_at "g"
 refine V (.evs _ _ _ _) ?_
 walk_at "g"
 have hel:=W.el
 have htl:=W.tl
 have hlen:=S.len
 refine CallN.mono (t_do hC S E T (by rw [hnum]; exact Int.natCast_nonneg _) (by lia) (by lia) o4 (List.mem_append_left _ (List.mem_append_right _ (.head _))) (List.mem_append_left _ (List.mem_append_right _ (.tail _ (.tail _ (.tail _ (.head _))))))) fun v H4 h=>?_
 refine byP fun PG kG=>?_
 obtain ⟨da2,rs2,b',rfl,S',hba,o5⟩:=h
 have z:∀c∈[(ra,GObj.sdict (e.row mk xa any).kv),(da,.list [seen,.ref rs,.none]),(rs,.list res),(xa,.list (e.specs.map Spec.pv))],H4 c.1=some c.2:=fun c hc=>o5.at_ c (List.mem_append_right _ (.tail _ (.tail _ (List.mem_append_left _ (List.mem_append_right _ hc)))))
 obtain ⟨d,d1,d2,l⟩:=due_alike (C:=C) (step_tame T).1 (step_tame T).2 (o5.at_ (da2,_) (List.mem_append_right _ (.head _))) (o5.at_ (rs2,_) (List.mem_append_right _ (.tail _ (.head _)))) (z _ (.tail _ (.head _))) (z _ (.tail _ (.tail _ (.head _))))
 refine kG ?_
 refine V (.ev _ _ _ _) ?_
 walk_at "g"
 refine op_ne_same d1 d2 l (by decide) ⟨_,rfl,⟨fun h=>(by cases h),fun _=>?_⟩⟩
 refine V (.ex _ _ _ _) ?_
 walk_at "g"
 refine ExOk.calm (V (.ex _ _ _ _) ?_)
 walk_at "g"
 refine q w' b' e.now H4 S' (W.step E T) (step_wa T) hba ?_ _ rfl
 have o6:Own H4 (b'.cells++((w'.cells++[(ra,.sdict (e.row mk xa any).kv),(da,.list [seen,.ref rs,.none]),(rs,.list res),(xa,.list (e.specs.map Spec.pv))])++F)):=o5.sub (List.Sublist.append_left (.cons _ (.cons _ (List.Sublist.refl _))) _)
 exact Own.swap (o6.sub (List.Sublist.append_left ((List.sublist_append_left _ _).append_right _) _))
end
section
theorem pick_nd {α:Type}{L:List α}(hL:L.Nodup):∀{l:List Nat},l.Nodup→(l.filterMap (L[·]?)).Nodup
 | [],_=>List.nodup_nil
 | i::r,h=>by
  obtain ⟨h1,h2⟩:=List.nodup_cons.mp h
  have ih:=pick_nd hL h2
  rw [List.filterMap_cons]
  cases e:L[i]? with
  | none=>exact ih
  | some a =>
   refine List.nodup_cons.mpr ⟨fun hm=>?_,ih⟩
   obtain ⟨j,hj,ej⟩:=List.mem_filterMap.mp hm
   have hi:=(List.getElem?_eq_some_iff.mp e).1
   have:i=j:=(List.getElem?_inj hi hL).mp (e.trans ej.symm)
   exact h1 (this▸hj)
theorem Own.pick {H:GHeap}{L L':List Cell}(o:Own H L) (l:List Nat) (hl:l.Nodup) (h:l.filterMap (L[·]?)=L'):Own H L':=by
 subst h
 refine ⟨fun p hp=>?_,?_⟩
 ·obtain ⟨j,_,e⟩:=List.mem_filterMap.mp hp
  exact o.at_ p (List.mem_of_getElem? e)
 ·have z:=pick_nd o.nd hl
  rw [show (fun i=>(L.map (·.1))[i]?)=fun i=>(L[i]?).map (·.1) from funext fun i=>List.getElem?_map] at z
  rw [List.map_filterMap]
  exact z
variable {C:Cfg}(hC:CK C) {H:GHeap}{F:List Cell}
include hC
noncomputable abbrev fillBody:List Stmt:=match ((bodyOf (stAt 85)).drop 3).head? with | some (.For _ _ bd _ _)=>bd | _=>[]
theorem t_fill {a t tr x dx sa wa:Addr}{m:Nat}{key:Int}{kvs:List (Int×PV)}{bkv:List (Str×PV)}{A B:List Cell}{R:Fl→Vars→GHeap→Prop}(hx:(x,.inst 145 dx)∈A) (hdx:(dx,.sdict bkv)∈A) (hb:bkv.lookup ("trackers" : Str)=some (.ref tr)) (hz:kvs.length≤1000)
  (o:Own H ((a,.idict [(key,.ref t)])::(A++((tr,.idict kvs)::B))))
  (q:∀H',Own H' (A++((tr,.idict (putD key (.ref t) kvs))::B))→∀fr',subF [("book",.ref x),("script",.ref sa),("many",.int m),("world",.ref wa)] fr'→R .next fr' H') :
  ExOk C 7 (scOf (stAt 85)) fillBody [("group",.ref a),("book",.ref x),("script",.ref sa),("many",.int m),("world",.ref wa)] H R:=by
 have V:∀j,wp C 7 (scOf (stAt 85)) 300 j→j.Ok C 7 (scOf (stAt 85)):=wp_ok hC.wok 300
 refine ex_cons (st_for (ev_freeze (V (.ev _ _ _ _) ?_)) (fun _ _=>by with_unfolding_all rfl))
 walk_at "g"
 refine ⟨a,_,rfl,o.hd,fun ep=>⟨.keys a ep,_,.keys (GHeap.set_same _ _ _),by show 1<2^62; decide,?_⟩⟩
 have o1:Own _ ((a,.fdict [(key,.ref t)] ep)::(A++((tr,.idict kvs)::B))):=o.put (g':=.fdict [(key,.ref t)] ep)
 have ha:=o1.hd
 revert o1 ha
 generalize GHeap.set H a _=H1
 intro o1 ha
 refine for_cons (.keys ha) (i:=0) (x:=.int key) rfl (V (.as _ _ _ _ _) ?_)
 walk_at "g"
 refine ex_cons (st_assign (ev_subF (V (.ev _ _ _ _) ?_)) (by with_unfolding_all rfl) (fun _=>by with_unfolding_all rfl) (fun _=>by with_unfolding_all rfl))
 walk_at "g"
 refine V (.ev _ _ _ _) ?_
 walk_at "g"
 refine ⟨a,key,_,ep,.ref t,rfl,rfl,ha,by rw [List.lookup_cons,beq_self_eq_true],?_⟩
 refine V (.as _ _ _ _ _) ?_
 walk_at "g"
 refine getI hC (o1.tl.at_ _ (List.mem_append_left _ hx)) (o1.tl.at_ _ (List.mem_append_left _ hdx)) rfl hb rfl ?_
 walk_at "g"
 refine si_idict (o1.tl.at_ (tr,_) (List.mem_append_right _ (.head _))) hz ?_
 have o2:=Own.putF (A:=(a,.fdict [(key,.ref t)] ep)::A) (g':=.idict (putD key (.ref t) kvs)) o1
 walk_at "g"
 refine V (.ex _ _ _ _) ?_
 walk_at "g"
 refine for_nil (.keys (Own.hd o2)) rfl ?_
 walk_at "g"
 refine V (.ex _ _ _ _) ?_
 walk_at "g"
 exact q _ (Own.tl o2) _ rfl
end
section
theorem sim_start {wa tl el wl ba bd tb tk tr t17 tm xl fl:Addr}:Sim ⟨wa,tl,el,wl,[],[],[]⟩ ⟨ba,bd,tb,tk,tr,t17,tm,xl,fl,0,[],[]⟩ :=
 ⟨rfl,rfl,fun i x y h=>by simp at h,fun i x h=>by simp at h,rfl,fun e h=>(by cases h),⟨List.nodup_nil,List.nodup_nil,fun x h=>(by cases h),Nat.zero_le _,Nat.zero_le _⟩⟩
theorem wn_start {wa tl el wl:Addr}:WN ⟨wa,tl,el,wl,[],[],[]⟩ 0 :=
 ⟨Nat.le_refl _,Nat.le_refl _,Nat.le_refl _,fun x h=>(by cases h),fun x h=>(by cases h),fun x h=>(by cases h),fun x h=>(by cases h)⟩
variable {C:Cfg}(hC:CK C) {H:GHeap}{F:List Cell}
include hC
theorem t_law5 {w:Wd}{b:Bk}{sa:Addr}{ks:List Int}{m:Nat}{now:Int}(S:Sim w b) (W:WN w 0) (hm:m≤12) (hsc:∀H,LsAt C H sa (ks.map .int)) (hks:ks.length≤1000)
  (o:Own H (w.cells++(b.cells++F))) :
  ExN C 7 (scOf (stAt 85)) ((bodyOf (stAt 85)).drop 5) [("now",.int now),("world",.ref w.wa),("book",.ref b.ba),("script",.ref sa),("many",.int m)] H fun fl _ H'=>flv fl=.bool true:=by
 have V:∀j,wp C 7 (scOf (stAt 85)) 300 j→j.Ok C 7 (scOf (stAt 85)):=wp_ok hC.wok 300
 refine exN_cons (stN_for (V (.ev _ _ _ _) ?_) (fun _ _=>by with_unfolding_all rfl))
 walk_at "g"
 refine c_range ⟨.rng m,_,.rng m (by exact Nat.lt_of_le_of_lt (by assumption) (by decide)),by rw [List.length_map,List.length_range]; exact Nat.lt_of_le_of_lt (by assumption) (by decide),?_⟩
 have hlen:((List.range m).map fun i=>PV.int (i:Nat)).length=m:=by rw [List.length_map,List.length_range]
 refine forN_st (σ:=Wd×Bk×Int) (fun s=>[("now",.int s.2.2),("world",.ref w.wa),("book",.ref b.ba),("script",.ref sa),("many",.int m)]) (fun i s H'=>Sim s.1 s.2.1∧WN s.1 i∧s.1.wa=w.wa∧s.2.1.ba=b.ba∧Own H' (s.1.cells++(s.2.1.cells++F))) (w,b,now) rfl ⟨S,W,rfl,rfl,o⟩ (fun _ _ _ _=>.rng m (by exact Nat.lt_of_le_of_lt (by assumption) (by decide))) (fun i x s H1 hx h=>?_) (fun s H1 h=>?_)
 ·obtain ⟨w1,b1,now1⟩:=s
  refine byP fun PG kG=>?_
  obtain ⟨S1,W1,hw,hb,o1⟩:=h
  refine kG ?_
  have hi:i<m:=by have:=(List.getElem?_eq_some_iff.mp hx).1; lia
  have ex:x=.int (i:Nat):=by
   rw [List.getElem?_map,List.getElem?_range hi] at hx
   exact (Option.some.inj hx).symm
  subst ex
  refine V (.as _ _ _ _ _) ?_
  walk_at "g"
  have t:=t_turn hC (now:=now1) (m:=m) (R:=fun fl fr2 H2=>loopF (∃s':Wd×Bk×Int,subF [("now",.int s'.2.2),("world",.ref w.wa),("book",.ref b.ba),("script",.ref sa),("many",.int m)] fr2∧Sim s'.1 s'.2.1∧WN s'.1 (i+1)∧s'.1.wa=w.wa∧s'.2.1.ba=b.ba∧Own H2 (s'.1.cells++(s'.2.1.cells++F)))
   (thenF (ExN C 7 (scOf (stAt 85)) ((bodyOf (stAt 85)).drop 6) fr2 H2 fun fl _ H'=>flv fl=.bool true) (flv Fl.next=.bool true) .next) (fun v=>flv (Fl.ret v)=.bool true) fl) S1 W1 (by exact Nat.lt_of_lt_of_le (by assumption) (by assumption)) hsc hks o1 (fun w' b' now' H' S' W' e1 e2 o' fr' l=>⟨(w',b',now'),by rw [hw,hb] at l; exact l,S',W',e1.trans hw,e2.trans hb,o'⟩) _ rfl
  rw [hw,hb] at t
  exact t
 ·obtain ⟨w1,b1,now1⟩:=s
  refine byP fun PG kG=>?_
  obtain ⟨S1,W1,hw,hb,o1⟩:=h
  refine kG ?_
  rw [hlen] at W1
  have htl:=W1.tl
  have z:=t_law6 hC (n:=now1) (m:=m) S1 (W1.ok (by exact Nat.le_trans (by assumption) (by decide))).1.k (by lia) hsc hks hm o1
  rw [hw,hb] at z
  exact ExOk.calm (z.looks (subF_is rfl))
end
section
theorem many_is (l:Nat):∃m:Nat,m≤12∧(7+if (l:Int)/6<5 then (l:Int)/6 else 5)=(m:Int):=by
 refine ⟨7+min 5 (l/6),Nat.add_le_add_left (Nat.min_le_left _ _) 7,?_⟩
 split
 ·rename_i h; rw [Nat.min_eq_right (Nat.le_of_lt (Int.ofNat_lt.mp h))]; rfl
 ·rename_i h; rw [Nat.min_eq_left (Nat.not_lt.mp fun z=>h (Int.ofNat_lt.mpr z))]; rfl
variable {C:Cfg}(hC:CK C) {F:List Cell}
include hC
theorem t_law {sa:Addr}{ks:List Int}{H:GHeap}(o:Own H []) (hsc:∀H,LsAt C H sa (ks.map .int)) (hks:ks.length≤1000) :
  CallN C 8 (.ref 555) [.ref sa] H (fun v _=>v=.bool true):=by
 refine CodeN.call ?_
 refine fn_codeN hC (stAt 85) (n:=7) (dv:=[]) (dx:=[]) (fr:=[("script",.ref sa)]) rfl rfl rfl (by kernel_rfl) (fun s X v0=>BindsTo.of_eq (by kernel_rfl)) (fun _=>.nil) ?_
 have V:∀j,wp C 7 (scOf (stAt 85)) 300 j→j.Ok C 7 (scOf (stAt 85)):=wp_ok hC.wok 300
 refine exN_cons (SOk.calm (V (.st _ _ _ _) ?_))
 walk_at "g"
 refine c_len (hsc _) (by rw [List.length_map]; exact Nat.le_trans (by assumption) (by decide)) ?_
 rw [List.length_map]
 walk_at "g"
 refine c_min ?_
 obtain ⟨m,hm,em⟩:=many_is ks.length
 walk_at "g"
 rw [em]
 refine exN_cons (SOk.calm (V (.st _ _ _ _) ?_))
 walk_at "g"
 intro l1 h1
 have o1:=o.new (g:=.list []) h1
 revert o1
 generalize GHeap.set H l1 _=H1
 intro o1
 walk_at "g"
 intro l2 h2
 have o2:=o1.new (g:=.list []) h2
 revert o2
 generalize GHeap.set H1 l2 _=H2
 intro o2
 walk_at "g"
 intro l3 h3
 have o3:=o2.new (g:=.list []) h3
 revert o3
 generalize GHeap.set H2 l3 _=H3
 intro o3
 walk_at "g"
 intro wa h4
 have o4:=o3.new (g:=.sdict [("talks",.ref l1),("expects",.ref l2),("wires",.ref l3)]) h4
 revert o4
 generalize GHeap.set H3 wa _=H4
 intro o4
 walk_at "g"
 refine exN_cons (SOk.calm (V (.st _ _ _ _) ?_))
 walk_at "g"
 refine CallOk.le (CodeOk.call (call_class (n:=1) (makeable hC (p:=(145,142)) (.tail _ (.tail _ (.head _)))) fun x dx h5 h6=>?_)) (show 2≤7 by decide)
 refine CodeOk.mono (i_book hC (o4.mk2 h5 h6)) fun v H5 h=>?_
 obtain ⟨rfl,tb,tk,tr,xl,fl,o5⟩:=h
 refine ⟨rfl,?_⟩
 walk_at "g"
 refine exN_cons (SOk.calm (V (.st _ _ _ _) ?_))
 walk_at "g"
 refine up (t_udps hC o5) rfl fun v H6 h=>?_
 obtain ⟨a,t17,rfl,o6⟩:=h
 walk_at "g"
 refine up (t_plains hC o6) rfl fun v H7 h=>?_
 obtain ⟨a2,tm,rfl,o7⟩:=h
 walk_at "g"
 refine ⟨_,_,.tup _,by show 2<2^62; decide,?_⟩
 refine for_cons (.tup _) (i:=0) (x:=.ref a) rfl (V (.as _ _ _ _ _) ?_)
 walk_at "g"
 refine ExOk.looks (fr':=[("group",.ref a),("book",.ref x),("script",.ref sa),("many",.int m),("world",.ref wa)]) ?_ (subF_is rfl)
 have o8:=o7.pick (L':=(a,.idict [(17,.ref t17)])::([_,_,_,_,_,_,_,_,_,_,_,_,_]++[(tr,.idict [])])) [2,0,1,3,4,5,6,7,9,10,11,12,13,14,8] (by decide) rfl
 refine t_fill hC (.tail _ (.tail _ (.tail _ (.head _)))) (.tail _ (.tail _ (.tail _ (.tail _ (.head _))))) rfl (Nat.zero_le _) o8 fun H8 o9 fr' l=>?_
 refine ForOk.looks (fr':=[("book",.ref x),("script",.ref sa),("many",.int m),("world",.ref wa)]) ?_ l
 refine for_cons (.tup _) (i:=1) (x:=.ref a2) rfl (V (.as _ _ _ _ _) ?_)
 walk_at "g"
 have o10:=Own.pick (L':=(a2,.idict [(-1,.ref tm)])::([_,_,_,_,_,_,_,_,_,_,_,_]++[(tr,.idict [(17,.ref t17)])])) o9 [0,1,2,3,4,5,6,7,8,9,10,11,12,13] (by decide) rfl
 refine t_fill hC (.tail _ (.tail _ (.head _))) (.tail _ (.tail _ (.tail _ (.head _)))) rfl (Nat.le_of_ble_eq_true rfl) o10 fun H10 o11 fr' l=>?_
 refine ForOk.looks (fr':=[("book",.ref x),("script",.ref sa),("many",.int m),("world",.ref wa)]) ?_ l
 refine for_nil (.tup _) rfl ?_
 walk_at "g"
 refine exN_cons (SOk.calm (V (.st _ _ _ _) ?_))
 walk_at "g"
 have o12:Own H10 ((⟨wa,l1,l2,l3,[],[],[]⟩:Wd).cells++((⟨x,dx,tb,tk,tr,t17,tm,xl,fl,0,[],[]⟩:Bk).cells++[])):=o11.pick [8,11,10,9,2,3,7,6,5,12,1,0,4] (by decide) rfl
 exact (t_law5 hC sim_start wn_start hm hsc hks o12).looks rfl
end
theorem ints_of:∀{xs:List WData},WShape.hasItems [] xs .int=true→∃ks:List Int,xs=ks.map .int
 | [],_=>⟨[],rfl⟩
 | x::r,h=>by
  have h':WShape.has [] x .int=true∧WShape.hasItems [] r .int=true:=by simpa [WShape.hasItems] using h
  obtain ⟨i,rfl⟩:=hasW_int h'.1
  obtain ⟨ks,rfl⟩:=ints_of h'.2
  exact ⟨i::ks,rfl⟩
theorem tells_ints {R:WRecords}{cl:Str→Option Addr}{h:Heap}:∀{ks:List Int}{vs:List Value}{as:List Addr},ReadsAllW R cl h vs (ks.map .int) as→TellsL h vs (ks.map .int)
 | [],_,_,r=>by cases r; exact .nil
 | k::ks,_,_,r=>by
  cases r with
  | cons a b =>
   cases a
   exact .cons (.int _ _) (tells_ints b)
noncomputable abbrev lawRow:RowW:=PySem.Challenge.rw_pq1097_01.row.toRowW
theorem pre_is {args:List WData}(h:lawRow.claim.pre args=true):∃ks:List Int,args=[.list (ks.map .int)]∧ks.length≤63:=by
 obtain ⟨h1,h2⟩:=pre_splitW h
 obtain ⟨d,r,rfl,a,b⟩:=hasAllW_cons h1
 obtain rfl:=hasAllW_nil b
 obtain ⟨xs,rfl,c⟩:=hasW_list a
 obtain ⟨ks,rfl⟩:=ints_of c
 refine ⟨ks,rfl,?_⟩
 by_cases hk:ks.length≤63
 ·exact hk
 ·exfalso
  have h3:lawRow.pre.holds [] {args:=[.list (ks.map .int)]}=true:=h2
  rw [show lawRow.pre=.and (.not (.lt (.lit (.int 63)) (.len (.arg 0)))) (.lit (.bool true)) from rfl] at h3
  unfold WTm.holds at h3
  have e:W.less? (.int 63) (.int ks.length)=some true:=by
   have z:W.less? (.int 63) (.int ks.length)=some (decide ((63:Int)<ks.length)):=by simp [W.less?,Num.less?]
   rw [z,decide_eq_true (show (63:Int)<ks.length from Int.ofNat_lt.mpr (Nat.not_le.mp hk))]
  simp [WTm.value,e] at h3
theorem law_walk {w:World}{s₁:Shared}{mg mb:Str→Option Value}{cl:Str→Option Addr}{mean:ExcName→Option Value}{fa:Addr}{args:List WData}{vals:List Value}{as:List Addr}
  (hg:s₁.heap.Ns mainGlobals mg) (hb:s₁.heap.Ns builtinsNs mb) (hl:s₁.heap.NoLimit) (hbi:∀x:Str,x ≠ "__name__" → mb x=bootBuiltins x) (hm:∃o,s₁.heap.get? sysModules=some o)
  (Y:(KL w.params).In s₁.heap) (hfa:mg (Str.ofString "law")=some (.ref fa)) (hgen:s₁.gens=#[]) (hpre:lawRow.claim.pre args=true) (hrd:ReadsAllW [] cl s₁.heap vals args as) :
  wpN (model pw w) callerA (PySem.call (.ref fa) vals) (fun v s'=>GoodWG lawRow.claim cl mean args s₁ (.ok (.ret v)) s') s₁:=by
 obtain ⟨ks,rfl,hk⟩:=pre_is hpre
 obtain ⟨v,sa,rfl,hv⟩:∃v sa,vals=[v]∧ReadsW [] cl s₁.heap v (.list (ks.map .int)) sa:=by
  cases hrd with
  | cons a b=>cases b; exact ⟨_,_,rfl,a⟩
 let C:Cfg:=⟨pw,w,s₁.heap,s₁.os,KL w.params,mg,mb,Y,hg,hb,hl,hm⟩
 have hC:CK C:=⟨rfl,hbi⟩
 have efa:fa=555:=by
  have z:=hfa.symm.trans (esOf_is (C:=C) (by kernel_rfl) (Str.ofString "law"))
  have z2:nsFind (esOf (KL w.params)) (Str.ofString "law")=some (.ref 555):=by kernel_rfl
  have z3:=z.trans z2
  cases z3
  rfl
 subst efa
 cases hv with
 | @list a o vs n xs as ho hc hd hr =>
  have hsc:∀H,LsAt C H a (ks.map .int):=fun H=>.inr ⟨vs.toList,⟨o,ho,hc,n,hd⟩,tells_ints hr⟩
  have S:St C s₁.heap.get? (fun _=>none) s₁:=⟨fun _ _ e=>e,fun _ _ e=>e,fun _ _ e=>(by cases e),fun _ _ e=>(by cases e),hgen,rfl⟩
  have t:=(t_law hC (H:=fun _=>none) ⟨fun _ h=>(by cases h),List.nodup_nil⟩ hsc (by exact Nat.le_trans (by assumption) (by decide))).run callerA _ s₁ (.ref 555) [.ref a] (Rm.caller.le (by decide)) S (.ref _) (.cons (.ref _) .nil)
  refine wpN_mono t fun u s' h=>?_
  obtain ⟨x,H',S',tu,rfl⟩:=h
  cases tu
  exact ⟨.inl ⟨_,.bool true,[],rfl,fun _=>rfl,.bool _,by wrow_post,fun _=>⟨List.nodup_nil,fun _ h=>(by cases h)⟩⟩,.of_keep S'.kept,S'.os,.of_eq S'.gens⟩
end Mine
end
section
set_option maxRecDepth 100000
namespace Mine
theorem h_calm:CalmWalk vw looseL (XL vw []) (Hook.says hk) rr.toRowW lawD []:=by
 intro w s₀ s₁ mg mb G Y fa o pm cd doc dV kV ho hd hcd hD hmg hg args vals as hpre hlay hrd hwl hlo
 obtain ⟨mm,⟨ob,_,_,hob,_⟩,_⟩:=(G.T.seer h_imp).mods
 exact law_walk G.T.g G.T.b G.T.nolimit G.T.builtins ⟨ob,hob⟩ (kIn_of Y) hmg hg hpre hrd
end Mine
end
theorem PySem.Challenge.cw_pq1097_01_holds : PySem.Challenge.rw_pq1097_01.Holds :=
  holds_law Mine.h_said fun said => Mine.head_calm Mine.h_left (Hook.of Mine.hk) (Hook.keeps Mine.hk) (fun s e => xl_of s (Bool.and_eq_true_iff.mp e).1) XL.keeps Mine.h_def Mine.h_the Mine.h_kw (fun s e => recFacts_of (Bool.and_eq_true_iff.mp e).2) rfl said Mine.h_ok Mine.h_bare Mine.h_wit Mine.h_calm
