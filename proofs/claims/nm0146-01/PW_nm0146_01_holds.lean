import PyProof.Rows.All
import Wide.All
import OpenK.AllK
import Wide.FinOn
import KE.BytesMake
import KE.KEqSeq
import KE.KPairComp
import KE.KTryMore
import PyProof.IsiNone
import PyProof.LetGo
import PyProof.Rows.DictMod
import PyProof.Rows.StrJoinRep
import PyProof.StrLawsLast
import PyProof.StrWalks
import PyProof.ZipIter
import PySem.Challenge.RW_nm0146_01
open PySem PySem.W PyProof.Rows PySem.Calls PySem.Spec PyProof.Rows.TI
set_option Elab.async false
set_option linter.all false
set_option bootstrap.genMatcherCode false
set_option genSizeOf false
set_option genInjectivity false
set_option compiler.extract_closed false
set_option maxRecDepth 100000
set_option maxHeartbeats 0
set_option tactic.hygienic false
set_option hygiene false
open _root_.PySem.Str renaming ofString → J0
open _root_.PySem renaming wpAny_bind → J1, mainGlobals → J3, sizeLine → J5, sizeLine_eq → J9, wpAny_pure → K1, starEach → K7, foldedSetIterable → V1, wpAny_specialOf → W7, bootBuiltins → W9, swappedStores → Y2, swapsWith → Y3
open _root_.List renaming prefix_refl → J2, getElem?_eq_some_iff → J4, mem_singleton → J6, not_mem_nil → J8, append_assoc → K0, mem_cons → K2, prefix_append → K4, mem_cons_self → K5, mem_cons_of_mem → K6, length_map → K8, nodup_cons → K9, getElem?_append_left → Q0, mem_append → Q1, size_toArray → Q2, getElem?_append_right → Q6, mem_append_right → Q7, getElem?_set_self → Q8, mem_map_of_mem → Q9, map_append → V0, mem_append_left → V4, getElem?_set_ne → V5, length_append → V6, nodup_nil → V7, mem_of_getElem? → V8, mem_map → V9, replicate_succ → W6, all_eq_true → W8, getElem?_eq_getElem → Y1
open _root_.Nat renaming le_trans → J7, ne_of_lt → W3, ne_of_gt → W5, add_le_add → Y0
open _root_.PySem.Heap renaming get?_push_of_some → K3, get?_push_size → Q5, get?_none_of_le → V3, get?_update_other → W4
open _root_.Bool renaming and_eq_true → V2
namespace Mine
namespace Internal
theorem Dt{G:Prop}(h:∀ P:Prop,(G→P)→P):G:=h G id
inductive V where
 | none
 | bool (b:Bool)
 | int (i:Int)
 | str (s:Str)
 | byt (b:Array UInt8)
 | top (a:Addr)
 | ty (n:String)
 | bi (n:String)
 | obj (i:Nat)
inductive O where
 | inst (C:Addr) (d:Nat)
 | dict (fs:List (Str×V))
 | list (xs:List V)
 | tup (xs:List V)
 | barr (b:Array UInt8)
 | cell (v:Option V)
 | exc (C:Addr) (d:Option Nat)
 | excT (C:Addr) (d:Option Nat)
 | raw (ob:Obj)
 | tab (ps:List (Pos×Nat))
 | code (qual:Str)
 | fn (name qual:Str) (params:Arguments) (body:FuncBody) (scope:Scope) (cl:List (Str×Nat)) (cd:Nat)
noncomputable def VR(ρ:List Addr):V→Value→Prop
 | .none,v=>v=.none
 | .bool b,v=>v=.bool b
 | .int i,v=>∃ t,v=.int i t
 | .str s,v=>∃ t,v=.str s t
 | .byt b,v=>∃ t,v=.bytes b t
 | .top a,v=>v=.ref a
 | .ty n,v=>v=.type n
 | .bi n,v=>v=.builtin n
 | .obj i,v=>∃ a,ρ[i]?=some a∧v=.ref a
noncomputable def bq(ρ:List Addr):List V→List Value→Prop
 | [],[]=>True
 | x::xs,v::vs=>VR ρ x v∧bq ρ xs vs
 | _,_=>False
noncomputable def FR(P:Params)(ρ:List Addr):List (Str×V)→List DictEntry→Prop
 | [],[]=>True
 | f::fs,e::es=>(e.hash=PyData.keyHash P f.1∧(∃ t,e.key=.str f.1 t)∧VR ρ f.2 e.val)∧FR P ρ fs es
 | _,_=>False
inductive FE(ρ:List Addr)(a:V)(vs:List Value):Prop
 | mk (v:Value) (e:vs=[v]) (h1:VR ρ a v) (t:True):FE ρ a vs
inductive FD(ρ:List Addr)(a b:V)(vs:List Value):Prop
 | mk (v w:Value) (e:vs=[v,w]) (h1:VR ρ a v) (h2:VR ρ b w) (t:True):FD ρ a b vs
inductive FC(ρ:List Addr)(a b c:V)(vs:List Value):Prop
 | mk (v w u:Value) (e:vs=[v,w,u]) (h1:VR ρ a v) (h2:VR ρ b w) (h3:VR ρ c u) (t:True):FC ρ a b c vs
inductive FB(ρ:List Addr)(a:V)(l:List V)(vs:List Value):Prop
 | mk (v:Value) (ws:List Value) (e:vs=v::ws) (h1:VR ρ a v) (h2:bq ρ l ws):FB ρ a l vs
inductive G3(P:Params)(ρ:List Addr)(f:Str×V)(fs:List (Str×V))(es:List DictEntry):Prop
 | mk (e:DictEntry) (es':List DictEntry) (h0:es=e::es') (h1:e.hash=PyData.keyHash P f.1∧(∃ t,e.key=.str f.1 t)∧VR ρ f.2 e.val) (h2:FR P ρ fs es'):G3 P ρ f fs es
theorem bq.c0{ρ:List Addr}{vs:List Value}(h:bq ρ [] vs):vs=[]:=by
 cases vs with
 | nil=>rfl
 | cons v vs=>exact h.elim
theorem bq.cc{ρ:List Addr}{a:V}{l:List V}{vs:List Value}(h:bq ρ (a::l) vs):FB ρ a l vs:=by
 cases vs with
 | nil=>exact h.elim
 | cons v vs=>exact⟨v,vs,rfl,h.1,h.2⟩
theorem bq.c1{ρ:List Addr}{a:V}{vs:List Value}(h:bq ρ [a] vs):FE ρ a vs:=by
 obtain⟨v,ws,rfl,h1,h2⟩:=bq.cc h
 cases bq.c0 h2
 exact⟨v,rfl,h1,trivial⟩
theorem bq.c2{ρ:List Addr}{a b:V}{vs:List Value}(h:bq ρ [a,b] vs):FD ρ a b vs:=by
 obtain⟨v,ws,rfl,h1,h2⟩:=bq.cc h
 obtain⟨w,rfl,h3,_⟩:=bq.c1 h2
 exact⟨v,w,rfl,h1,h3,trivial⟩
theorem bq.c3{ρ:List Addr}{a b c:V}{vs:List Value}(h:bq ρ [a,b,c] vs):FC ρ a b c vs:=by
 obtain⟨v,ws,rfl,h1,h2⟩:=bq.cc h
 obtain⟨w,u,rfl,h3,h4,_⟩:=bq.c2 h2
 exact⟨v,w,u,rfl,h1,h3,h4,trivial⟩
theorem FR.c0{P:Params}{ρ:List Addr}{es:List DictEntry}(h:FR P ρ [] es):es=[]:=by
 cases es with
 | nil=>rfl
 | cons v vs=>exact h.elim
theorem FR.cc{P:Params}{ρ:List Addr}{f:Str×V}{fs:List (Str×V)}{es:List DictEntry}(h:FR P ρ (f::fs) es):G3 P ρ f fs es:=by
 cases es with
 | nil=>exact h.elim
 | cons v vs=>exact⟨v,vs,rfl,h.1,h.2⟩
noncomputable def EU(vs:List Value):Obj:={ cls:=.type "tuple",data:=.seq vs.toArray}
noncomputable def gr(ρ:List Addr):List (Pos×Nat)→List Value→Prop
 | [],[]=>True
 | p::ps,x::y::z::vs=>(x=rawInt p.1.line∧y=rawInt p.1.col∧∃ a,ρ[p.2]?=some a∧z=.ref a)∧gr ρ ps vs
 | _,_=>False
noncomputable def y0(ρ:List Addr):List (Str×Nat)→List (Str×Addr)→Prop
 | [],[]=>True
 | p::ps,q::qs=>(p.1=q.1∧ρ[p.2]?=some q.2)∧y0 ρ ps qs
 | _,_=>False
noncomputable def OR(P:Params)(ρ:List Addr):O→Obj→Prop
 | .inst C d,o=>∃ a,ρ[d]?=some a∧o=instObj C a
 | .dict fs,o=>∃ es n,o=dictOf es n∧FR P ρ fs es
 | .list xs,o=>∃ vs n,o=listOf (List.toArray vs) n∧bq ρ xs vs
 | .tup xs,o=>∃ vs,o=EU vs∧bq ρ xs vs
 | .barr b,o=>o={ cls:=.type "bytearray",data:=.bytearray b}
 | .cell .none,o=>o.data=.cell .none
 | .cell (.some v),o=>∃ w,o.data=.cell (.some w)∧VR ρ v w
 | .exc C d,o=>(∃ vs,o.data=.fields vs∧6≤vs.size∧(∃ t0,vs[0]?=some (.ref t0))∧vs[1]?=some .none)∧o.cls=.ref C∧o.slots=#[]∧(match d with | .none=>o.dict=.none | .some d=>∃ a,ρ[d]?=some a∧o.dict=some a)
 | .excT C d,o=>(∃ vs,o.data=.fields vs∧6≤vs.size)∧o.cls=.ref C∧o.slots=#[]∧(match d with | .none=>o.dict=.none | .some d=>∃ a,ρ[d]?=some a∧o.dict=some a)
 | .raw ob,o=>o=ob
 | .tab ps,o=>∃ vs:List Value,o=tabObj vs.toArray∧gr ρ ps vs
 | .code qual,o=>∃ vs t,o.data=.fields vs∧vs[1]?=some (.str qual t)
 | .fn name qual params body scope cl cd,o=>∃ clos a doc pm ctv,o=kdv_obj name qual params body scope clos .none doc pm a ctv∧ρ[cd]?=some a∧y0 ρ cl clos
noncomputable def qE(P:Params)(ρ:List Addr):List O→List Obj→Prop
 | [],[]=>True
 | x::xs,o::os=>OR P ρ x o∧qE P ρ xs os
 | _,_=>False
structure sQ(ρ:List Addr)(ls:List (Str×V))(m:Str→Option Value):Prop where
 all:∀ p∈ls,∃ v,m p.1=some v∧VR ρ p.2 v
 nd:(ls.map (·.1)).Nodup
theorem aH{ρ ρ':List Addr}(h:ρ <+: ρ'){i:Nat}{a:Addr}(e:ρ[i]?=some a):ρ'[i]?=some a:=by
 obtain⟨t,rfl⟩:=h
 rw[Q0 (J4.mp e).1];exact e
theorem VR.mono{ρ ρ':List Addr}(h:ρ <+: ρ'):∀ {x:V} {v:Value},VR ρ x v→VR ρ' x v
 | .none,_,e=>e
 | .bool _,_,e=>e
 | .int _,_,e=>e
 | .str _,_,e=>e
 | .byt _,_,e=>e
 | .top _,_,e=>e
 | .ty _,_,e=>e
 | .bi _,_,e=>e
 | .obj _,_,⟨a,e,r⟩=>⟨a,aH h e,r⟩
theorem bq.mono{ρ ρ':List Addr}(h:ρ <+: ρ'):∀ {xs:List V} {vs:List Value},bq ρ xs vs→bq ρ' xs vs
 | [],[],_=>trivial
 | _::_,_::_,⟨a,b⟩=>⟨a.mono h,bq.mono h b⟩
 | [],_::_,e=>e.elim
 | _::_,[],e=>e.elim
theorem FR.mono{P:Params}{ρ ρ':List Addr}(h:ρ <+: ρ'):∀ {xs:List (Str×V)} {vs:List DictEntry},FR P ρ xs vs→FR P ρ' xs vs
 | [],[],_=>trivial
 | _::_,_::_,⟨⟨a,b,c⟩,d⟩=>⟨⟨a,b,c.mono h⟩,FR.mono h d⟩
 | [],_::_,e=>e.elim
 | _::_,[],e=>e.elim
theorem gr.mono{ρ ρ':List Addr}(h:ρ <+: ρ'):∀ {ps:List (Pos×Nat)} {vs:List Value},gr ρ ps vs→gr ρ' ps vs
 | [],[],_=>trivial
 | _::_,_::_::_::_,⟨⟨a,b,x,e,r⟩,t⟩=>⟨⟨a,b,x,aH h e,r⟩,gr.mono h t⟩
 | [],_::_,e=>e.elim
 | _::_,[],e=>e.elim
 | _::_,[_],e=>e.elim
 | _::_,[_,_],e=>e.elim
theorem y0.mono{ρ ρ':List Addr}(h:ρ <+: ρ'):∀ {ps:List (Str×Nat)} {vs:List (Str×Addr)},y0 ρ ps vs→y0 ρ' ps vs
 | [],[],_=>trivial
 | _::_,_::_,⟨⟨a,e⟩,t⟩=>⟨⟨a,aH h e⟩,y0.mono h t⟩
 | [],_::_,e=>e.elim
 | _::_,[],e=>e.elim
theorem OR.mono{P:Params}{ρ ρ':List Addr}(h:ρ <+: ρ'):∀ {x:O} {o:Obj},OR P ρ x o→OR P ρ' x o
 | .inst _ _,_,g=>Exists.imp (fun _ g=>⟨aH h g.1,g.2⟩) g
 | .dict _,_,g=>Exists.imp (fun _=>Exists.imp fun _ g=>⟨g.1,g.2.mono h⟩) g
 | .list _,_,g=>Exists.imp (fun _=>Exists.imp fun _ g=>⟨g.1,g.2.mono h⟩) g
 | .tup _,_,g=>Exists.imp (fun _ g=>⟨g.1,g.2.mono h⟩) g
 | .barr _,_,g=>g
 | .cell .none,_,g=>g
 | .cell (.some _),_,g=>Exists.imp (fun _ g=>⟨g.1,g.2.mono h⟩) g
 | .exc _ .none,_,g=>g
 | .exc _ (.some _),_,g=>⟨g.1,g.2.1,g.2.2.1,g.2.2.2.imp fun _ g=>⟨aH h g.1,g.2⟩⟩
 | .excT _ .none,_,g=>g
 | .excT _ (.some _),_,g=>⟨g.1,g.2.1,g.2.2.1,g.2.2.2.imp fun _ g=>⟨aH h g.1,g.2⟩⟩
 | .raw _,_,g=>g
 | .tab _,_,g=>Exists.imp (fun _ g=>⟨g.1,g.2.mono h⟩) g
 | .code _,_,g=>g
 | .fn ..,_,g=>Exists.imp (fun _=>Exists.imp fun _=>Exists.imp fun _=>Exists.imp fun _=>Exists.imp fun _ g=>⟨g.1,aH h g.2.1,g.2.2.mono h⟩) g
theorem qE.mono{P:Params}{ρ ρ':List Addr}(h:ρ <+: ρ'):∀ {xs:List O} {vs:List Obj},qE P ρ xs vs→qE P ρ' xs vs
 | [],[],_=>trivial
 | _::_,_::_,⟨a,b⟩=>⟨a.mono h,qE.mono h b⟩
 | [],_::_,e=>e.elim
 | _::_,[],e=>e.elim
theorem qE.len{P:Params}{ρ:List Addr}:∀ {xs:List O} {os:List Obj},qE P ρ xs os→xs.length=os.length
 | [],[],_=>rfl
 | _::_,_::_,⟨_,b⟩=>congrArg (· + 1) (qE.len b)
 | [],_::_,e=>e.elim
 | _::_,[],e=>e.elim
theorem qE.get{P:Params}{ρ:List Addr}:∀ {xs:List O} {os:List Obj},qE P ρ xs os→∀ {i:Nat} {x:O},xs[i]?=some x→∃ o,os[i]?=some o∧OR P ρ x o
 | _::_,o::_,⟨a,b⟩,i,x,e=>by
  cases i with
  | zero=>exact⟨o,rfl,by cases e;exact a⟩
  | succ i=>exact qE.get b (i:=i) (by simpa using e)
 | [],_::_,e,_,_,_=>e.elim
 | _::_,[],e,_,_,_=>e.elim
 | [],[],_,_,_,e=>by simp at e
theorem qE.set{P:Params}{ρ:List Addr}:∀ {xs:List O} {os:List Obj},qE P ρ xs os→∀ {i:Nat} {x:O} {o:Obj},OR P ρ x o→qE P ρ (xs.set i x) (os.set i o)
 | _::_,_::_,⟨a,b⟩,i,x,o,e=>by
  cases i with
  | zero=>exact⟨e,b⟩
  | succ i=>exact⟨a,qE.set b (i:=i) e⟩
 | [],_::_,h,_,_,_,_=>h.elim
 | _::_,[],h,_,_,_,_=>h.elim
 | [],[],_,_,_,_,_=>trivial
theorem qE.app{P:Params}{ρ:List Addr}:∀ {xs:List O} {os:List Obj},qE P ρ xs os→∀ {x:O} {o:Obj},OR P ρ x o→qE P ρ (xs++[x]) (os++[o])
 | _::_,_::_,⟨a,b⟩,_,_,e=>⟨a,qE.app b e⟩
 | [],_::_,h,_,_,_=>h.elim
 | _::_,[],h,_,_,_=>h.elim
 | [],[],_,_,_,e=>⟨e,trivial⟩
theorem bq.len{ρ:List Addr}:∀ {xs:List V} {vs:List Value},bq ρ xs vs→xs.length=vs.length
 | [],[],_=>rfl
 | _::_,_::_,⟨_,b⟩=>congrArg (· + 1) (bq.len b)
 | [],_::_,e=>e.elim
 | _::_,[],e=>e.elim
theorem bq.get{ρ:List Addr}:∀ {xs:List V} {vs:List Value},bq ρ xs vs→∀ {i:Nat} {x:V},xs[i]?=some x→∃ v,vs[i]?=some v∧VR ρ x v
 | _::_,o::_,⟨a,b⟩,i,x,e=>by
  cases i with
  | zero=>exact⟨o,rfl,by cases e;exact a⟩
  | succ i=>exact bq.get b (i:=i) (by simpa using e)
 | [],_::_,e,_,_,_=>e.elim
 | _::_,[],e,_,_,_=>e.elim
 | [],[],_,_,_,e=>by simp at e
theorem bq.app{ρ:List Addr}:∀ {xs:List V} {vs:List Value},bq ρ xs vs→∀ {ys:List V} {ws:List Value},bq ρ ys ws→bq ρ (xs++ys) (vs++ws)
 | _::_,_::_,⟨a,b⟩,_,_,e=>⟨a,bq.app b e⟩
 | [],_::_,h,_,_,_=>h.elim
 | _::_,[],h,_,_,_=>h.elim
 | [],[],_,_,_,e=>e
theorem sQ.mono{ρ ρ':List Addr}(h:ρ <+: ρ'){ls:List (Str×V)}{m:Str→Option Value}(x:sQ ρ ls m):sQ ρ' ls m:=
 ⟨fun p hp=>let ⟨v,e,r⟩:=x.all p hp;⟨v,e,r.mono h⟩,x.nd⟩
inductive iz(x:Str)(v:V):List (Str×V)→List (Str×V)→Prop
 | new:iz x v [] [(x,v)]
 | here {w r}:iz x v ((x,w)::r) ((x,v)::r)
 | there {y w r r'}:y≠x→iz x v r r'→iz x v ((y,w)::r) ((y,w)::r')
theorem iz.keys{x:Str}{v:V}{l l':List (Str×V)}(h:iz x v l l'):(l'.map (·.1)=l.map (·.1))∨(x∉l.map (·.1)∧l'.map (·.1)=l.map (·.1)++[x]):=by
 induction h with
 | new=>exact .inr ⟨by simp,rfl⟩
 | here=>exact .inl rfl
 | there hn _ ih=>
 rcases ih with ih | ⟨ih1,ih2⟩
 ·exact .inl (by simp[ih])
 exact .inr ⟨by simp only[List.map_cons,K2,not_or];exact⟨Ne.symm hn,ih1⟩,by simp[ih2]⟩
theorem iz.nodup{x:Str}{v:V}{l l':List (Str×V)}(h:iz x v l l')(hd:(l.map (·.1)).Nodup):(l'.map (·.1)).Nodup:=by
 rcases h.keys with e | ⟨e1,e2⟩
 ·rw[e];exact hd
 rw[e2];exact List.nodup_append.mpr ⟨hd,by simp,fun a ha b hb=>by rw[J6.mp hb];rintro rfl;exact e1 ha⟩
theorem iz.mem{x:Str}{v:V}{l l':List (Str×V)}(h:iz x v l l')(hd:(l.map (·.1)).Nodup):∀ p∈l',p=(x,v)∨(p∈l∧p.1≠x):=by
 induction h with
 | new=>intro p hp;exact .inl (J6.mp hp)
 | here=>
  intro p hp
  rw[List.map_cons,K9] at hd
  rcases K2.mp hp with e | hp
  ·exact .inl e
  exact .inr ⟨.tail _ hp,fun e=>hd.1 (V9.mpr ⟨p,hp,e⟩)⟩
 | there hn _ ih=>
 intro p hp
 rw[List.map_cons,K9] at hd
 rcases K2.mp hp with e | hp
 ·subst e;exact .inr ⟨.head _,hn⟩
 rcases ih hd.2 p hp with e | ⟨a,b⟩
 ·exact .inl e
 exact .inr ⟨.tail _ a,b⟩
theorem sQ.store{ρ:List Addr}{ls ls':List (Str×V)}{m:Str→Option Value}(h:sQ ρ ls m){x:Str}{v:V}{v':Value}(hv:VR ρ v v')(s:iz x v ls ls') :
  sQ ρ ls' (fun y=>if y=x then some v' else m y):=by
 refine⟨fun p hp=>?_,s.nodup h.nd⟩
 rcases s.mem h.nd p hp with rfl | ⟨a,b⟩
 ·exact⟨v',by simp,hv⟩
 obtain⟨w,e,r⟩:=h.all p a
 exact⟨w,by simp[b,e],r⟩
structure bW where
 qual:Str
 sc:Scope
 f:Addr
 cdv:Value
 ce:List (Str×Nat):=[]
structure cq where
 prog:Program
 view:Program
 loose:List Str
 K:Params→Frag
 pn:List Addr:=[]
structure Cx where
 w:World
 base:Heap
 A₀:Around
 outer:List Env
 fr:List (Addr×Obj)
 kp:List (Addr×Obj)
 L:Addr
 fn:bW
 cl:List (Str×Addr)
 cm:Option Env
 mean:ExcName→Option Value
 mg:Str→Option Value
 mb:Str→Option Value
 gens:Array GenState
 drawn:Drawn
 os:OsState
 pn:List Addr:=[]
noncomputable def Cx.own(c:Cx):Env:=envX c.fn.qual c.fn.sc c.L c.fn.f c.fn.cdv c.cl
noncomputable def Ei(o e:Env):Env:={ o with func:=none,qual:=e.qual,code:=e.code,frame:=e.frame}
noncomputable def Cx.env(c:Cx):Env:=match c.cm with | none=>c.own | some e=>Ei c.own e
noncomputable def Cx.fenv(c:Cx):Env:=match c.cm with | none=>c.own | some e=>e
noncomputable def Cx.outs(c:Cx):List Env:=match c.cm with | none=>c.outer | some e=>e::c.outer
noncomputable def Cx.A(c:Cx):Around:=c.A₀.deeper c.fenv
theorem Cx.env_scope(c:Cx):c.env.scope=c.fn.sc:=by unfold Cx.env;split <;> rfl
theorem Cx.env_locals(c:Cx):c.env.locals=c.L:=by unfold Cx.env;split <;> rfl
theorem Cx.env_globals(c:Cx):c.env.globals=J3:=by unfold Cx.env;split <;> rfl
theorem Cx.env_cells(c:Cx):c.env.cells=c.cl:=by unfold Cx.env;split <;> rfl
theorem Cx.env_builtins(c:Cx):c.env.builtins=builtinsNs:=by unfold Cx.env;split <;> rfl
structure Cx.Ok(G:cq)(dd:Nat)(c:Cx):Prop where
 X:(G.K c.w.params).In c.base
 T:Top G.view G.loose c.mean c.mg c.mb c.base
 stk:c.A₀.frames=some c.outer
 frs:Frs c.outs c.fr
 hk:c.fn.sc.kind=.function
 hm:c.fenv.scope.kind=.function
 hh:c.A₀.handled=none
 hd:c.A₀.depth+2*dd+2<recursionLimit
 hu:c.A₀.units+8*dd+8<cLine
 hp:c.pn=G.pn
 hq:c.cm=none∨c.fn.cdv=.none
structure co(c:Cx)(ls:List (Str×V))(ρ:List Addr)(H:List O)(m:Str→Option Value)(fr:List (Addr×Obj))(os:List Obj)(s:Shared):Prop where
 gens:s.gens=c.gens
 drawn:s.drawn=c.drawn
 sos:s.os=c.os
 F:Fr c.base c.L s.heap m
 N:News c.base c.L s.heap ((fr++c.kp)++ρ.zip os)
 sls:sQ ρ ls m
 sfr:SameUp c.fr fr
 hos:qE c.w.params ρ H os
 len:ρ.length=os.length
 nd:((fr++c.kp).map (·.1)++ρ).Nodup
 cs:∀ x i,(x,i)∈c.fn.ce→∃ a,ρ[i]?=some a∧c.cl.lookup x=some a
 pn:c.pn <+: ρ
inductive aY(c:Cx)(ls:List (Str×V))(ρ:List Addr)(H:List O)(s:Shared):Prop
 | mk (m:Str→Option Value) (fr:List (Addr×Obj)) (os:List Obj) (p0:co c ls ρ H m fr os s):aY c ls ρ H s
section
variable {G:cq}{dd:Nat}{c:Cx}{ls ls':List (Str×V)}{ρ ρ':List Addr}{H H':List O}{m:Str→Option Value}{fr:List (Addr×Obj)}{os:List Obj}{s s':Shared}
theorem aY.tok(R:aY c ls ρ H s){t:Nat}:aY c ls ρ H { s with toks:=t}:=by
 obtain⟨m,fr,os,R⟩:=R
 exact⟨m,fr,os,R.gens,R.drawn,R.sos,R.F,R.N,R.sls,R.sfr,R.hos,R.len,R.nd,R.cs,R.pn⟩
theorem co.same(R:co c ls ρ H m fr os s){h:Heap}{t:Nat}(F:Fr c.base c.L h m)(N:News c.base c.L h ((fr++c.kp)++ρ.zip os)):aY c ls ρ H { s with heap:=h,toks:=t}:=
 ⟨m,fr,os,R.gens,R.drawn,R.sos,F,N,R.sls,R.sfr,R.hos,R.len,R.nd,R.cs,R.pn⟩
theorem co.store(R:co c ls ρ H m fr os s){h:Heap}{t:Nat}{x:Str}{v:V}{v':Value}(hv:VR ρ v v')(st:iz x v ls ls')
  (F:Fr c.base c.L h (fun y=>if y=x then some v' else m y)) (N:News c.base c.L h ((fr++c.kp)++ρ.zip os)):aY c ls' ρ H { s with heap:=h,toks:=t}:=
 ⟨_,fr,os,R.gens,R.drawn,R.sos,F,N,R.sls.store hv st,R.sfr,R.hos,R.len,R.nd,R.cs,R.pn⟩
theorem jt{α β:Type}:∀ {l:List α} {r:List β} (a:α) (b:β),l.length=r.length→(l++[a]).zip (r++[b])=l.zip r++[(a,b)]
 | [],[],_,_,_=>rfl
 | x::l,y::r,a,b,h=>by
  show(x,y)::(l++[a]).zip (r++[b])=(x,y)::(l.zip r++[(a,b)])
  rw[jt a b (by simpa using h)]
 | [],_::_,_,_,h=>by simp at h
 | _::_,[],_,_,h=>by simp at h
theorem eA{α β:Type}:∀ {l:List α} {r:List β},l.length=r.length→(l.zip r).map (·.1)=l
 | [],[],_=>rfl
 | x::l,y::r,h=>by
  show x::(l.zip r).map (·.1)=_
  rw[eA (by simpa using h)]
 | [],_::_,h=>by simp at h
 | _::_,[],h=>by simp at h
theorem co.allocW(R:co c ls ρ H m fr os s){h:Heap}{t:Nat}{a:Addr}{ob:Obj}{x:O}(F:Fr c.base c.L h m)(N:News c.base c.L h ((a,ob)::((fr++c.kp)++ρ.zip os)))
  (hlt:∀ p∈(fr++c.kp)++ρ.zip os,p.1<a) (hx:OR c.w.params ρ x ob):co c ls (ρ++[a]) (H++[x]) m fr (os++[ob]) { s with heap:=h,toks:=t}:=by
 have hp:ρ <+: ρ++[a]:=K4 _ _
 have hk:∀ b∈(fr++c.kp).map (·.1)++ρ,b<a:=by
  intro b hb
  have e:(fr++c.kp).map (·.1)++ρ=((fr++c.kp)++ρ.zip os).map (·.1):=by rw[V0 (l₁:=fr++c.kp),eA R.len]
  rw[e] at hb
  obtain⟨p,hp,rfl⟩:=V9.mp hb
  exact hlt p hp
 refine⟨R.gens,R.drawn,R.sos,F,?_,R.sls.mono hp,R.sfr,(R.hos.mono hp).app (hx.mono hp),by simp[R.len],?_,fun y i hy=>let ⟨b,e1,e2⟩:=R.cs y i hy;⟨b,aH hp e1,e2⟩,R.pn.trans hp⟩
 ·rw[jt _ _ R.len,← K0]
  intro p hp
  rcases Q1.mp hp with hp | hp
  ·exact N p (.tail _ hp)
  rw[J6.mp hp];exact N _ (.head _)
 rw[←K0]
 refine List.nodup_append.mpr ⟨R.nd,by simp,fun b hb b' hb'=>?_⟩
 rw[J6.mp hb']
 exact W3 (hk b hb)
theorem co.alloc(R:co c ls ρ H m fr os s){h:Heap}{t:Nat}{a:Addr}{ob:Obj}{x:O}(F:Fr c.base c.L h m)(N:News c.base c.L h ((a,ob)::((fr++c.kp)++ρ.zip os)))
  (hlt:∀ p∈(fr++c.kp)++ρ.zip os,p.1<a) (hx:OR c.w.params ρ x ob):aY c ls (ρ++[a]) (H++[x]) { s with heap:=h,toks:=t}:=⟨_,_,_,R.allocW F N hlt hx⟩
theorem co.mem_app(R:co c ls ρ H m fr os s){a:Addr}{ob:Obj}{p:Addr×Obj}(hp:p∈(fr++c.kp)++(ρ++[a]).zip (os++[ob])):p∈(fr++c.kp)++ρ.zip os∨p=(a,ob):=by
 rw[jt _ _ R.len,← K0] at hp
 rcases Q1.mp hp with hp | hp
 ·exact .inl hp
 exact .inr (J6.mp hp)
inductive FT(P:Params)(ρ:List Addr)(os:List Obj)(L:List (Addr×Obj))(h:Heap)(i:Nat)(a:Addr)(o:O):Prop
 | mk (ob:Obj) (e:os[i]?=some ob) (hm:(a,ob)∈L) (r:OR P ρ o ob) (g:h.get? a=some ob):FT P ρ os L h i a o
theorem co.mem(R:co c ls ρ H m fr os s){i:Nat}{a:Addr}{o:O}(ha:ρ[i]?=some a)(ho:H[i]?=some o):FT c.w.params ρ os ((fr++c.kp)++ρ.zip os) s.heap i a o:=by
 obtain⟨ob,e,r⟩:=R.hos.get ho
 have hm:(a,ob)∈(fr++c.kp)++ρ.zip os:=Q7 _ (V8 (i:=i) (by rw[List.getElem?_zip_eq_some];exact⟨ha,e⟩))
 exact⟨ob,e,hm,r,(R.N _ hm).1⟩
theorem wz{a:Addr}{o o':Obj}:∀ {l:List Addr} {r:List Obj} {i:Nat},l[i]?=some a→r[i]?=some o→l.Nodup→Upd a o o' (l.zip r) (l.zip (r.set i o'))
 | x::l,y::r,0,ha,ho,nd=>by
  simp only[List.getElem?_cons_zero,Option.some.injEq] at ha ho
  subst ha ho
  refine .head fun p hp e=>?_
  have:p.1∈l:=(List.of_mem_zip (a:=p.1) (b:=p.2) hp).1
  rw[e] at this
  exact(K9.mp nd).1 this
 | x::l,y::r,i+1,ha,ho,nd=>by
  simp only[List.getElem?_cons_succ] at ha ho
  refine .tail (fun e=>?_) (wz ha ho (K9.mp nd).2)
  have e':x=a:=e
  subst e'
  exact(K9.mp nd).1 (V8 ha)
 | [],_,_,ha,_,_=>by simp at ha
 | _::_,[],_,_,ho,_=>by simp at ho
theorem wA{a:Addr}{o o':Obj}{r r':List (Addr×Obj)}(h:Upd a o o' r r'):∀ {l:List (Addr×Obj)},(∀ p∈l,p.1≠a)→Upd a o o' (l++r) (l++r')
 | [],_=>h
 | p::l,hn=>.tail (hn p (.head _)) (wA h fun q hq=>hn q (.tail _ hq))
theorem co.upd(R:co c ls ρ H m fr os s){i:Nat}{a:Addr}{ob ob':Obj}(ha:ρ[i]?=some a)(ho:os[i]?=some ob) :
  Upd a ob ob' ((fr++c.kp)++ρ.zip os) ((fr++c.kp)++ρ.zip (os.set i ob')):=by
 have nd:=List.nodup_append.mp R.nd
 refine wA (wz ha ho nd.2.1) fun p hp e=>?_
 exact nd.2.2 p.1 (Q9 hp) a (V8 ha) e
theorem co.set(R:co c ls ρ H m fr os s){h:Heap}{t:Nat}{i:Nat}{ob':Obj}{x:O}(F:Fr c.base c.L h m)(N:News c.base c.L h ((fr++c.kp)++ρ.zip (os.set i ob')))
  (hx:OR c.w.params ρ x ob'):aY c ls ρ (H.set i x) { s with heap:=h,toks:=t}:=
 ⟨m,fr,_,R.gens,R.drawn,R.sos,F,N,R.sls,R.sfr,R.hos.set hx,by simp[R.len],R.nd,R.cs,R.pn⟩
theorem aY.hlen(R:aY c ls ρ H s):H.length=ρ.length:=by
 obtain⟨_,_,_,R⟩:=R
 exact R.hos.len.trans R.len.symm
end
inductive aC(c:Cx)(I:List Addr)(ls:List (Str×V))(ρ:List Addr)(H:List O)(s:Shared):Prop
 | mk (m:Str→Option Value) (fr:List (Addr×Obj)) (os:List Obj) (W:co c ls ρ H m fr os s) (nd:I.Nodup) (hI:∀ a∈I,a≠c.L∧c.base.get? a=none∧a∉(fr++c.kp).map (·.1)++ρ):aC c I ls ρ H s
noncomputable def kK(c:Cx)(ls:List (Str×V))(ρ:List Addr)(H:List O)(i:Nat)(a:Addr)(s:Shared):Prop:=
 ρ[i]?=some a∧((∃ C d,H[i]?=some (.exc C d))∧aY c ls ρ H s∨(∃ C d,H[i]?=some (.excT C d))∧∃ oe vs T oT ts,aC c [T] ls ρ H s∧s.heap.get? a=some oe∧oe.data=.fields vs∧vs[1]?=some (.ref T)∧s.heap.get? T=some oT∧oT.data=.fields ts∧ts[3]?=some .none)
section
variable (G:cq)(dd:Nat)(fn:bW)
noncomputable def EQ(c:Cx)(ls:List (Str×V))(ρ:List Addr)(H':List O)(v:V)(Q:Value→Shared→Prop):Prop:=
 ∀ ρ' s' v',ρ <+: ρ'→aY c ls ρ' H' s'→VR ρ' v v'→Q v' s'
noncomputable def FK(c:Cx)(ls:List (Str×V))(ρ:List Addr)(H':List O)(i:Nat)(E:Value→Shared→Prop):Prop:=
 ∀ ρ' s' a,ρ <+: ρ'→kK c ls ρ' H' i a s'→E (.ref a) s'
noncomputable def Ev(e:Expr)(ls:List (Str×V))(H:List O)(v:V)(H':List O):Prop:=
 ∀ (c:Cx) (s:Shared) (ρ:List Addr) (Q E:Value→Shared→Prop),c.fn=fn→c.Ok G dd→aY c ls ρ H s→EQ c ls ρ H' v Q→wpAny (model G.prog c.w) c.A (eval e c.env) Q E s
noncomputable def ej(e:Expr)(ls:List (Str×V))(H:List O)(i:Nat)(H':List O):Prop:=
 ∀ (c:Cx) (s:Shared) (ρ:List Addr) (Q E:Value→Shared→Prop),c.fn=fn→c.Ok G dd→c.cm=none→aY c ls ρ H s→FK c ls ρ H' i E→wpAny (model G.prog c.w) c.A (eval e c.env) Q E s
noncomputable def Te(e:Expr)(ls:List (Str×V))(H:List O)(b:Bool)(H':List O):Prop:=
 ∀ (c:Cx) (s:Shared) (ρ:List Addr) (Q:Bool→Shared→Prop) (E:Value→Shared→Prop),c.fn=fn→c.Ok G dd→aY c ls ρ H s→(∀ ρ' s',ρ <+: ρ'→aY c ls ρ' H' s'→Q b s')→
  wpAny (model G.prog c.w) c.A (isTrue e c.env (eval e c.env)) Q E s
inductive Fl where
 | next
 | ret (v:V)
noncomputable def GS(ρ:List Addr):Fl→Flow→Prop
 | .next,f=>f=.next
 | .ret v,f=>∃ v',f=.ret v'∧VR ρ v v'
noncomputable def FM(c:Cx)(ls:List (Str×V))(ρ:List Addr)(H':List O)(f:Fl)(Q:Flow→Shared→Prop):Prop:=
 ∀ ρ' s' f',ρ <+: ρ'→aY c ls ρ' H' s'→GS ρ' f f'→Q f' s'
noncomputable def Ex(st:Stmt)(ls:List (Str×V))(H:List O)(f:Fl)(ls':List (Str×V))(H':List O):Prop:=
 ∀ (c:Cx) (s:Shared) (ρ:List Addr) (Q:Flow→Shared→Prop) (E:Value→Shared→Prop),c.fn=fn→c.Ok G dd→aY c ls ρ H s→FM c ls' ρ H' f Q→wpAny (model G.prog c.w) c.A (exec st c.env) Q E s
noncomputable def dl(st:Stmt)(ls:List (Str×V))(H:List O)(i:Nat)(ls':List (Str×V))(H':List O):Prop:=
 ∀ (c:Cx) (s:Shared) (ρ:List Addr) (Q:Flow→Shared→Prop) (E:Value→Shared→Prop),c.fn=fn→c.Ok G dd→c.cm=none→aY c ls ρ H s→FK c ls' ρ H' i E→wpAny (model G.prog c.w) c.A (exec st c.env) Q E s
noncomputable def Es(st:List Stmt)(ls:List (Str×V))(H:List O)(f:Fl)(ls':List (Str×V))(H':List O):Prop:=
 ∀ (c:Cx) (s:Shared) (ρ:List Addr) (Q:Flow→Shared→Prop) (E:Value→Shared→Prop),c.fn=fn→c.Ok G dd→aY c ls ρ H s→FM c ls' ρ H' f Q→wpAny (model G.prog c.w) c.A (execs st c.env) Q E s
noncomputable def bv(st:List Stmt)(ls:List (Str×V))(H:List O)(i:Nat)(ls':List (Str×V))(H':List O):Prop:=
 ∀ (c:Cx) (s:Shared) (ρ:List Addr) (Q:Flow→Shared→Prop) (E:Value→Shared→Prop),c.fn=fn→c.Ok G dd→c.cm=none→aY c ls ρ H s→FK c ls' ρ H' i E→wpAny (model G.prog c.w) c.A (execs st c.env) Q E s
end
noncomputable def Cl(G:cq)(dd:Nat)(f:V)(args:List V)(H:List O)(v:V)(H':List O):Prop:=
 ∀ (c:Cx) (s:Shared) (ls:List (Str×V)) (ρ:List Addr) (f':Value) (vs:List Value) (Q E:Value→Shared→Prop),c.Ok G (dd+1)→aY c ls ρ H s→VR ρ f f'→bq ρ args vs→EQ c ls ρ H' v Q→
  wpAny (model G.prog c.w) c.A (call f' vs) Q E s
noncomputable def DJ(G:cq)(dd:Nat)(f:V)(args:List V)(H:List O)(i:Nat)(H':List O):Prop:=
 ∀ (c:Cx) (s:Shared) (ls:List (Str×V)) (ρ:List Addr) (f':Value) (vs:List Value) (Q E:Value→Shared→Prop),c.Ok G (dd+1)→c.cm=none→aY c ls ρ H s→VR ρ f f'→bq ρ args vs→FK c ls ρ H' i E→
  wpAny (model G.prog c.w) c.A (call f' vs) Q E s
section
variable {G:cq}{dd:Nat}{fn:bW}{ls ls' ls'':List (Str×V)}{H H' H₁ H₂ H₃:List O}{v a b:V}
noncomputable def bz(fn:bW):Prop:=(fn.sc.names.map (·.1)).Nodup∧(fn.sc.names.all fun p=>!(p.1==("__debug__" : Str)))=true
theorem gi{α:Type}{x:Str}{k:α}:∀ {l:List (Str×α)},(l.map (·.1)).Nodup→(x,k)∈l→l.lookup x=some k
 | (y,w)::l,nd,h=>by
  rw[List.map_cons,K9] at nd
  rcases K2.mp h with e | h'
  ·cases e;simp
  have:x≠y:=fun e=>nd.1 (by subst e;exact V9.mpr ⟨_,h',rfl⟩)
  rw[List.lookup_cons,(beq_eq_false_iff_ne).mpr this]
  exact gi nd.2 h'
theorem Cx.kindOf(c:Cx)(x:Str):c.env.kindOf x=c.fn.sc.names.lookup x:=by unfold Cx.env;split <;> rfl
theorem bz.kind(S:bz fn){x:Str}{k:NameKind}(h:(x,k)∈fn.sc.names)(c:Cx)(hc:c.fn=fn):c.env.kindOf x=some k:=by
 subst hc;rw[c.kindOf];exact gi S.1 h
theorem dP{c:Cx}(h:c.fn.sc.kind=.function):c.env.scope.kind=.function:=by rw[c.env_scope];exact h
theorem Cx.ns{c:Cx}{h:Heap}{m:Str→Option Value}(n:h.Ns c.L m):h.Ns c.env.locals m:=by rw[c.env_locals];exact n
section
variable {M:Model}{c:Cx}{s:Shared}{K:Frag}{m mg mb:Str→Option Value}{p:Program}{loose:List Str}{E Q:Value→Shared→Prop}{A:Around}{x:Str}{pos:Pos}{v:Value}
theorem wH(F:Fr c.base c.L s.heap m)(hv:m x=some v)(h:Q v s)(hk:c.fn.sc.kind=.function)(hx:c.env.kindOf x=some .local)(hd:(x==("__debug__" : Str))=false) :
  wpAny M A (eval (.Name x pos) c.env) Q E s:=wpAny_Name (wpAny_loadName_local (dP hk) hx (Cx.ns F.ns) hv h) hd
theorem jI(F:Fr c.base c.L s.heap m)(X:K.In c.base)(T:TopRead p loose mg mb c.base)(e:nsIn K J3 x=some (some v))(h:Q v s)
  (hk:c.fn.sc.kind=.function) (hx:c.env.kindOf x=some .globalImplicit) (hd:(x==("__debug__" : Str))=false) :
  wpAny M A (eval (.Name x pos) c.env) Q E s:=Name_function_global (dP hk) hx (loadGlobal_global (env:=c.env) (by rw[c.env_globals];exact T.g.keeps F.keep) (mg_of X T.g e) h) hd
theorem wI(F:Fr c.base c.L s.heap m)(X:K.In c.base)(T:TopRead p loose mg mb c.base)(e:nsIn K J3 x=some none)(hv:W9 x=some v)(hn:x≠"__name__")(h:Q v s)
  (hk:c.fn.sc.kind=.function) (hx:c.env.kindOf x=some .globalImplicit) (hd:(x==("__debug__" : Str))=false) :
  wpAny M A (eval (.Name x pos) c.env) Q E s:=
 Name_function_global (dP hk) hx (loadGlobal_builtin (env:=c.env) (by rw[c.env_globals];exact T.g.keeps F.keep) (mg_none_of X T.g e) (by rw[c.env_builtins];exact T.b.keeps F.keep) ((T.builtins x hn).trans hv) h) hd
end
theorem bz.dbg(S:bz fn){x:Str}{k:NameKind}(h:(x,k)∈fn.sc.names):(x==("__debug__" : Str))=false:=by
 have:=W8.mp S.2 _ h
 simpa using this
theorem ac{i k pos}:Ev G dd fn (.Constant (.int i) k pos) ls H (.int i) H:=fun c s ρ Q E _ _ R hQ=>
 wpAny_Constant_int (hQ ρ _ _ (J2 _) R.tok ⟨_,rfl⟩)
theorem aa{x k pos}:Ev G dd fn (.Constant (.str x) k pos) ls H (.str x) H:=fun c s ρ Q E _ _ R hQ=>
 wpAny_Constant_str (hQ ρ _ _ (J2 _) R.tok ⟨_,rfl⟩)
theorem bn{x k pos}:Ev G dd fn (.Constant (.bool x) k pos) ls H (.bool x) H:=fun c s ρ Q E _ _ R hQ=>
 wpAny_Constant_bool (hQ ρ _ _ (J2 _) R rfl)
theorem ai{k pos}:Ev G dd fn (.Constant .none k pos) ls H .none H:=fun c s ρ Q E _ _ R hQ=>
 wpAny_Constant_none (hQ ρ _ _ (J2 _) R rfl)
theorem Ev.loc(S:bz fn){x pos}(hm:(x,v)∈ls)(hk:(x,NameKind.local)∈fn.sc.names):Ev G dd fn (.Name x pos) ls H v H:=fun c s ρ Q E hc ok R hQ=>by
 obtain⟨m,fr,os,W⟩:=R
 obtain⟨v',e,r⟩:=W.sls.all _ hm
 exact wH W.F e (hQ ρ _ _ (J2 _) ⟨m,fr,os,W⟩ r) ok.hk (S.kind hk c hc) (S.dbg hk)
theorem cK(S:bz fn){x pos a}(hn:∀ P,nsIn (G.K P) J3 x=some (some (.ref a)))(hk:(x,NameKind.globalImplicit)∈fn.sc.names):Ev G dd fn (.Name x pos) ls H (.top a) H:=fun c s ρ Q E hc ok R hQ=>by
 obtain⟨m,fr,os,W⟩:=R
 exact jI W.F ok.X (topRead_of ok.T) (hn _) (hQ ρ _ _ (J2 _) ⟨m,fr,os,W⟩ rfl) ok.hk (S.kind hk c hc) (S.dbg hk)
theorem wm(S:bz fn){x pos t}{u:Str}(hn:∀ P,nsIn (G.K P) J3 x=some (some (.str u t)))(hk:(x,NameKind.globalImplicit)∈fn.sc.names):Ev G dd fn (.Name x pos) ls H (.str u) H:=fun c s ρ Q E hc ok R hQ=>by
 obtain⟨m,fr,os,W⟩:=R
 exact jI W.F ok.X (topRead_of ok.T) (hn _) (hQ ρ _ _ (J2 _) ⟨m,fr,os,W⟩ ⟨_,rfl⟩) ok.hk (S.kind hk c hc) (S.dbg hk)
theorem wo(S:bz fn){x pos t}{u:Int}(hn:∀ P,nsIn (G.K P) J3 x=some (some (.int u t)))(hk:(x,NameKind.globalImplicit)∈fn.sc.names):Ev G dd fn (.Name x pos) ls H (.int u) H:=fun c s ρ Q E hc ok R hQ=>by
 obtain⟨m,fr,os,W⟩:=R
 exact jI W.F ok.X (topRead_of ok.T) (hn _) (hQ ρ _ _ (J2 _) ⟨m,fr,os,W⟩ ⟨_,rfl⟩) ok.hk (S.kind hk c hc) (S.dbg hk)
theorem mN(S:bz fn){x pos n}(hn:∀ P,nsIn (G.K P) J3 x=some none)(hb:W9 x=some (.builtin n))(hne:x≠"__name__")(hk:(x,NameKind.globalImplicit)∈fn.sc.names) :
  Ev G dd fn (.Name x pos) ls H (.bi n) H:=fun c s ρ Q E hc ok R hQ=>by
 obtain⟨m,fr,os,W⟩:=R
 exact wI W.F ok.X (topRead_of ok.T) (hn _) hb hne (hQ ρ _ _ (J2 _) ⟨m,fr,os,W⟩ rfl) ok.hk (S.kind hk c hc) (S.dbg hk)
theorem d5(S:bz fn){x pos n}(hn:∀ P,nsIn (G.K P) J3 x=some none)(hb:W9 x=some (.type n))(hne:x≠"__name__")(hk:(x,NameKind.globalImplicit)∈fn.sc.names) :
  Ev G dd fn (.Name x pos) ls H (.ty n) H:=fun c s ρ Q E hc ok R hQ=>by
 obtain⟨m,fr,os,W⟩:=R
 exact wI W.F ok.X (topRead_of ok.T) (hn _) hb hne (hQ ρ _ _ (J2 _) ⟨m,fr,os,W⟩ rfl) ok.hk (S.kind hk c hc) (S.dbg hk)
theorem two{e₁ e₂:Expr}(h₁:Ev G dd fn e₁ ls H a H₁)(h₂:Ev G dd fn e₂ ls H₁ b H₂){c:Cx}{s:Shared}{ρ:List Addr}{Q:Value→Value→Shared→Prop}{E:Value→Shared→Prop}(hc:c.fn=fn)(ok:c.Ok G dd)(R:aY c ls ρ H s)
  (hQ:∀ ρ' s' a' b',ρ <+: ρ'→aY c ls ρ' H₂ s'→VR ρ' a a'→VR ρ' b b'→Q a' b' s') :
  wpAny (model G.prog c.w) c.A (eval e₁ c.env) (fun x s₁=>wpAny (model G.prog c.w) c.A (eval e₂ c.env) (fun y s₂=>Q x y s₂) E s₁) E s:=
 h₁ c s ρ _ _ hc ok R fun ρ₁ s₁ a' hp R₁ ra=>h₂ c s₁ ρ₁ _ _ hc ok R₁ fun ρ₂ s₂ b' hp₂ R₂ rb=>hQ ρ₂ s₂ a' b' (hp.trans hp₂) R₂ (ra.mono hp₂) rb
theorem Ev.add{l r pos}{x y:Int}(hl:Ev G dd fn l ls H (.int x) H₁)(hr:Ev G dd fn r ls H₁ (.int y) H₂):Ev G dd fn (.BinOp l .Add r pos) ls H (.int (x+y)) H₂:=fun c s ρ Q E hc ok R hQ=>by
 refine wpAny_BinOp (two hl hr hc ok R fun ρ' s' a' b' hp R' ra rb=>?_)
 obtain⟨t,rfl⟩:=ra
 obtain⟨u,rfl⟩:=rb
 exact add_int (hQ ρ' _ _ hp R'.tok ⟨_,rfl⟩)
theorem Ev.sub{l r pos}{x y:Int}(hl:Ev G dd fn l ls H (.int x) H₁)(hr:Ev G dd fn r ls H₁ (.int y) H₂):Ev G dd fn (.BinOp l .Sub r pos) ls H (.int (x-y)) H₂:=fun c s ρ Q E hc ok R hQ=>by
 refine wpAny_BinOp (two hl hr hc ok R fun ρ' s' a' b' hp R' ra rb=>?_)
 obtain⟨t,rfl⟩:=ra
 obtain⟨u,rfl⟩:=rb
 exact sub_int (hQ ρ' _ _ hp R'.tok ⟨_,rfl⟩)
inductive Fd(x:Str)(v:V):List (Str×V)→Prop
 | here {r}:Fd x v ((x,v)::r)
 | there {y w r}:y≠x→Fd x v r→Fd x v ((y,w)::r)
theorem oj{x y:Str}{t:Tok}(h:y≠x):Value.isStr (.str y t) x=false:=by simp[Value.isStr,h]
theorem Fd.getL{P:Params}{ρ:List Addr}{x:Str}{v:V}{fs:List (Str×V)}(h:Fd x v fs):∀ {es:List DictEntry},FR P ρ fs es→∃ v',getL x es=some (some v')∧VR ρ v v':=by
 induction h with
 | here=>
  intro es r
  obtain⟨e,es,rfl,⟨_,⟨t,e2⟩,e3⟩,_⟩:=r.cc
  ·refine⟨e.val,?_,e3⟩
   unfold PySem.W.getL
   rw[List.find?_cons,e2]
   simp[Value.isStr]
 | there hn _ ih=>
 intro es r
 obtain⟨e,es,rfl,⟨_,⟨t,e2⟩,e3⟩,r'⟩:=r.cc
 ·obtain⟨v',g,rv⟩:=ih r'
  refine⟨v',?_,rv⟩
  unfold PySem.W.getL at g ⊢
  rw[List.find?_cons,e2]
  rw[oj hn]
  cases q:es.find? fun z=>z.key.isStr x with
  | some z=>rw[q] at g;exact g
  | none=>
  rw[q] at g
  dsimp only at g
  split at g <;> cases g
noncomputable def cG(K:Frag)(C:Addr)(x:Str):Bool:=plainGet K C x && hasDictIn K C && findIn K (.ref C) x==some none
theorem vl(K:Frag):noGet K none=true:=rfl
theorem qu{ρ:List Addr}:∀ {v:V} {v':Value},VR ρ v v'→(∀ n,v≠.bi n)→handedIn v'=true
 | .none,_,e,_=>by cases e;rfl
 | .bool _,_,e,_=>by cases e;rfl
 | .int _,_,⟨_,e⟩,_=>by cases e;rfl
 | .str _,_,⟨_,e⟩,_=>by cases e;rfl
 | .byt _,_,⟨_,e⟩,_=>by cases e;rfl
 | .top _,_,e,_=>by cases e;rfl
 | .ty _,_,e,_=>by cases e;rfl
 | .bi n,_,_,h=>absurd rfl (h n)
 | .obj _,_,⟨_,_,e⟩,_=>by cases e;rfl
theorem ln{c:Cx}{s:Shared}{ρ:List Addr}{Q E:Value→Shared→Prop}{i d:Nat}{C:Addr}{x:Str}{fs:List (Str×V)}{o':Value}{ex:Bool}(ok:c.Ok G dd)(R:aY c ls ρ H s)(ro:VR ρ (.obj i) o')
  (hi:H[i]?=some (.inst C d)) (hd:H[d]?=some (.dict fs)) (hf:Fd x v fs) (hC:∀ P,cG (G.K P) C x=true) (hv:∀ n,v≠.bi n)
  (hQ:∀ s' v',aY c ls ρ H s'→VR ρ v v'→Q v' s'):wpAny (model G.prog c.w) c.A (getAttr o' x ex) Q E s:=by
 obtain⟨a,ha,rfl⟩:=ro
 have R0:=R
 obtain⟨m,fr,os,W⟩:=R
 obtain⟨ob,_,hm,⟨ad,had,rfl⟩,_⟩:=W.mem ha hi
 obtain⟨od,_,hmd,⟨es,n,rfl,hes⟩,_⟩:=W.mem had hd
 obtain⟨v',g,rv⟩:=hf.getL hes
 have h1:=hC c.w.params
 unfold cG at h1
 simp only[V2,beq_iff_eq] at h1
 exact get_own W.F ok.X (InstAt.of_news W.N hm hmd) h1.1.1 h1.1.2 h1.2 (vl _) g (qu rv hv) (hQ _ _ R0.tok rv)
theorem C5{x y pos xp}{i d:Nat}{C:Addr}{fs:List (Str×V)}(h:Ev G dd fn (.Name y xp) ls H (.obj i) H)(hi:H[i]?=some (.inst C d))(hd:H[d]?=some (.dict fs))(hf:Fd x v fs)(hC:∀ P,cG (G.K P) C x=true)(hv:∀ n,v≠.bi n) :
  Ev G dd fn (.Attribute (.Name y xp) x pos) ls H v H:=fun c s ρ Q E hc ok R hQ=>by
 refine Attribute_Name_ (h c s ρ _ _ hc ok R fun ρ' s' o' hp R' ro=>?_)
 exact ln ok R' ro hi hd hf hC hv fun s' v' R' rv=>hQ ρ' s' v' hp R' rv
theorem Es.nil:Es G dd fn [] ls H .next ls H:=fun c s ρ Q E hc ok R hQ=>wpAny_execs_nil (hQ ρ _ _ (J2 _) R rfl)
theorem Es.cons{st rest}{f:Fl}(h₁:Ex G dd fn st ls H .next ls' H₁)(h₂:Es G dd fn rest ls' H₁ f ls'' H₂):Es G dd fn (st::rest) ls H f ls'' H₂:=fun c s ρ Q E hc ok R hQ=>by
 refine wpAny_execs_cons (h₁ c s ρ _ _ hc ok R fun ρ' s' f' hp R' rf=>?_)
 obtain rfl:=rf
 exact h₂ c s' ρ' Q E hc ok R' fun ρ'' s'' f'' hp' R'' rf=>hQ ρ'' s'' f'' (hp.trans hp') R'' rf
theorem Es.ret{st rest}(h₁:Ex G dd fn st ls H (.ret v) ls' H₁):Es G dd fn (st::rest) ls H (.ret v) ls' H₁:=fun c s ρ Q E hc ok R hQ=>by
 refine wpAny_execs_cons (h₁ c s ρ _ _ hc ok R fun ρ' s' f' hp R' rf=>?_)
 obtain⟨v',rfl,rv⟩:=rf
 exact hQ ρ' s' _ hp R' ⟨v',rfl,rv⟩
theorem Ex.ret{e pos}(h:Ev G dd fn e ls H v H₁):Ex G dd fn (.Return (some e) pos) ls H (.ret v) ls H₁:=fun c s ρ Q E hc ok R hQ=>
 wpAny_Return_some (h c s ρ _ _ hc ok R fun ρ' s' v' hp R' rv=>hQ ρ' s' _ hp R' ⟨v',rfl,rv⟩)
theorem store{c:Cx}{s:Shared}{ρ:List Addr}{Q:Unit→Shared→Prop}{E:Value→Shared→Prop}{x:Str}{v':Value}(S:bz fn)(hk:(x,NameKind.local)∈fn.sc.names)(hst:iz x v ls ls')(hc:c.fn=fn)(ok:c.Ok G dd)(R:aY c ls ρ H s)(rv:VR ρ v v')
  (hQ:∀ s',aY c ls' ρ H s'→Q () s'):wpAny (model G.prog c.w) c.A (storeName c.env x v') Q E s:=by
 obtain⟨m,fr,os,W⟩:=R
 refine wpAny_storeName_local (S.kind hk c hc) (Cx.ns W.F.ns) (fun h' hn hs=>?_) ?_
 ·rw[c.env_locals] at hn hs
  exact hQ _ (W.store rv hst (W.F.set hn hs) (W.N.set hs))
 have:=ok.hk
 rw[c.env_scope,this];rfl
theorem Ex.name(S:bz fn){x pos' e pos}(h:Ev G dd fn e ls H v H₁)(hk:(x,NameKind.local)∈fn.sc.names)(hst:iz x v ls ls')
  (hs:∀ env,Y3 e (some (.Name x pos')) pos.line env=pure false:=by intro _;rfl):Ex G dd fn (.Assign [.Name x pos'] e pos) ls H .next ls' H₁:=fun c s ρ Q E hc ok R hQ=>by
 refine wpAny_Assign_Name (hs:=hs _) (h c s ρ _ _ hc ok R fun ρ' s' v' hp R' rv=>?_)
 exact store S hk hst hc ok R' rv fun s' R'=>hQ ρ' s' _ hp R' rfl
theorem sE{test body orelse pos}{b:Bool}{f:Fl}(h:Te G dd fn test ls H b H₁)(h₂:Es G dd fn (if b then body else orelse) ls H₁ f ls' H₂):Ex G dd fn (.If test body orelse pos) ls H f ls' H₂:=fun c s ρ Q E hc ok R hQ=>by
 refine wpAny_If (h c s ρ _ _ hc ok R fun ρ' s' hp R'=>?_)
 have z:=h₂ c s' ρ' Q E hc ok R' fun ρ'' s'' f'' hp' R'' rf=>hQ ρ'' s'' f'' (hp.trans hp') R'' rf
 cases b <;> exact z
end
section
variable {G:cq}{dd:Nat}{fn:bW}{ls ls' ls'':List (Str×V)}{H H' H₁ H₂ H₃:List O}{v a b:V}{c:Cx}{ρ:List Addr}{s:Shared}
 {m:Str→Option Value} {fr:List (Addr×Obj)} {os:List Obj}
noncomputable def Cx.fr'(c:Cx)(fr:List (Addr×Obj))(oL:Obj):List (Addr×Obj):=match c.cm with | none=>(c.L,oL)::fr | some _=>fr
noncomputable def Cx.kp'(c:Cx)(oL:Obj):List (Addr×Obj):=match c.cm with | none=>c.kp | some _=>(c.L,oL)::c.kp
noncomputable def Cx.sub(c:Cx)(A:Around)(fr:List (Addr×Obj))(oL:Obj)(L':Addr)(fn:bW)(cl:List (Str×Addr)):Cx:=
 { c with A₀:=A,outer:=c.fenv::c.outer,fr:=c.fr' fr oL,kp:=c.kp' oL,L:=L',fn:=fn,cl:=cl,cm:=none}
structure pT(c:Cx)(ls:List (Str×V))(ρ:List Addr)(m:Str→Option Value)(fr:List (Addr×Obj))(oL:Obj):Prop where
 ns:∃ es ep,oL.data=.dict es ep∧StrKeys es∧∀ name,nsFind es name=m name
 above:c.base.objs.size≤c.L
 sls:sQ ρ ls m
 sfr:SameUp c.fr fr
 cs:∀ x i,(x,i)∈c.fn.ce→∃ a,ρ[i]?=some a∧c.cl.lookup x=some a
theorem co.split(W:co c ls ρ H m fr os s):∃ oL,s.heap.get? c.L=some oL∧pT c ls ρ m fr oL:=by
 obtain⟨oL,es,ep,e1,e2,e3,e4⟩:=W.F.ns
 exact⟨oL,e1,⟨⟨es,ep,e2,e3,e4⟩,W.F.above,W.sls,W.sfr,W.cs⟩⟩
theorem rh(ok:c.Ok G (dd+1))(W:co c ls ρ H m fr os s){oL:Obj}(k:pT c ls ρ m fr oL){A:Around}(hA:A.frames=some (c.fenv::c.outer))(hh:A.handled=none)(hd:A.depth≤c.A₀.depth+2)(hu:A.units≤c.A₀.units+8)
  {L':Addr} {fn:bW} {cl:List (Str×Addr)} (hk:fn.sc.kind=.function):(c.sub A fr oL L' fn cl).Ok G dd:=by
 obtain⟨⟨es,ep,e2,e3,e4⟩,_,_,hf,_⟩:=k
 have h1:=ok.frs
 refine⟨ok.X,ok.T,hA,?_,hk,hk,hh,?_,?_,?_,?_⟩
 ·show Frs (c.fenv::c.outer) (c.fr' fr oL)
  unfold Cx.fenv Cx.fr'
  unfold Cx.outs at h1
  cases hcm:c.cm with
  | none=>
   rw[hcm] at h1
   refine⟨?_,rfl,⟨es,ep,e2⟩,h1.up hf⟩
   show c.fn.sc.kind≠.module
   rw[ok.hk];decide
  | some e=>
  rw[hcm] at h1
  exact h1.up hf
 ·show A.depth+2*dd+2<recursionLimit
  have:=ok.hd;lia
 ·show A.units+8*dd+8<cLine
  have:=ok.hu;lia
 ·exact ok.hp
 exact .inl rfl
theorem Cx.sub_mem{oL:Obj}{r:List (Addr×Obj)}{p:Addr×Obj}:p∈(c.fr' fr oL++c.kp' oL)++r↔p=(c.L,oL)∨p∈(fr++c.kp)++r:=by
 unfold Cx.fr' Cx.kp'
 cases c.cm with
 | none=>simp only[Q1,K2];constructor <;> intro h <;> grind
 | some e=>simp only[Q1,K2];constructor <;> intro h <;> grind
theorem Cx.sub_perm{oL:Obj}{r:List Addr}:(((c.fr' fr oL++c.kp' oL).map (·.1))++r).Perm (c.L::((fr++c.kp).map (·.1)++r)):=by
 unfold Cx.fr' Cx.kp'
 cases c.cm with
 | none=>exact List.Perm.refl _
 | some e=>
 show(((fr++(c.L,oL)::c.kp).map (·.1))++r).Perm _
 rw[V0,V0,K0,K0]
 exact List.perm_middle
theorem u8(W:co c ls ρ H m fr os s){oL:Obj}(hL:s.heap.get? c.L=some oL){A:Around}{h:Heap}{t:Nat}{fn:bW}{cl:List (Str×Addr)}{m':Str→Option Value}{ls':List (Str×V)}
  (ns:h.Ns s.heap.objs.size m') (keep:∀ b o,s.heap.get? b=some o→h.get? b=some o) (sls:sQ ρ ls' m') (cs:∀ x i,(x,i)∈fn.ce→∃ a,ρ[i]?=some a∧cl.lookup x=some a) :
  aY (c.sub A fr oL s.heap.objs.size fn cl) ls' ρ H { s with heap:=h,toks:=t}:=by
 have hlt:c.L<s.heap.objs.size:=Heap.lt_size hL
 have nL:c.base.get? c.L=none:=V3 W.F.above
 refine⟨m',c.fr' fr oL,os,W.gens,W.drawn,W.sos,⟨ns,fun b o e=>keep b o (W.F.keep b o e),J7 W.F.above (Nat.le_of_lt hlt)⟩,?_,sls,SameUp.refl _,W.hos,W.len,?_,cs,W.pn⟩
 ·intro p hp
  rcases Cx.sub_mem.mp hp with rfl | hp
  ·exact⟨keep _ _ hL,W3 hlt,nL⟩
  exact⟨keep _ _ (W.N p hp).1,W3 (Heap.lt_size (W.N p hp).1),(W.N p hp).2.2⟩
 refine(Cx.sub_perm.nodup_iff).mpr ?_
 refine K9.mpr ⟨fun hm=>?_,W.nd⟩
 have e:(fr++c.kp).map (·.1)++ρ=((fr++c.kp)++ρ.zip os).map (·.1):=by rw[V0 (l₁:=fr++c.kp),eA W.len]
 rw[e] at hm
 obtain⟨p,hp,q⟩:=V9.mp hm
 exact(W.N p hp).2.1 q
theorem oq{oL:Obj}{fr':List (Addr×Obj)}(h:SameUp (c.fr' fr oL) fr'):∃ fr₂ sl,SameUp fr fr₂∧fr'=c.fr' fr₂ { oL with slots:=sl}:=by
 unfold Cx.fr' at h ⊢
 cases hcm:c.cm with
 | none=>
  rw[hcm] at h
  match fr',h with
  | (qa,qo)::fr₂,⟨e1,⟨sl,e5⟩,e6⟩=>
   simp only at e1 e5
   subst e1 e5
   exact⟨fr₂,sl,e6,rfl⟩
  | [],h=>exact h.elim
 | some e=>
 rw[hcm] at h
 exact⟨fr',oL.slots,h,rfl⟩
theorem wL{oL oL':Obj}(h:c.cm=none):c.kp' oL=c.kp' oL':=by unfold Cx.kp';rw[h]
theorem fO{oL:Obj}(k:pT c ls ρ m fr oL){A:Around}{L':Addr}{fn:bW}{cl:List (Str×Addr)}{ls':List (Str×V)}{ρ':List Addr}{s':Shared}(hp:ρ <+: ρ')
  (R:aY (c.sub A fr oL L' fn cl) ls' ρ' H' s'):aY c ls ρ' H' s':=by
 obtain⟨m',fr',os',W⟩:=R
 obtain⟨⟨es,ep,e2,e3,e4⟩,ab,sls,sfr,cs⟩:=k
 have hs:SameUp (c.fr' fr oL) fr':=W.sfr
 obtain⟨fr₂,sl,e6,rfl⟩:=oq hs
 have key:∃ oL':Obj,oL'.data=oL.data∧News c.base L' s'.heap ((c.fr' fr₂ oL'++c.kp' oL')++ρ'.zip os')∧((c.fr' fr₂ oL'++c.kp' oL').map (·.1)++ρ').Nodup:=by
  have h1:=W.N
  have h2:=W.nd
  change News c.base L' s'.heap ((c.fr' fr₂ { oL with slots:=sl}++c.kp' oL)++ρ'.zip os') at h1
  change ((c.fr' fr₂ { oL with slots:=sl}++c.kp' oL).map (·.1)++ρ').Nodup at h2
  cases hcm:c.cm with
  | none=>
   rw[wL (oL':={ oL with slots:=sl}) hcm] at h1 h2
   exact⟨{ oL with slots:=sl},rfl,h1,h2⟩
  | some e=>
  have q:c.fr' fr₂ { oL with slots:=sl}=c.fr' fr₂ oL:=by unfold Cx.fr';rw[hcm]
  rw[q] at h1 h2
  exact⟨oL,rfl,h1,h2⟩
 obtain⟨oL',ed,N,nd⟩:=key
 have hq:=N (c.L,oL') (Cx.sub_mem.mpr (.inl rfl))
 have nd':=Cx.sub_perm.nodup_iff.mp nd
 refine⟨m,fr₂,os',W.gens,W.drawn,W.sos,⟨⟨_,es,ep,hq.1,by rw[ed];exact e2,e3,e4⟩,W.F.keep,ab⟩,?_,sls.mono hp,sfr.trans e6,W.hos,W.len,(K9.mp nd').2,fun x i hx=>let ⟨b,h1,h2⟩:=cs x i hx;⟨b,aH hp h1,h2⟩,W.pn⟩
 intro p hp
 have h3:=N p (Cx.sub_mem.mpr (.inr hp))
 refine⟨h3.1,fun q=>?_,h3.2.2⟩
 refine(K9.mp nd').1 ?_
 have e:(fr₂++c.kp).map (·.1)++ρ'=((fr₂++c.kp)++ρ'.zip os').map (·.1):=by rw[V0 (l₁:=fr₂++c.kp),eA W.len]
 rw[e,← q]
 exact Q9 hp
theorem Aj{x:Str}{v:Value}{l:List (Str×Value)}(nd:(l.map (·.1)).Nodup)(h:(x,v)∈l):l.reverse.lookup x=some v:=
 gi (by rw[List.map_reverse];exact List.pairwise_reverse.mpr (List.Pairwise.imp Ne.symm nd)) (List.mem_reverse.mpr h)
theorem sQ.zip:∀ {ns:List Str} {args:List V} {vs:List Value},bq ρ args vs→ns.length=args.length→∀ p∈ns.zip args,∃ v,(p.1,v)∈ns.zip vs∧VR ρ p.2 v
 | n::ns,a::as,v::vs,⟨r,rs⟩,hl=>by
  intro p hp
  rcases K2.mp hp with rfl | hp
  ·exact⟨v,.head _,r⟩
  obtain⟨w,h1,h2⟩:=sQ.zip rs (by simpa using hl) p hp
  exact⟨w,.tail _ h1,h2⟩
 | [],_,_,_,_=>fun _ hp=>by simp at hp
 | _::_,[],_,_,hl=>by simp at hl
 | _::_,_::_,[],h,_=>h.elim
theorem tJ{ns:List Str}{args:List V}{vs:List Value}(r:bq ρ args vs)(hl:ns.length=args.length)(nd:ns.Nodup):sQ ρ (ns.zip args) (fun y=>(ns.zip vs).reverse.lookup y):=by
 have h1:(ns.zip args).map (·.1)=ns:=eA hl
 have h2:(ns.zip vs).map (·.1)=ns:=eA (hl.trans r.len)
 refine⟨fun p hp=>?_,by rw[h1];exact nd⟩
 obtain⟨v,e,rv⟩:=sQ.zip r hl p hp
 exact⟨v,Aj (by rw[h2];exact nd) e,rv⟩
noncomputable def d9(G:cq)(fd:FuncData)(args:List V)(ns:List Str)(args':List V):Prop:=
 ns.length=args'.length∧ns.Nodup∧∀ (P:Params) (s:Shared) (ρ:List Addr) (vs:List Value),(G.K P).In s.heap→bq ρ args vs→∃ vs',BindsTo s fd ⟨vs,[]⟩ (ns.zip vs')∧bq ρ args' vs'
noncomputable def Co(G:cq)(dd:Nat)(f:V)(args:List V)(H:List O)(v:V)(H':List O):Prop:=
 ∀ (c:Cx) (A:Around) (s:Shared) (ls:List (Str×V)) (ρ:List Addr) (f':Value) (vs:List Value) (R:Result→Shared→Prop),c.Ok G (dd+1)→A.frames=some (c.fenv::c.outer)→A.handled=none→A.depth≤c.A₀.depth+2→A.units≤c.A₀.units+8→
  aY c ls ρ H s→VR ρ f f'→bq ρ args vs→(∀ ρ' s' v',ρ <+: ρ'→aY c ls ρ' H' s'→VR ρ' v v'→R (.ok (.ret v')) s')→codeAny (model G.prog c.w) A (.call f' ⟨vs,[]⟩) R s
theorem Cx.Ok.frames{c:Cx}{d:Nat}(ok:c.Ok G d):c.A.frames=some (c.fenv::c.outer):=by show Option.map _ _=_;rw[ok.stk];rfl
theorem Co.cl{f:V}{args:List V}(h:Co G dd f args H v H'):Cl G dd f args H v H':=fun c s ls ρ f' vs Q E ok R rf ra hQ=>
 wpAny_call (h c c.A s ls ρ f' vs _ ok ok.frames ok.hh (by show c.A₀.depth+1≤_;lia) (by show c.A₀.units+3≤_;lia) R rf ra hQ)
theorem sH{f₀:Addr}{oc:Value}{od:Option Addr}{osl:Array (Option Value)}{name qual:Str}{params:Arguments}{body:List Stmt}{scope:Scope}{dV kV doc pm cdv ct:Value}{an:Option Addr}{args args':List V}{ns:List Str}
  (ho:∀ P,(G.K P).lookup f₀=some ⟨oc,od,.func (fnOf name qual params body scope dV kV doc pm an cdv ct),osl⟩) (hcd:∀ P,codeIn (G.K P) cdv qual=true)
  (hb:d9 G (fnOf name qual params body scope dV kV doc pm an cdv ct) args ns args') (hloc:∀ x∈ns,scope.names.lookup x=some .local)
  (hk:scope.kind=.function) (hco:scope.isCoroutine=false) (hgen:scope.isGenerator=false) (hcell:∀ x∈scope.names,x.2≠.cell) {c:Cx} {A:Around} {s:Shared} {ls:List (Str×V)} {ρ:List Addr} {vs:List Value} {Rr:Result→Shared→Prop}
  (ok:c.Ok G (dd+1)) (hA:A.frames=some (c.fenv::c.outer)) (hh:A.handled=none) (hd:A.depth≤c.A₀.depth+2) (hu:A.units≤c.A₀.units+8) (R:aY c ls ρ H s) (ra:bq ρ args vs)
  (h:∀ (c':Cx) (s':Shared) (m:Str→Option Value) (fr:List (Addr×Obj)) (oL:Obj),c'.fn=⟨qual,scope,f₀,cdv,[]⟩→c'.Ok G dd→aY c' (ns.zip args') ρ H s'→pT c ls ρ m fr oL→c'=c.sub A fr oL c'.L c'.fn c'.cl→
   wpAny (model G.prog c.w) c'.A (execs body c'.env) (fun f s'=>Rr (.ok (.ret (match f with | .ret v=>v | _=>.none))) s')
    (fun e s'=>wpAny (model G.prog c.w) c'.A (leaving c'.env e) (fun _ s''=>Rr (.error e) s'') (fun e' s''=>Rr (.error e') s'') s') s') :
  codeAny (model G.prog c.w) A (.call (.ref f₀) ⟨vs,[]⟩) Rr s:=by
 obtain⟨m,fr,os,W⟩:=R
 have hX:(G.K c.w.params).In s.heap:=ok.X.keeps W.F.keep
 obtain⟨hl,nd,hb⟩:=hb
 obtain⟨vs',hbd,ra'⟩:=hb c.w.params s ρ vs hX ra
 obtain⟨oL,hL,k⟩:=W.split
 refine codeAny_call_def (body:=body) (binds:=ns.zip vs') ?_ (hX _ _ (ho _)) rfl (ok.T.nolimit.keeps W.F.keep) (codeRec_of hX (hcd _)) rfl hbd hcell ?_ (fun h₀ hns hkp=>?_) hco hgen hk
 ·have:=ok.hd;lia
 ·intro x hx
  exact hloc _ (List.of_mem_zip (a:=x.1) (b:=x.2) hx).1
 have ok':=rh ok W k (A:=A) (L':=s.heap.objs.size) (fn:=⟨qual,scope,f₀,cdv,[]⟩) (cl:=[]) hA hh hd hu hk
 have R':=u8 (A:=A) (t:=s.toks+(ns.zip vs').length) (fn:=⟨qual,scope,f₀,cdv,[]⟩) (cl:=[]) W hL hns hkp (tJ ra' hl nd) (fun x i hx=>nomatch hx)
 exact h _ _ m fr oL rfl ok' R' k rfl
theorem fJ{f₀:Addr}{oc:Value}{od:Option Addr}{osl:Array (Option Value)}{name qual:Str}{params:Arguments}{body:List Stmt}{scope:Scope}{dV kV doc pm cdv ct:Value}{an:Option Addr}{args args':List V}{ns:List Str}{ls':List (Str×V)}
  (ho:∀ P,(G.K P).lookup f₀=some ⟨oc,od,.func (fnOf name qual params body scope dV kV doc pm an cdv ct),osl⟩) (hcd:∀ P,codeIn (G.K P) cdv qual=true)
  (hb:d9 G (fnOf name qual params body scope dV kV doc pm an cdv ct) args ns args') (hloc:∀ x∈ns,scope.names.lookup x=some .local)
  (hk:scope.kind=.function) (hco:scope.isCoroutine=false) (hgen:scope.isGenerator=false) (hcell:∀ x∈scope.names,x.2≠.cell) (hS:bz ⟨qual,scope,f₀,cdv,[]⟩)
  (h:bz ⟨qual,scope,f₀,cdv,[]⟩→Es G dd ⟨qual,scope,f₀,cdv,[]⟩ body (ns.zip args') H (.ret v) ls' H'):Co G dd (.top f₀) args H v H':=by
 intro c A s ls ρ f' vs Rr ok hA hh hd hu R rf ra hQ
 obtain rfl:=rf
 refine sH ho hcd hb hloc hk hco hgen hcell ok hA hh hd hu R ra fun c' s' m fr oL hf ok' R' k e=>?_
 have hw:c'.w=c.w:=by rw[e];rfl
 rw[←hw]
 refine h hS c' s' ρ _ _ hf ok' R' fun ρ'' s'' f'' hp' R'' rf=>?_
 obtain⟨v',rfl,rv⟩:=rf
 rw[e] at R''
 exact hQ ρ'' s'' _ hp' (fO k hp' R'') rv
theorem d8{f₀:Addr}{oc:Value}{od:Option Addr}{osl:Array (Option Value)}{name qual:Str}{params:Arguments}{body:List Stmt}{scope:Scope}{dV kV doc pm cdv ct:Value}{an:Option Addr}{args args':List V}{ns:List Str}{ls':List (Str×V)}
  (ho:∀ P,(G.K P).lookup f₀=some ⟨oc,od,.func (fnOf name qual params body scope dV kV doc pm an cdv ct),osl⟩) (hcd:∀ P,codeIn (G.K P) cdv qual=true)
  (hb:d9 G (fnOf name qual params body scope dV kV doc pm an cdv ct) args ns args') (hloc:∀ x∈ns,scope.names.lookup x=some .local)
  (hk:scope.kind=.function) (hco:scope.isCoroutine=false) (hgen:scope.isGenerator=false) (hcell:∀ x∈scope.names,x.2≠.cell) (hS:bz ⟨qual,scope,f₀,cdv,[]⟩)
  (h:bz ⟨qual,scope,f₀,cdv,[]⟩→Es G dd ⟨qual,scope,f₀,cdv,[]⟩ body (ns.zip args') H .next ls' H'):Co G dd (.top f₀) args H .none H':=by
 intro c A s ls ρ f' vs Rr ok hA hh hd hu R rf ra hQ
 obtain rfl:=rf
 refine sH ho hcd hb hloc hk hco hgen hcell ok hA hh hd hu R ra fun c' s' m fr oL hf ok' R' k e=>?_
 have hw:c'.w=c.w:=by rw[e];rfl
 rw[←hw]
 refine h hS c' s' ρ _ _ hf ok' R' fun ρ'' s'' f'' hp' R'' rf=>?_
 obtain rfl:=rf
 rw[e] at R''
 exact hQ ρ'' s'' _ hp' (fO k hp' R'') rfl
end
section
variable {G:cq}{dd:Nat}{fn:bW}{ls ls' ls'':List (Str×V)}{H H' H₁ H₂ H₃:List O}{v a b f:V}{vs first:List V}{d₁:Nat}
theorem Cx.Ok.low{c:Cx}{d d':Nat}(ok:c.Ok G d)(h:d'≤d):c.Ok G d':=
 ⟨ok.X,ok.T,ok.stk,ok.frs,ok.hk,ok.hm,ok.hh,by have:=ok.hd;lia,by have:=ok.hu;lia,ok.hp,ok.hq⟩
theorem Cl.up{args:List V}(h:Cl G dd f args H v H'){d:Nat}(hd:dd≤d):Cl G d f args H v H':=
 fun c s ls ρ f' vs Q E ok R rf ra hQ=>h c s ls ρ f' vs Q E (ok.low (by lia)) R rf ra hQ
theorem DJ.up{args:List V}{i:Nat}(h:DJ G dd f args H i H'){d:Nat}(hd:dd≤d):DJ G d f args H i H':=
 fun c s ls ρ f' vs Q E ok hm R rf ra hQ=>h c s ls ρ f' vs Q E (ok.low (by lia)) hm R rf ra hQ
noncomputable def bD(es:List Expr):Prop:=(∀ env pos,(backTo pos (K7 es env)).any (·.1)=false)∧(∀ env pos,(backTo pos (K7 es env)=[]∧es=[])∨∃ t r,backTo pos (K7 es env)=(false,t)::r)
theorem bD.nil:bD []:=⟨fun _ _=>rfl,fun _ _=>.inl ⟨rfl,rfl⟩⟩
theorem bD.cons{e es}(h:bD es)(he:∀ env,K7 (e::es) env=(false,eval e env)::K7 es env):bD (e::es):=
 ⟨fun env pos=>by rw[he];show(false || (backTo pos (K7 es env)).any (·.1))=false;rw[h.1];rfl,fun env pos=>.inr (by rw[he];exact⟨_,_,rfl⟩)⟩
noncomputable def ap(G:cq)(dd:Nat)(fn:bW)(es:List Expr)(ls:List (Str×V))(H:List O)(vs:List V)(H':List O):Prop:=
 bD es∧∀ (c:Cx) (s:Shared) (ρ:List Addr) (pos:Pos) (Q:List Value→Shared→Prop) (E:Value→Shared→Prop),c.fn=fn→c.Ok G dd→aY c ls ρ H s→(∀ ρ' s' vs',ρ <+: ρ'→aY c ls ρ' H' s'→bq ρ' vs vs'→Q vs' s')→
  wpAny (model G.prog c.w) c.A (spliced (backTo pos (K7 es c.env))) Q E s
theorem ap.nil:ap G dd fn [] ls H [] H:=⟨.nil,fun c s ρ pos Q E _ _ R hQ=>args_nil (hQ ρ s [] (J2 _) R trivial)⟩
theorem ap.cons{e es}(h:Ev G dd fn e ls H v H₁)(h₂:ap G dd fn es ls H₁ vs H₂)(he:∀ env,K7 (e::es) env=(false,eval e env)::K7 es env:=by intro _;rfl):ap G dd fn (e::es) ls H (v::vs) H₂:=
 ⟨h₂.1.cons he,fun c s ρ pos Q E hc ok R hQ=>
  args_cons (h c s ρ _ _ hc ok R fun ρ₁ s₁ v' hp R₁ rv=>h₂.2 c s₁ ρ₁ pos (fun ws s₂=>Q (v'::ws) s₂) _ hc ok R₁ fun ρ₂ s₂ vs' hp₂ R₂ rvs=>hQ ρ₂ s₂ (v'::vs') (hp.trans hp₂) R₂ ⟨rv.mono hp₂,rvs⟩) (he _)⟩
noncomputable def ey(G:cq):V→Prop
 | .top a=>∀ P,keepIn (G.K P) (.ref a)=true
 | .bi _=>True
 | .ty _=>True
 | _=>False
theorem vx{c:Cx}{ρ:List Addr}{f':Value}(hk:ey G f)(rf:VR ρ f f'):∀ h:Heap,(G.K c.w.params).In h→∃ k,(k=Keeper.frame∨k=Keeper.machine∨k=Keeper.boundFrame)∧Looks (model G.prog c.w) h (keeperOf f') k:=by
 intro h X
 cases f <;> first | exact hk.elim | skip
 ·obtain rfl:=rf;exact keeps_K (hk _) h X
 all_goals obtain rfl:=rf;exact⟨_,.inr (.inl rfl),.of_pure rfl⟩
theorem aY.inK{c:Cx}{ρ:List Addr}{s:Shared}(ok:c.Ok G dd)(R:aY c ls ρ H s):(G.K c.w.params).In s.heap:=by
 obtain⟨_,_,_,W⟩:=R
 exact ok.X.keeps W.F.keep
theorem f7{M:Model}{A:Around}{E:Value→Shared→Prop}{s:Shared}{f:Value}{Q:Args→Shared→Prop}(h:wpAny M A (spliced []) (fun vs s'=>Q ⟨vs,[]⟩ s') E s):wpAny M A (evalArgs f true [] []) Q E s:=by
 unfold evalArgs
 show wpAny M A (spliced [] >>= _) Q E s
 refine J1 (wpAny_mono h (fun vs s' h'=>J1 (K1 ?_)) fun _ _ x=>x)
 refine wpAny_holding ?_
 exact J1 (K1 (J1 (K1 (K1 h'))))
theorem ew{es:List Expr}{pos:Pos}{c:Cx}{s:Shared}{ρ:List Addr}{f':Value}{fs:List Value}{Q E:Value→Shared→Prop}(hl:ap G dd fn es ls H vs H₁)(hk:ey G f)(hc:c.fn=fn)(ok:c.Ok G dd)(R:aY c ls ρ H s)(rf:VR ρ f f')(rfs:bq ρ first fs)
  (h:∀ ρ' s' args,ρ <+: ρ'→aY c ls ρ' H₁ s'→VR ρ' f f'→bq ρ' (first++vs) args→wpAny (model G.prog c.w) c.A (call f' args) Q E s') :
  wpAny (model G.prog c.w) c.A (callWith pos f' fs (backTo pos (K7 es c.env)) []) Q E s:=by
 refine callWith_of (P:=(G.K c.w.params).In) (by rw[hl.1.1];rfl) (vx hk rf) ?_
 rcases hl.1.2 c.env pos with⟨e,rfl⟩ | ⟨t,r,e⟩
 ·have z:=hl.2 c s ρ pos (fun ws s'=>(G.K c.w.params).In s'.heap∧wpAny (model G.prog c.w) c.A (call f' (fs++ws)) Q E s') E hc ok R fun ρ' s' vs' hp R' rvs=>⟨R'.inK ok,h ρ' s' _ hp R' (rf.mono hp) ((rfs.mono hp).app rvs)⟩
  rw[e] at z ⊢
  exact f7 z
 rw[e]
 refine evalArgs_plain ?_
 rw[←e]
 exact hl.2 c s ρ pos _ E hc ok R fun ρ' s' vs' hp R' rvs=>⟨R'.inK ok,h ρ' s' _ hp R' (rf.mono hp) ((rfs.mono hp).app rvs)⟩
theorem bq.nil{ρ:List Addr}:bq ρ [] []:=trivial
theorem Ev.call{func args pos}(hf:Ev G dd fn func ls H f H)(hk:ey G f)(hl:ap G dd fn args ls H vs H₁)(h:Cl G d₁ f vs H₁ v H₂)(hd:d₁<dd:=by decide)
  (he:∀ env,eval (.Call func args [] pos) env=(do callWith pos (←eval func env) [] (backTo pos (K7 args env)) (backToKw pos (keywordEach [] env))):=by intro _;rfl):Ev G dd fn (.Call func args [] pos) ls H v H₂:=fun c s ρ Q E hc ok R hQ=>by
 refine Call_ (hf c s ρ _ _ hc ok R fun ρ₁ s₁ f' hp R₁ rf=>?_) (he _)
 refine ew (first:=[]) hl hk hc ok R₁ rf bq.nil fun ρ₂ s₂ as hp₂ R₂ rf₂ ra=>?_
 exact h c s₂ ls ρ₂ f' as Q E (ok.low hd) R₂ rf₂ ra fun ρ₃ s₃ v' hp₃ R₃ rv=>hQ ρ₃ s₃ v' ((hp.trans hp₂).trans hp₃) R₃ rv
theorem ej.call{func args pos}{i:Nat}(hf:Ev G dd fn func ls H f H)(hk:ey G f)(hl:ap G dd fn args ls H vs H₁)(h:DJ G d₁ f vs H₁ i H₂)(hd:d₁<dd:=by decide)
  (he:∀ env,eval (.Call func args [] pos) env=(do callWith pos (←eval func env) [] (backTo pos (K7 args env)) (backToKw pos (keywordEach [] env))):=by intro _;rfl):ej G dd fn (.Call func args [] pos) ls H i H₂:=fun c s ρ Q E hc ok hm R hQ=>by
 refine Call_ (hf c s ρ _ _ hc ok R fun ρ₁ s₁ f' hp R₁ rf=>?_) (he _)
 refine ew (first:=[]) hl hk hc ok R₁ rf bq.nil fun ρ₂ s₂ as hp₂ R₂ rf₂ ra=>?_
 exact h c s₂ ls ρ₂ f' as Q E (ok.low hd) hm R₂ rf₂ ra fun ρ₃ s₃ v' hp₃ R₃=>hQ ρ₃ s₃ v' ((hp.trans hp₂).trans hp₃) R₃
noncomputable def Gm(G:cq)(dd:Nat)(o:V)(name:Str)(H:List O)(f:V)(first:List V):Prop:=
 ∀ (c:Cx) (s:Shared) (ls:List (Str×V)) (ρ:List Addr) (o':Value) (pl:Sem Bool) (Q:Value×List Value→Shared→Prop) (E:Value→Shared→Prop),c.Ok G dd→aY c ls ρ H s→VR ρ o o'→
  (∀ s' f' fs,aY c ls ρ H s'→VR ρ f f'→bq ρ first fs→Q (f',fs) s')→wpAny (model G.prog c.w) c.A (getMethod o' name pl) Q E s
theorem au{o name apos args pos}{ov:V}{pl:Env→Sem Bool}(ho:Ev G dd fn o ls H ov H₁)(hg:Gm G dd ov name H₁ f first)(hk:ey G f)(hl:ap G dd fn args ls H₁ vs H₂)(h:Cl G d₁ f (first++vs) H₂ v H₃)(hd:d₁<dd:=by decide)
  (he:∀ env,eval (.Call (.Attribute o name apos) args [] pos) env=(do
   let ov←eval o env
   standAt apos.atName
   let (f,first)←holding [ov] (getMethod ov name (pl env))
   callWith pos f first (backTo pos (K7 args env)) (backToKw pos (keywordEach [] env))):=by intro _;rfl):Ev G dd fn (.Call (.Attribute o name apos) args [] pos) ls H v H₃:=fun c s ρ Q E hc ok R hQ=>by
 refine methodCall_KW (ho c s ρ _ _ hc ok R fun ρ₁ s₁ o' hp R₁ ro=>?_) (he _)
 refine hg c s₁ ls ρ₁ o' _ _ _ ok R₁ ro fun s₂ f' fs R₂ rf rfs=>?_
 refine ew hl hk hc ok R₂ rf rfs fun ρ₂ s₂ as hp₂ R₂ rf₂ ra=>?_
 exact h c s₂ ls ρ₂ f' as Q E (ok.low hd) R₂ rf₂ ra fun ρ₃ s₃ v' hp₃ R₃ rv=>hQ ρ₃ s₃ v' ((hp.trans hp₂).trans hp₃) R₃ rv
theorem Gj{o name apos args pos}{ov:V}{i:Nat}{pl:Env→Sem Bool}(ho:Ev G dd fn o ls H ov H₁)(hg:Gm G dd ov name H₁ f first)(hk:ey G f)(hl:ap G dd fn args ls H₁ vs H₂)(h:DJ G d₁ f (first++vs) H₂ i H₃)(hd:d₁<dd:=by decide)
  (he:∀ env,eval (.Call (.Attribute o name apos) args [] pos) env=(do
   let ov←eval o env
   standAt apos.atName
   let (f,first)←holding [ov] (getMethod ov name (pl env))
   callWith pos f first (backTo pos (K7 args env)) (backToKw pos (keywordEach [] env))):=by intro _;rfl):ej G dd fn (.Call (.Attribute o name apos) args [] pos) ls H i H₃:=fun c s ρ Q E hc ok hm R hQ=>by
 refine methodCall_KW (ho c s ρ _ _ hc ok R fun ρ₁ s₁ o' hp R₁ ro=>?_) (he _)
 refine hg c s₁ ls ρ₁ o' _ _ _ ok R₁ ro fun s₂ f' fs R₂ rf rfs=>?_
 refine ew hl hk hc ok R₂ rf rfs fun ρ₂ s₂ as hp₂ R₂ rf₂ ra=>?_
 exact h c s₂ ls ρ₂ f' as Q E (ok.low hd) hm R₂ rf₂ ra fun ρ₃ s₃ v' hp₃ R₃=>hQ ρ₃ s₃ v' ((hp.trans hp₂).trans hp₃) R₃
noncomputable def pO(x:Str)(fs:List (Str×V)):Prop:=∀ p∈fs,p.1≠x
theorem pO.getL{P:Params}{ρ:List Addr}{x:Str}:∀ {fs:List (Str×V)} {es:List DictEntry},pO x fs→FR P ρ fs es→W.getL x es=some none:=by
 intro fs es h r
 have key:∀ {fs:List (Str×V)} {es:List DictEntry},pO x fs→FR P ρ fs es→(es.find? fun e=>e.key.isStr x)=none∧es.any (·.refKey)=false:=by
  intro fs
  induction fs with
  | nil=>intro es _ r;cases r.c0;exact⟨rfl,rfl⟩
  | cons f fs ih=>
  intro es h r
  obtain⟨e,es,rfl,⟨_,⟨t,e2⟩,_⟩,r'⟩:=r.cc
  ·obtain⟨h1,h2⟩:=ih (fun p hp=>h p (.tail _ hp)) r'
   refine⟨?_,?_⟩
   ·rw[List.find?_cons,e2,oj (h f (.head _))];exact h1
   rw[List.any_cons,h2]
   show(DictEntry.refKey e || false)=false
   unfold DictEntry.refKey
   rw[e2];rfl
 obtain⟨h1,h2⟩:=key h r
 unfold W.getL
 rw[h1,h2];rfl
noncomputable def eJ(K:Frag)(C:Addr)(x:Str)(f:Addr):Bool:=plainGet K C x && findIn K (.ref C) x==some (some (.ref f)) && isFn K (.ref f)
theorem Gm.inst{i d:Nat}{C g:Addr}{x:Str}{fs:List (Str×V)}(hi:H[i]?=some (.inst C d))(hd:H[d]?=some (.dict fs))(hf:pO x fs)(hC:∀ P,eJ (G.K P) C x g=true):Gm G dd (.obj i) x H (.top g) [.obj i]:=
 fun c s ls ρ o' pl Q E ok R ro hQ=>by
 obtain⟨a,ha,rfl⟩:=ro
 have R0:=R
 obtain⟨m,fr,os,W⟩:=R
 obtain⟨ob,_,hm,⟨ad,had,rfl⟩,_⟩:=W.mem ha hi
 obtain⟨od,_,hmd,⟨es,n,rfl,hes⟩,_⟩:=W.mem had hd
 have h1:=hC c.w.params
 unfold eJ at h1
 simp only[V2,beq_iff_eq] at h1
 exact method_inst W.F ok.X (InstAt.of_news W.N hm hmd) h1.1.1 h1.1.2 h1.2 (hf.getL hes) (hQ s (.ref g) [.ref a] R0 rfl ⟨⟨a,ha,rfl⟩,trivial⟩)
end
section
open PySem.Builtin PySem.Builtin.Str
section
variable {G:cq}{dd:Nat}{fn:bW}{ls ls' ls'':List (Str×V)}{H H' H₁ H₂ H₃:List O}{v a b f ov iv:V}{vs first:List V}{d₁:Nat}
theorem co.push{c:Cx}{ρ:List Addr}{m:Str→Option Value}{fr:List (Addr×Obj)}{os:List Obj}{s:Shared}(W:co c ls ρ H m fr os s)(o:Obj){t:Nat}:aY c ls ρ H { s with heap:=s.heap.push o,toks:=t}:=
 W.same (W.F.push o) fun p hp=>⟨K3 _ (W.N p hp).1,(W.N p hp).2⟩
theorem aY.push{c:Cx}{ρ:List Addr}{s:Shared}(R:aY c ls ρ H s)(o:Obj){t:Nat}:aY c ls ρ H { s with heap:=s.heap.push o,toks:=t}:=by
 obtain⟨_,_,_,W⟩:=R
 exact W.push o
inductive Dz(ρ:List Addr)(xs:List V)(h:Heap)(a:Addr):Prop
 | mk (vs:List Value) (hl:h.IsList a vs.toArray) (r:bq ρ xs vs):Dz ρ xs h a
inductive FF(ρ:List Addr)(xs:List V)(h:Heap)(a:Addr):Prop
 | mk (vs:List Value) (hl:IsTup h a vs.toArray) (r:bq ρ xs vs):FF ρ xs h a
theorem aY.listAt{c:Cx}{ρ:List Addr}{s:Shared}{i:Nat}{a:Addr}{xs:List V}(R:aY c ls ρ H s)(ha:ρ[i]?=some a)(hi:H[i]?=some (.list xs)):Dz ρ xs s.heap a:=by
 obtain⟨m,fr,os,W⟩:=R
 obtain⟨ob,_,hm,⟨vs,n,rfl,r⟩,hg⟩:=W.mem ha hi
 exact⟨vs,⟨_,hg,rfl,n,rfl⟩,r⟩
theorem aY.tupAt{c:Cx}{ρ:List Addr}{s:Shared}{i:Nat}{a:Addr}{xs:List V}(R:aY c ls ρ H s)(ha:ρ[i]?=some a)(hi:H[i]?=some (.tup xs)):FF ρ xs s.heap a:=by
 obtain⟨m,fr,os,W⟩:=R
 obtain⟨ob,_,hm,⟨vs,rfl,r⟩,hg⟩:=W.mem ha hi
 exact⟨vs,⟨_,hg,rfl,0,rfl⟩,r⟩
noncomputable def bE(G:cq)(dd:Nat)(o i:V)(H:List O)(v:V):Prop:=
 ∀ (c:Cx) (s:Shared) (ls:List (Str×V)) (ρ:List Addr) (o' i':Value) (Q E:Value→Shared→Prop),c.Ok G dd→aY c ls ρ H s→VR ρ o o'→VR ρ i i'→(∀ s' v',aY c ls ρ H s'→VR ρ v v'→Q v' s')→
  (∃ T id,typeLookup (.type T) "__getitem__" = pure (some (.builtin id))∧s.TypeIs o' T)∧wpAny (model G.prog c.w) c.A (getItem o' i') Q E s
theorem Ev.item{value slice pos}(hv:Ev G dd fn value ls H ov H₁)(hi:Ev G dd fn slice ls H₁ iv H₂)(hg:bE G dd ov iv H₂ v)
  (hs:∀ o i,subscripted slice false o i=operate [o,i] (getItem o i):=by intro _ _;rfl):Ev G dd fn (.Subscript value slice pos) ls H v H₂:=fun c s ρ Q E hc ok R hQ=>by
 refine Subscript_ (two hv hi hc ok R fun ρ' s' o' i' hp R' ro ri=>?_)
 obtain⟨⟨T,id,e1,e2⟩,h⟩:=hg c s' ls ρ' o' i' Q E ok R' ro ri fun s'' v' R'' rv=>hQ ρ' s'' v' hp R'' rv
 exact tail_any e2 e1 h (hs _ _)
theorem bE.list{i:Nat}{xs:List V}{k:Int}(hi:H[i]?=some (.list xs))(h0:0≤k)(hk:k<2 ^ 63)(hx:xs[k.toNat]?=some v):bE G dd (.obj i) (.int k) H v:=fun c s ls ρ o' i' Q E ok R ro ri hQ=>by
 obtain⟨a,ha,rfl⟩:=ro
 obtain⟨t,rfl⟩:=ri
 obtain⟨vs,hl,r⟩:=R.listAt ha hi
 obtain⟨v',e,rv⟩:=r.get hx
 exact⟨⟨"list",_,slot_list_getitem.lookup,hl.typeIs⟩,wpAny_getItem_list hl h0 hk (by simpa using e) (hQ s v' R rv)⟩
theorem j0{i:Nat}{xs:List V}{k:Int}(hi:H[i]?=some (.list xs))(h0:k<0)(h1:-(xs.length:Int)≤k)(hk:-(2 ^ 63)≤k)(hx:xs[(k+xs.length).toNat]?=some v):bE G dd (.obj i) (.int k) H v:=fun c s ls ρ o' i' Q E ok R ro ri hQ=>by
 obtain⟨a,ha,rfl⟩:=ro
 obtain⟨t,rfl⟩:=ri
 obtain⟨vs,hl,r⟩:=R.listAt ha hi
 obtain⟨v',e,rv⟩:=r.get hx
 have hlen:=r.len
 exact⟨⟨"list",_,slot_list_getitem.lookup,hl.typeIs⟩,wpAny_getItem_list_neg hl h0 (by rw[Q2,← hlen];exact h1) hk (by rw[Q2,← hlen];simpa using e) (hQ s v' R rv)⟩
theorem bE.tup{i:Nat}{xs:List V}{k:Int}{j:Nat}(hi:H[i]?=some (.tup xs))(h0:-(2 ^ 63)≤k)(hk:k<2 ^ 63)(hj:seqIndex? k xs.length=some j)(hx:xs[j]?=some v):bE G dd (.obj i) (.int k) H v:=fun c s ls ρ o' i' Q E ok R ro ri hQ=>by
 obtain⟨a,ha,rfl⟩:=ro
 obtain⟨t,rfl⟩:=ri
 obtain⟨vs,hl,r⟩:=R.tupAt ha hi
 obtain⟨v',e,rv⟩:=r.get hx
 exact⟨⟨"tuple",_,slot_tuple_getitem.lookup,hl.typeIs⟩,getItem_tuple hl h0 hk (by rw[Q2,← r.len];exact hj) (by simpa using e) (hQ s v' R rv)⟩
theorem bE.str{x:Str}{k:Int}(h1:-(x.length:Int)≤k)(h2:k<x.length)(hr:fitsSsize k=true):bE G dd (.str x) (.int k) H (.str (Txt.item x k)):=fun c s ls ρ o' i' Q E ok R ro ri hQ=>by
 obtain⟨t,rfl⟩:=ro
 obtain⟨u,rfl⟩:=ri
 obtain⟨T,id,e1,e2,e3⟩:=(SB.item (prog:=G.prog) (w:=c.w) (A:=c.A) (E:=E) (s:=s) (x:=x) (t:=t) (u:=u) hr (charAt_isSome h1 h2) (hQ _ _ R.tok ⟨_,rfl⟩):ItemOn _ _ _ _ _ _ _)
 exact⟨⟨T,id,e1,e2⟩,e3⟩
noncomputable def BO(G:cq)(dd:Nat)(fn:bW)(e:Option Expr)(ls:List (Str×V))(H:List O)(i:Option Int)(H':List O):Prop:=
 match e,i with
 | none,none=>H'=H
 | some e,some i=>Ev G dd fn e ls H (.int i) H'
 | _,_=>False
theorem cP{e:Option Expr}{i:Option Int}(h:BO G dd fn e ls H i H₁){c:Cx}{s:Shared}{ρ:List Addr}{Q E:Value→Shared→Prop}(hc:c.fn=fn)(ok:c.Ok G dd)(R:aY c ls ρ H s)
  (hQ:∀ ρ' s' t,ρ <+: ρ'→aY c ls ρ' H₁ s'→Q (partValue (i.map fun k=>(k,t))) s'):wpAny (model G.prog c.w) c.A (evalPart e c.env) Q E s:=by
 match e,i,h with
 | none,none,h=>
  obtain rfl:H₁=H:=h
  rw[evalPart_none]
  exact K1 (hQ ρ s 0 (J2 _) R)
 | some e,some i,h=>
 rw[evalPart_some]
 refine h c s ρ Q E hc ok R fun ρ' s' v' hp R' rv=>?_
 obtain⟨t,rfl⟩:=rv
 exact hQ ρ' s' t hp R'
theorem bJ{value lower upper p pos}{x:Str}{l u:Option Int}(hv:Ev G dd fn value ls H (.str x) H₁)(hl:BO G dd fn lower ls H₁ l H₂)(hu:BO G dd fn upper ls H₂ u H₃)(hz:x.length≤J5) :
  Ev G dd fn (.Subscript value (.Slice lower upper none p) pos) ls H (.str (Txt.slice x l u)) H₃:=fun c s ρ Q E hc ok R hQ=>by
 refine Subscript_ (hv c s ρ _ _ hc ok R fun ρ₁ s₁ o' hp₁ R₁ ro=>?_)
 obtain⟨t,rfl⟩:=ro
 refine wpAny_Slice (cP hl hc ok R₁ fun ρ₂ s₂ tl hp₂ R₂=>cP hu hc ok R₂ fun ρ₃ s₃ tu hp₃ R₃=>?_)
 rw[evalPart_none]
 refine K1 ?_
 refine tail_any (typeIs_str _ x t) F.slot_str_getitem.lookup (wpAny_getItem_str_slice (l:=l.map fun k=>(k,tl)) (u:=u.map fun k=>(k,tu)) (st:=none) ⟨_,Q5 _ rfl,rfl,rfl⟩ rfl ?_) rfl
 have key:∀ t' k,Q (.str (Txt.slice x l u) t') { s₃ with heap:=s₃.heap.push { cls:=.type "slice",data:=.fields #[partValue (l.map fun k=>(k,tl)),partValue (u.map fun k=>(k,tu)),.none]},toks:=k}:=
  fun t' k=>hQ ρ₃ _ _ ((hp₁.trans hp₂).trans hp₃) (R₃.push _) ⟨t',rfl⟩
 have e:sliceMade x t (l.map fun k=>(k,tl)) (u.map fun k=>(k,tu)) none=(if((1:Int)==1 && (strSliceIndices l u 1 x.length).length==x.length)=true then Made.val (.str x t) else Made.str ⟨((strSliceIndices l u 1 x.length).filterMap (x.cps[·]?)).toArray⟩):=by
  cases l <;> cases u <;> rfl
 rw[e]
 exact post_val_or_str ⟨J7 (Txt.slice_le x l u) hz,fun t' k=>key t' k⟩
end
end
section
variable {G:cq}{dd:Nat}{fn:bW}{ls ls' ls'':List (Str×V)}{H H' H₁ H₂ H₃:List O}{v a b f ov iv:V}{vs first:List V}{d₁:Nat}
noncomputable def Cm(G:cq)(dd:Nat)(op:CmpOp)(a b:V)(H:List O)(r:Bool):Prop:=
 ∀ (c:Cx) (s:Shared) (ls:List (Str×V)) (ρ:List Addr) (a' b':Value) (Q E:Value→Shared→Prop),c.Ok G dd→aY c ls ρ H s→VR ρ a a'→VR ρ b b'→(∀ s',aY c ls ρ H s'→Q (.bool r) s')→
  wpAny (model G.prog c.w) c.A (compareOp op a' b') Q E s
theorem bo{l op r pos}{k:Bool}(hl:Ev G dd fn l ls H a H₁)(hr:Ev G dd fn r ls H₁ b H₂)(hc:Cm G dd op a b H₂ k)(hm:behindInMarks op r=false:=by rfl):Ev G dd fn (.Compare l [op] [r] pos) ls H (.bool k) H₂:=fun c s ρ Q E e ok R hQ=>
 wpAny_Compare1 (two hl hr e ok R fun ρ' s' a' b' hp R' ra rb=>hc c s' ls ρ' a' b' Q E ok R' ra rb fun s'' R''=>hQ ρ' s'' _ hp R'' rfl) hm
theorem gb{l op r pos}{k:Bool}(hl:Ev G dd fn l ls H a H₁)(hr:Ev G dd fn r ls H₁ b H₂)(hc:Cm G dd op a b H₂ k)(hm:behindInMarks op r=false:=by rfl):Te G dd fn (.Compare l [op] [r] pos) ls H k H₂:=fun c s ρ Q E e ok R hQ=>
 wpAny_isTrue_Compare1 (two hl hr e ok R fun ρ' s' a' b' hp R' ra rb=>hc c s' ls ρ' a' b' _ E ok R' ra rb fun s'' R''=>wpAny_truthy_bool (hQ ρ' s'' hp R'')) hm
theorem d0{l op₁ op₂ r₁ r₂ pos}{k:Bool}{x:V}(hl:Ev G dd fn l ls H a H₁)(hr:Ev G dd fn r₁ ls H₁ x H₂)(hc:Cm G dd op₁ a x H₂ true)(hr₂:Ev G dd fn r₂ ls H₂ b H₃)(hc₂:Cm G dd op₂ x b H₃ k)
  (hm:lastMarks [op₁,op₂] [r₁,r₂]=false:=by rfl):Te G dd fn (.Compare l [op₁,op₂] [r₁,r₂] pos) ls H k H₃:=fun c s ρ Q E e ok R hQ=>by
 refine isTrue_chain (hl c s ρ _ _ e ok R fun ρ₁ s₁ a' hp₁ R₁ ra=>?_) hm
 refine test_link (hr c s₁ ρ₁ _ _ e ok R₁ fun ρ₂ s₂ x' hp₂ R₂ rx=>?_)
 refine hc c s₂ ls ρ₂ a' x' _ E ok R₂ (ra.mono hp₂) rx fun s₃ R₃=>wpAny_truthy_bool ?_
 rw[if_pos rfl]
 refine test_last (hr₂ c s₃ ρ₂ _ _ e ok R₃ fun ρ₄ s₄ b' hp₄ R₄ rb=>?_)
 exact hc₂ c s₄ ls ρ₄ x' b' _ E ok R₄ (rx.mono hp₄) rb fun s₅ R₅=>wpAny_truthy_bool (hQ ρ₄ s₅ ((hp₁.trans hp₂).trans hp₄) R₅)
theorem fC{l op₁ op₂ r₁ r₂ pos}{x:V}(hl:Ev G dd fn l ls H a H₁)(hr:Ev G dd fn r₁ ls H₁ x H₂)(hc:Cm G dd op₁ a x H₂ false)
  (hm:lastMarks [op₁,op₂] [r₁,r₂]=false:=by rfl):Te G dd fn (.Compare l [op₁,op₂] [r₁,r₂] pos) ls H false H₂:=fun c s ρ Q E e ok R hQ=>by
 refine isTrue_chain (hl c s ρ _ _ e ok R fun ρ₁ s₁ a' hp₁ R₁ ra=>?_) hm
 refine test_link (hr c s₁ ρ₁ _ _ e ok R₁ fun ρ₂ s₂ x' hp₂ R₂ rx=>?_)
 refine hc c s₂ ls ρ₂ a' x' _ E ok R₂ (ra.mono hp₂) rx fun s₃ R₃=>wpAny_truthy_bool ?_
 rw[if_neg (by decide)]
 exact hQ ρ₂ s₃ (hp₁.trans hp₂) R₃
theorem aO{e pos}{k:Bool}(h:Te G dd fn e ls H k H₁):Te G dd fn (.UnaryOp .Not e pos) ls H (!k) H₁:=fun c s ρ Q E hc ok R hQ=>
 isTrue_not (h c s ρ _ _ hc ok R fun ρ' s' hp R'=>hQ ρ' s' hp R')
theorem Gq{pos}:Te G dd fn (.BoolOp .And [] pos) ls H true H:=fun c s ρ Q E hc ok R hQ=>isTrue_and_nil (hQ ρ s (J2 _) R)
theorem GK{pos}:Te G dd fn (.BoolOp .Or [] pos) ls H false H:=fun c s ρ Q E hc ok R hQ=>isTrue_or_nil (hQ ρ s (J2 _) R)
noncomputable def ao(G:cq)(dd:Nat)(fn:bW)(e:Expr)(ls:List (Str×V))(H:List O)(b:Bool)(H':List O):Prop:=
 ∀ (c:Cx) (s:Shared) (ρ:List Addr) (whole:Sem Value) (Q:Bool→Shared→Prop) (E:Value→Shared→Prop),c.fn=fn→c.Ok G dd→aY c ls ρ H s→(∀ ρ' s',ρ <+: ρ'→aY c ls ρ' H' s'→Q b s')→
  wpAny (model G.prog c.w) c.A (isTrue e c.env whole) Q E s
theorem ah{e}{k:Bool}(h:ao G dd fn e ls H k H₁):Te G dd fn e ls H k H₁:=fun c s ρ Q E hc ok R hQ=>h c s ρ _ Q E hc ok R hQ
theorem cD{pos}:ao G dd fn (.BoolOp .And [] pos) ls H true H:=fun c s ρ w Q E hc ok R hQ=>isTrue_and_nil (hQ ρ s (J2 _) R)
theorem bh{pos}:ao G dd fn (.BoolOp .Or [] pos) ls H false H:=fun c s ρ w Q E hc ok R hQ=>isTrue_or_nil (hQ ρ s (J2 _) R)
theorem av{e r pos}{k:Bool}(h:Te G dd fn e ls H true H₁)(h₂:ao G dd fn (.BoolOp .And r pos) ls H₁ k H₂):ao G dd fn (.BoolOp .And (e::r) pos) ls H k H₂:=fun c s ρ w Q E hc ok R hQ=>
 isTrue_and (h c s ρ _ _ hc ok R fun ρ' s' hp R'=>by rw[if_pos rfl];exact h₂ c s' ρ' w Q E hc ok R' fun ρ'' s'' hp' R''=>hQ ρ'' s'' (hp.trans hp') R'')
theorem am{e r pos}(h:Te G dd fn e ls H false H₁):ao G dd fn (.BoolOp .And (e::r) pos) ls H false H₁:=fun c s ρ w Q E hc ok R hQ=>
 isTrue_and (h c s ρ _ _ hc ok R fun ρ' s' hp R'=>by rw[if_neg (by decide)];exact hQ ρ' s' hp R')
theorem aw{e r pos}{k:Bool}(h:Te G dd fn e ls H false H₁)(h₂:ao G dd fn (.BoolOp .Or r pos) ls H₁ k H₂):ao G dd fn (.BoolOp .Or (e::r) pos) ls H k H₂:=fun c s ρ w Q E hc ok R hQ=>
 isTrue_or (h c s ρ _ _ hc ok R fun ρ' s' hp R'=>by rw[if_neg (by decide)];exact h₂ c s' ρ' w Q E hc ok R' fun ρ'' s'' hp' R''=>hQ ρ'' s'' (hp.trans hp') R'')
theorem cJ{e r pos}(h:Te G dd fn e ls H true H₁):ao G dd fn (.BoolOp .Or (e::r) pos) ls H true H₁:=fun c s ρ w Q E hc ok R hQ=>
 isTrue_or (h c s ρ _ _ hc ok R fun ρ' s' hp R'=>by rw[if_pos rfl];exact hQ ρ' s' hp R')
noncomputable def Tv(G:cq)(dd:Nat)(v:V)(H:List O)(r:Bool):Prop:=
 ∀ (c:Cx) (s:Shared) (ls:List (Str×V)) (ρ:List Addr) (v':Value) (Q:Bool→Shared→Prop) (E:Value→Shared→Prop),c.Ok G dd→aY c ls ρ H s→VR ρ v v'→(∀ s',aY c ls ρ H s'→Q r s')→
  wpAny (model G.prog c.w) c.A (truthy v') Q E s
theorem Tv.bool{x:Bool}:Tv G dd (.bool x) H x:=fun c s ls ρ v' Q E ok R rv hQ=>by obtain rfl:=rv;exact wpAny_truthy_bool (hQ s R)
theorem Tv.none:Tv G dd .none H false:=fun c s ls ρ v' Q E ok R rv hQ=>by obtain rfl:=rv;exact truthy_none (hQ s R)
theorem Te.val{e}{k:Bool}(h:Ev G dd fn e ls H v H₁)(ht:Tv G dd v H₁ k)(he:∀ env whole,isTrue e env whole=(do let v←whole;standAt e.pos;holding [v] (truthy v)):=by intro _ _;rfl):Te G dd fn e ls H k H₁:=fun c s ρ Q E hc ok R hQ=>
 isTrue_plain (h c s ρ _ _ hc ok R fun ρ' s' v' hp R' rv=>ht c s' ls ρ' v' _ E ok R' rv fun s'' R''=>hQ ρ' s'' hp R'') (he _ _)
theorem fV{op e pos}(h:Ev G dd fn e ls H v H₁):Ev G dd fn (.BoolOp op [e] pos) ls H v H₁:=fun c s ρ Q E hc ok R hQ=>BoolOp_one (h c s ρ Q E hc ok R hQ)
theorem fU{e e₂ r pos}(h:Ev G dd fn e ls H a H₁)(ht:Tv G dd a H₁ true)(h₂:Ev G dd fn (.BoolOp .And (e₂::r) pos) ls H₁ v H₂):Ev G dd fn (.BoolOp .And (e::e₂::r) pos) ls H v H₂:=fun c s ρ Q E hc ok R hQ=>
 BoolOp_and (h c s ρ _ _ hc ok R fun ρ' s' v' hp R' rv=>ht c s' ls ρ' v' _ E ok R' rv fun s'' R''=>by rw[if_pos rfl];exact h₂ c s'' ρ' Q E hc ok R'' fun ρ₃ s₃ w hp₃ R₃ rw=>hQ ρ₃ s₃ w (hp.trans hp₃) R₃ rw)
theorem iO{e e₂ r pos}(h:Ev G dd fn e ls H a H₁)(ht:Tv G dd a H₁ false):Ev G dd fn (.BoolOp .And (e::e₂::r) pos) ls H a H₁:=fun c s ρ Q E hc ok R hQ=>
 BoolOp_and (h c s ρ _ _ hc ok R fun ρ' s' v' hp R' rv=>ht c s' ls ρ' v' _ E ok R' rv fun s'' R''=>by rw[if_neg (by decide)];exact hQ ρ' s'' v' hp R'' rv)
theorem By{e e₂ r pos}(h:Ev G dd fn e ls H a H₁)(ht:Tv G dd a H₁ false)(h₂:Ev G dd fn (.BoolOp .Or (e₂::r) pos) ls H₁ v H₂):Ev G dd fn (.BoolOp .Or (e::e₂::r) pos) ls H v H₂:=fun c s ρ Q E hc ok R hQ=>
 BoolOp_or (h c s ρ _ _ hc ok R fun ρ' s' v' hp R' rv=>ht c s' ls ρ' v' _ E ok R' rv fun s'' R''=>by rw[if_neg (by decide)];exact h₂ c s'' ρ' Q E hc ok R'' fun ρ₃ s₃ w hp₃ R₃ rw=>hQ ρ₃ s₃ w (hp.trans hp₃) R₃ rw)
theorem wl{e e₂ r pos}(h:Ev G dd fn e ls H a H₁)(ht:Tv G dd a H₁ true):Ev G dd fn (.BoolOp .Or (e::e₂::r) pos) ls H a H₁:=fun c s ρ Q E hc ok R hQ=>
 BoolOp_or (h c s ρ _ _ hc ok R fun ρ' s' v' hp R' rv=>ht c s' ls ρ' v' _ E ok R' rv fun s'' R''=>by rw[if_pos rfl];exact hQ ρ' s'' v' hp R'' rv)
theorem aj{test body orelse pos}{k:Bool}(h:Te G dd fn test ls H k H₁)(h₂:Ev G dd fn (if k then body else orelse) ls H₁ v H₂):Ev G dd fn (.IfExp test body orelse pos) ls H v H₂:=fun c s ρ Q E hc ok R hQ=>by
 refine wpAny_IfExp (h c s ρ _ _ hc ok R fun ρ' s' hp R'=>?_)
 have z:=h₂ c s' ρ' Q E hc ok R' fun ρ'' s'' v' hp' R'' rv=>hQ ρ'' s'' v' (hp.trans hp') R'' rv
 cases k <;> exact z
theorem aK{e pos}{x:Int}(h:Ev G dd fn e ls H (.int x) H₁):Ev G dd fn (.UnaryOp .USub e pos) ls H (.int (-x)) H₁:=fun c s ρ Q E hc ok R hQ=>
 wpAny_UnaryOp (h c s ρ _ _ hc ok R fun ρ' s' v' hp R' rv=>by obtain⟨t,rfl⟩:=rv;exact neg_int (hQ ρ' _ _ hp R'.tok ⟨_,rfl⟩))
theorem GU{e pos}{k:Bool}(h:Ev G dd fn e ls H v H₁)(ht:Tv G dd v H₁ k):Ev G dd fn (.UnaryOp .Not e pos) ls H (.bool (!k)) H₁:=fun c s ρ Q E hc ok R hQ=>
 wpAny_UnaryOp (h c s ρ _ _ hc ok R fun ρ' s' v' hp R' rv=>not_of (ht c s' ls ρ' v' _ E ok R' rv fun s'' R''=>hQ ρ' s'' _ hp R'' rfl))
theorem bF{x y:Int}:Cm G dd .Eq (.int x) (.int y) H (x==y):=fun c s ls ρ a' b' Q E ok R ra rb hQ=>by obtain⟨t,rfl⟩:=ra;obtain⟨u,rfl⟩:=rb;exact PyProof.Rows.eq_int (hQ s R)
theorem bZ{x y:Int}:Cm G dd .NotEq (.int x) (.int y) H (x != y):=fun c s ls ρ a' b' Q E ok R ra rb hQ=>by obtain⟨t,rfl⟩:=ra;obtain⟨u,rfl⟩:=rb;exact PyProof.Rows.ne_int (hQ s R)
theorem bQ{x y:Int}:Cm G dd .Lt (.int x) (.int y) H (decide (x<y)):=fun c s ls ρ a' b' Q E ok R ra rb hQ=>by obtain⟨t,rfl⟩:=ra;obtain⟨u,rfl⟩:=rb;exact PyProof.Rows.lt_int (hQ s R)
theorem cC{x y:Int}:Cm G dd .LtE (.int x) (.int y) H (decide (x≤y)):=fun c s ls ρ a' b' Q E ok R ra rb hQ=>by obtain⟨t,rfl⟩:=ra;obtain⟨u,rfl⟩:=rb;exact PyProof.Rows.le_int (hQ s R)
theorem gP{x y:Int}:Cm G dd .Gt (.int x) (.int y) H (decide (y<x)):=fun c s ls ρ a' b' Q E ok R ra rb hQ=>by obtain⟨t,rfl⟩:=ra;obtain⟨u,rfl⟩:=rb;exact PyProof.Rows.gt_int (hQ s R)
theorem oY{x y:Int}:Cm G dd .GtE (.int x) (.int y) H (decide (y≤x)):=fun c s ls ρ a' b' Q E ok R ra rb hQ=>by obtain⟨t,rfl⟩:=ra;obtain⟨u,rfl⟩:=rb;exact PyProof.Rows.ge_int (hQ s R)
theorem ae{x y:Str}:Cm G dd .Eq (.str x) (.str y) H (x==y):=fun c s ls ρ a' b' Q E ok R ra rb hQ=>by obtain⟨t,rfl⟩:=ra;obtain⟨u,rfl⟩:=rb;exact PyProof.Rows.eq_str (hQ s R)
theorem cy{x y:Str}:Cm G dd .NotEq (.str x) (.str y) H (x != y):=fun c s ls ρ a' b' Q E ok R ra rb hQ=>by obtain⟨t,rfl⟩:=ra;obtain⟨u,rfl⟩:=rb;exact PyProof.Rows.ne_str (hQ s R)
theorem aT{x y:Str}:Cm G dd .In (.str y) (.str x) H (!(Builtin.Str.occurrences x y 0 x.length 1).isEmpty):=fun c s ls ρ a' b' Q E ok R ra rb hQ=>by obtain⟨t,rfl⟩:=ra;obtain⟨u,rfl⟩:=rb;exact PyProof.Rows.in_str (hQ s R)
theorem EO{x y:Bool}:Cm G dd .Eq (.bool x) (.bool y) H (x==y):=fun c s ls ρ a' b' Q E ok R ra rb hQ=>by obtain rfl:=ra;obtain rfl:=rb;exact PyProof.Rows.eq_bool (hQ s R)
theorem EK{x y:Bool}:Cm G dd .NotEq (.bool x) (.bool y) H (x != y):=fun c s ls ρ a' b' Q E ok R ra rb hQ=>by obtain rfl:=ra;obtain rfl:=rb;exact PyProof.Rows.ne_bool (hQ s R)
noncomputable def V.isNone:V→Bool
 | .none=>true
 | _=>false
theorem VR.none{ρ:List Addr}:∀ {v:V} {v':Value},VR ρ v v'→(v'==.none)=v.isNone
 | .none,_,e=>by cases e;rfl
 | .bool _,_,e=>by cases e;rfl
 | .int _,_,⟨_,e⟩=>by cases e;rfl
 | .str _,_,⟨_,e⟩=>by cases e;rfl
 | .byt _,_,⟨_,e⟩=>by cases e;rfl
 | .top _,_,e=>by cases e;rfl
 | .ty _,_,e=>by cases e;rfl
 | .bi _,_,e=>by cases e;rfl
 | .obj _,_,⟨_,_,e⟩=>by cases e;rfl
theorem bk{x:V}:Cm G dd .Is x .none H x.isNone:=fun c s ls ρ a' b' Q E ok R ra rb hQ=>by obtain rfl:=rb;exact is_none_gen (by rw[ra.none];exact hQ s R)
theorem aS{x:V}:Cm G dd .IsNot x .none H (!x.isNone):=fun c s ls ρ a' b' Q E ok R ra rb hQ=>by obtain rfl:=rb;exact isnot_none_gen (by rw[ra.none];exact hQ s R)
theorem sM{y:Int}:Cm G dd .Eq .none (.int y) H false:=fun c s ls ρ a' b' Q E ok R ra rb hQ=>by obtain rfl:=ra;obtain⟨u,rfl⟩:=rb;exact EqNone.eq_none_int (hQ s R)
theorem sN{y:Int}:Cm G dd .Eq (.int y) .none H false:=fun c s ls ρ a' b' Q E ok R ra rb hQ=>by obtain rfl:=rb;obtain⟨u,rfl⟩:=ra;exact EqNone.eq_int_none (hQ s R)
theorem sL:Cm G dd .Eq .none .none H true:=fun c s ls ρ a' b' Q E ok R ra rb hQ=>by obtain rfl:=ra;obtain rfl:=rb;exact EqNone.eq_none_none (hQ s R)
end
section
variable {G:cq}{dd:Nat}{fn:bW}{ls ls' ls'':List (Str×V)}{H H' H₁ H₂ H₃:List O}{v a b f ov iv:V}{vs first:List V}{d₁:Nat}
theorem Bu{P:Params}{ρ:List Addr}{x:Str}{v:V}{v':Value}{t:Tok}(rv:VR ρ v v'){fs fs':List (Str×V)}(h:iz x v fs fs'):∀ {es:List DictEntry},FR P ρ fs es→FR P ρ fs' (putL x (PyData.keyHash P x) (.str x t) v' es):=by
 induction h with
 | new=>intro es r;cases r.c0;exact⟨⟨rfl,⟨t,rfl⟩,rv⟩,trivial⟩
 | here=>
  intro es r
  obtain⟨e,es,rfl,⟨h1,⟨u,h2⟩,_⟩,r'⟩:=r.cc
  ·unfold putL
   have hb:e.key.isStr x=true:=by rw[h2];simp[Value.isStr]
   rw[if_pos hb]
   exact⟨⟨h1,⟨u,h2⟩,rv⟩,r'⟩
 | there hn _ ih=>
 intro es r
 obtain⟨e,es,rfl,⟨h1,⟨u,h2⟩,h3⟩,r'⟩:=r.cc
 ·unfold putL
  have hb:e.key.isStr x=false:=by rw[h2];exact oj hn
  rw[hb]
  exact⟨⟨h1,⟨u,h2⟩,h3⟩,ih r'⟩
theorem FR.some{P:Params}{ρ:List Addr}{x:Str}:∀ {fs:List (Str×V)} {es:List DictEntry},FR P ρ fs es→(W.getL x es).isSome=true:=by
 intro fs es r
 have key:∀ {fs:List (Str×V)} {es:List DictEntry},FR P ρ fs es→es.any (·.refKey)=false:=by
  intro fs
  induction fs with
  | nil=>intro es r;cases r.c0;rfl
  | cons f fs ih=>
  intro es r
  obtain⟨e,es,rfl,⟨_,⟨t,e2⟩,_⟩,r'⟩:=r.cc
  ·rw[List.any_cons,ih r']
   show(DictEntry.refKey e || false)=false
   unfold DictEntry.refKey
   rw[e2];rfl
 unfold W.getL
 split
 ·rfl
 rw[key r];rfl
theorem FR.len{P:Params}{ρ:List Addr}:∀ {fs:List (Str×V)} {es:List DictEntry},FR P ρ fs es→es.length=fs.length
 | [],[],_=>rfl
 | _::_,_::_,⟨_,r⟩=>congrArg (· + 1) (FR.len r)
 | [],_::_,h=>h.elim
 | _::_,[],h=>h.elim
noncomputable def d3(K:Frag)(C:Addr)(x:Str):Bool:=findIn K (.ref C) "__setattr__" == some (some (.builtin "object.__setattr__")) && plainOver K C && takerIn K C x==some none && hasDictIn K C
theorem s7{c:Cx}{s:Shared}{ρ:List Addr}{Q:Unit→Shared→Prop}{E:Value→Shared→Prop}{i d:Nat}{C:Addr}{x:Str}{fs fs':List (Str×V)}{o' v':Value}(ok:c.Ok G dd)(R:aY c ls ρ H s)(ro:VR ρ (.obj i) o')(rv:VR ρ v v')
  (hi:H[i]?=some (.inst C d)) (hd:H[d]?=some (.dict fs)) (hf:iz x v fs fs') (hC:∀ P,d3 (G.K P) C x=true) (hz:fs'.length≤1000)
  (hQ:∀ s',aY c ls ρ (H.set d (.dict fs')) s'→Q () s'):wpAny (model G.prog c.w) c.A (setAttr o' x v') Q E s:=by
 obtain⟨a,ha,rfl⟩:=ro
 obtain⟨m,fr,os,W⟩:=R
 obtain⟨ob,_,hm,⟨ad,had,rfl⟩,_⟩:=W.mem ha hi
 obtain⟨od,hod,hmd,⟨es,n,rfl,hes⟩,_⟩:=W.mem had hd
 have h1:=hC c.w.params
 unfold d3 at h1
 simp only[V2,beq_iff_eq] at h1
 have hp:=Bu (P:=c.w.params) (t:=s.toks+1) rv hf hes
 refine set_dict W.F ok.X W.N (InstAt.of_news W.N hm hmd) rfl h1.1.1.1 h1.1.1.2 h1.1.2 h1.2 hes.some rfl (W.upd had hod) (by rw[hp.len];exact hz) fun h' F' N'=>?_
 exact hQ _ (W.set (t:=s.toks+2) F' N' ⟨_,_,rfl,hp⟩)
theorem aR{o x pos' e pos}{i d:Nat}{C:Addr}{fs fs':List (Str×V)}(h:Ev G dd fn e ls H v H₁)(ho:Ev G dd fn o ls H₁ (.obj i) H₂)(hi:H₂[i]?=some (.inst C d))(hd:H₂[d]?=some (.dict fs))(hf:iz x v fs fs')(hC:∀ P,d3 (G.K P) C x=true)(hz:fs'.length≤1000:=by decide)
  (hs:∀ env,Y3 e (some (.Attribute o x pos')) pos.line env=pure false:=by intro _;rfl):Ex G dd fn (.Assign [.Attribute o x pos'] e pos) ls H .next ls (H₂.set d (.dict fs')):=fun c s ρ Q E hc ok R hQ=>by
 refine plainObj_wpAny_Assign_Attribute (two h ho hc ok R fun ρ' s' v' o' hp R' rv ro=>?_) (hs _)
 exact s7 ok R' ro rv hi hd hf hC hz fun s'' R''=>hQ ρ' s'' _ hp R'' rfl
theorem fz{c:Cx}(h:c.fn.sc.kind=.function):interactive c.env=false:=by
 unfold interactive
 rw[c.env_scope]
 simp[h]
theorem Ex.expr{e pos}(h:Ev G dd fn e ls H v H₁)(hs:∀ env,Y3 e none pos.line env=pure false:=by intro _;rfl):Ex G dd fn (.Expr e pos) ls H .next ls H₁:=fun c s ρ Q E hc ok R hQ=>by
 refine wpAny_Expr_any (h c s ρ _ _ hc ok R fun ρ' s' v' hp R' rv=>hQ ρ' s' _ hp R' rfl) ?_ (hs _)
 exact fz ok.hk
theorem co.lt{c:Cx}{ρ:List Addr}{m:Str→Option Value}{fr:List (Addr×Obj)}{os:List Obj}{s:Shared}(W:co c ls ρ H m fr os s):∀ p∈(fr++c.kp)++ρ.zip os,p.1<s.heap.objs.size:=fun p hp=>Heap.lt_size (W.N p hp).1
theorem Ev.list{elts pos}(h:ap G dd fn elts ls H vs H₁)(hz:vs.length≤J5):Ev G dd fn (.List elts pos) ls H (.obj H₁.length) (H₁++[.list vs]):=fun c s ρ Q E hc ok R hQ=>by
 refine List_ (h.2 c s ρ pos _ E hc ok R fun ρ₁ s₁ ws hp R₁ rw=>?_)
 have hl:=R₁.hlen
 obtain⟨m,fr,os,W⟩:=R₁
 refine newList_K W.F W.N (fun l h' F' N' hlt=>?_) (by rw[←rw.len];exact hz)
 have R':=W.alloc (t:=s₁.toks) (x:=.list vs) F' N' hlt ⟨ws,0,rfl,rw⟩
 exact hQ (ρ₁++[l]) _ _ (hp.trans (K4 _ _)) R' ⟨l,by rw[hl];simp,rfl⟩
theorem zY{c:Cx}{s:Shared}{ρ:List Addr}{Q:Value→Shared→Prop}{E:Value→Shared→Prop}{ws:List Value}(R:aY c ls ρ H s)(rw:bq ρ vs ws)(hz:vs.length≤J5)
  (hQ:∀ ρ' s' v',ρ <+: ρ'→aY c ls ρ' (H++[.tup vs]) s'→VR ρ' (.obj H.length) v'→Q v' s'):wpAny (model G.prog c.w) c.A (newTuple ws) Q E s:=by
 have hl:=R.hlen
 obtain⟨m,fr,os,W⟩:=R
 refine newTuple_N W.F W.N (fun h' F' N'=>?_) (by rw[←rw.len];exact hz)
 have R':=W.alloc (t:=s.toks) (x:=.tup vs) F' N' W.lt ⟨ws,rfl,rw⟩
 exact hQ (ρ++[s.heap.objs.size]) _ _ (K4 _ _) R' ⟨_,by rw[hl];simp,rfl⟩
theorem Ev.tup{elts k pos}(h:ap G dd fn elts ls H vs H₁)(hz:vs.length≤J5):Ev G dd fn (.Tuple elts k pos) ls H (.obj H₁.length) (H₁++[.tup vs]):=fun c s ρ Q E hc ok R hQ=>by
 refine Tuple_ (h.2 c s ρ pos _ E hc ok R fun ρ₁ s₁ ws hp R₁ rw=>?_)
 exact zY R₁ rw hz fun ρ' s' v' hp' R' rv=>hQ ρ' s' v' (hp.trans hp') R' rv
theorem ez{x:Str}(hz:x.length≤J5):Cl G 0 (.bi "len") [.str x] H (.int x.length) H:=fun c s ls ρ f' vs Q E ok R rf ra hQ=>by
 obtain rfl:=rf
 obtain⟨x',rfl,⟨t,e⟩,_⟩:=bq.c1 ra
 ·subst e
  refine len_str (by have:J5=16777216:=rfl;lia) (hQ ρ _ _ (J2 _) R.tok ⟨_,rfl⟩)
theorem ar{i:Nat}{xs:List V}(hi:H[i]?=some (.list xs))(hz:xs.length≤J5):Cl G 0 (.bi "len") [.obj i] H (.int xs.length) H:=fun c s ls ρ f' vs Q E ok R rf ra hQ=>by
 obtain rfl:=rf
 obtain⟨x',rfl,⟨a,ha,e⟩,_⟩:=bq.c1 ra
 ·subst e
  obtain⟨ws,hl,r⟩:=R.listAt ha hi
  have:=r.len
  have e:(ws.toArray.size:Int)=xs.length:=by rw[Q2,this]
  refine call_len_list hl (by rw[e];have:J5=16777216:=rfl;lia) ?_
  rw[e]
  exact hQ ρ _ _ (J2 _) R.tok ⟨_,rfl⟩
theorem Gm.list{i:Nat}{xs:List V}{name:Str}{id:String}(slot:Slot "list" name id)(hty:typeOf (.builtin id)=pure (.type "method_descriptor"))(hi:H[i]?=some (.list xs)):Gm G dd (.obj i) name H (.bi id) [.obj i]:=fun c s ls ρ o' pl Q E ok R ro hQ=>by
 obtain⟨a,ha,rfl⟩:=ro
 have R0:=R
 obtain⟨m,fr,os,W⟩:=R
 obtain⟨ob,_,hm,⟨ws,n,rfl,r⟩,_⟩:=W.mem ha hi
 exact kl_method W.N hm slot hty (hQ s _ _ R0 rfl ⟨⟨a,ha,rfl⟩,trivial⟩)
theorem Gm.append{i:Nat}{xs:List V}(hi:H[i]?=some (.list xs)):Gm G dd (.obj i) (J0 "append") H (.bi "list.append") [.obj i]:=fun c s ls ρ o' pl Q E ok R ro hQ=>by
 obtain⟨a,ha,rfl⟩:=ro
 have R0:=R
 obtain⟨m,fr,os,W⟩:=R
 obtain⟨ob,_,hm,⟨ws,n,rfl,r⟩,_⟩:=W.mem ha hi
 exact getMethod_append_N W.N hm (hQ s _ _ R0 rfl ⟨⟨a,ha,rfl⟩,trivial⟩)
theorem Cl.append{i:Nat}{xs:List V}(hi:H[i]?=some (.list xs))(hz:xs.length≤J5):Cl G 0 (.bi "list.append") [.obj i,v] H .none (H.set i (.list (xs++[v]))):=fun c s ls ρ f' vs Q E ok R rf ra hQ=>by
 obtain rfl:=rf
 obtain⟨x',v',rfl,⟨a,ha,e⟩,rv,_⟩:=bq.c2 ra
 ·subst e
  obtain⟨m,fr,os,W⟩:=R
  obtain⟨ob,ho,hm,⟨ws,n,rfl,r⟩,_⟩:=W.mem ha hi
  refine append_K W.F W.N (W.upd ha ho) (fun h' F' N'=>?_) (by rw[Q2,← r.len];exact hz)
  exact hQ ρ _ _ (J2 _) (W.set (t:=s.toks) F' N' ⟨ws++[v'],n+1,by simp,r.app ⟨rv,trivial⟩⟩) rfl
end
section
variable {G:cq}{dd:Nat}{fn:bW}{ls ls' ls'':List (Str×V)}{H H' H₁ H₂ H₃:List O}{v a b f ov iv:V}{vs first:List V}{d₁:Nat}
theorem lm:∀ (p:List Value) (y:Value),kl_last (p++[y])=some (p,y)
 | [],y=>rfl
 | x::p,y=>by
  show(match kl_last (p++[y]) with | some (p,y)=>some (x::p,y) | none=>some ([],x))=_
  rw[lm p y]
theorem bq.split{ρ:List Addr}:∀ {xs ys:List V} {vs:List Value},bq ρ (xs++ys) vs→∃ us ws,vs=us++ws∧bq ρ xs us∧bq ρ ys ws
 | [],ys,vs,h=>⟨[],vs,rfl,trivial,h⟩
 | x::xs,ys,v::vs,⟨a,b⟩=>let ⟨us,ws,e,h1,h2⟩:=bq.split b;⟨v::us,ws,by rw[e];rfl,⟨a,h1⟩,h2⟩
 | _::_,_,[],h=>h.elim
theorem ww{i:Nat}{xs:List V}(hi:H[i]?=some (.list (xs++[v])))(hz:xs.length<J5):Cl G 0 (.bi "list.pop") [.obj i] H v (H.set i (.list xs)):=fun c s ls ρ f' vs Q E ok R rf ra hQ=>by
 obtain rfl:=rf
 obtain⟨x',rfl,⟨a,ha,e⟩,_⟩:=bq.c1 ra
 ·subst e
  obtain⟨m,fr,os,W⟩:=R
  obtain⟨ob,ho,hm,⟨ws,n,rfl,r⟩,_⟩:=W.mem ha hi
  obtain⟨us,ys,rfl,r1,r2⟩:=r.split
  obtain⟨y,rfl,ry,_⟩:=r2.c1
  ·refine kl_pop W.F W.N (show kl_last (us++[y])=_ from lm us y) (W.upd ha ho) ?_ fun h' F' N'=>?_
   ·have:=r1.len
    show(us++[y]).length≤_
    rw[V6]
    show us.length+1≤_
    lia
   exact hQ ρ _ _ (J2 _) (W.set (t:=s.toks) F' N' ⟨us,n+1,rfl,r1⟩) ry
noncomputable def kP(K:Frag)(C fI:Addr):Bool:=makesIn K C && findIn K (.ref C) "__init__" == some (some (.ref fI)) && typeIn K (.ref fI)==some (.type "function")
theorem mP{C fI:Addr}{args:List V}(hC:∀ P,kP (G.K P) C fI=true)(h:Co G dd (.top fI) (.obj (H.length+1)::args) (H++[.dict []]++[.inst C H.length]) .none H₁):Cl G dd (.top C) args H (.obj (H.length+1)) H₁:=fun c s ls ρ f' vs Q E ok R rf ra hQ=>by
 obtain rfl:=rf
 have hl:=R.hlen
 have hX:=R.inK ok
 obtain⟨m,fr,os,W⟩:=R
 have h1:=hC c.w.params
 unfold kP at h1
 simp only[V2,beq_iff_eq] at h1
 refine wpAny_call (make_K W.F W.N hX h1.1.1 h1.1.2 h1.2 fun x dx h' F' N' l1 l2=>?_)
 have N1:News c.base c.L h' ((dx,emptyDict)::((fr++c.kp)++ρ.zip os)):=fun p hp=>N' p (.tail _ hp)
 have W1:=W.allocW (t:=s.toks) (x:=.dict []) F' N1 l1 ⟨[],0,rfl,trivial⟩
 have hd:(ρ++[dx])[H.length]?=some dx:=by rw[hl];simp
 have N2:News c.base c.L h' ((x,instObj C dx)::((fr++c.kp)++(ρ++[dx]).zip (os++[emptyDict]))):=fun p hp=>by
  rcases K2.mp hp with rfl | hp
  ·exact N' _ (.head _)
  exact W1.N p hp
 have l3:∀ p∈(fr++c.kp)++(ρ++[dx]).zip (os++[emptyDict]),p.1<x:=fun p hp=>by
  rcases W.mem_app hp with h | rfl
  ·exact Nat.lt_trans (l1 p h) l2
  exact l2
 have R2:=W1.alloc (t:=s.toks) (x:=.inst C H.length) F' N2 l3 ⟨dx,hd,rfl⟩
 have hp:ρ <+: ρ++[dx]++[x]:=by rw[K0];exact K4 _ _
 have hx:(ρ++[dx]++[x])[H.length+1]?=some x:=by rw[hl];simp
 refine h c _ _ ls _ _ _ _ ok (by show Option.map _ _=_;first | exact ok.frames | rfl) ?_ ?_ ?_ R2 rfl ⟨⟨x,hx,rfl⟩,ra.mono hp⟩ fun ρ' s' v' hp' R' rv=>?_
 ·exact ok.hh
 ·show(c.A.under _).depth≤_
  rw[depth_under_kw]
  show c.A₀.depth+1+1≤_
  lia
 ·show c.A₀.units+3+Code.cUnits _≤_
  have:Code.cUnits (.builtin "type.__call__" ⟨.ref C::vs,[]⟩)≤5:=by first | decide | (show(1:Nat)≤5;decide) | (show(3:Nat)≤5;decide) | (show(0:Nat)≤5;decide) | (show(2:Nat)≤5;decide)| (show(5:Nat)≤5;decide)
  lia
 obtain rfl:=rv
 exact⟨rfl,hQ ρ' s' _ (hp.trans hp') R' ⟨x,aH hp' hx,rfl⟩⟩
end
inductive Sn(fn:bW)(x:Str)(v:V):List (Str×V)→List O→List (Str×V)→List O→Prop
 | loc {l l' h}:(x,NameKind.local)∈fn.sc.names→iz x v l l'→Sn fn x v l h l' h
 | cell {l h i w}:(x,NameKind.cell)∈fn.sc.names→(x,i)∈fn.ce→h[i]?=some (.cell w)→Sn fn x v l h l (h.set i (.cell (some v)))
inductive As(fn:bW):List Expr→List V→List (Str×V)→List O→List (Str×V)→List O→Prop
 | nil {l h}:As fn [] [] l h l h
 | cons {x p v es vs l h l₁ h₁ l' h'}:Sn fn x v l h l₁ h₁→As fn es vs l₁ h₁ l' h'→As fn (.Name x p::es) (v::vs) l h l' h'
inductive y7(fn:bW):List Str→List V→List (Str×V)→List O→List (Str×V)→List O→Prop
 | nil {l h}:y7 fn [] [] l h l h
 | cons {x v es vs l h l₁ h₁ l' h'}:Sn fn x v l h l₁ h₁→y7 fn es vs l₁ h₁ l' h'→y7 fn (x::es) (v::vs) l h l' h'
inductive Wl(G:cq)(dd:Nat)(fn:bW)(test:Expr)(body:List Stmt):Nat→List (Str×V)→List O→Fl→List (Str×V)→List O→Prop
 | done {ls H H₁}:Te G dd fn test ls H false H₁→Wl G dd fn test body 0 ls H .next ls H₁
 | step {n ls H H₁ l₂ H₂ f l₃ H₃}:Te G dd fn test ls H true H₁→Es G dd fn body ls H₁ .next l₂ H₂→Wl G dd fn test body n l₂ H₂ f l₃ H₃→Wl G dd fn test body (n+1) ls H f l₃ H₃
 | ret {ls H H₁ l₂ H₂ v}:Te G dd fn test ls H true H₁→Es G dd fn body ls H₁ (.ret v) l₂ H₂→Wl G dd fn test body 0 ls H (.ret v) l₂ H₂
section
variable {G:cq}{dd:Nat}{fn:bW}{ls ls' ls'':List (Str×V)}{H H' H₁ H₂ H₃:List O}{v a b f ov iv:V}{vs first:List V}{d₁:Nat}
theorem gA{i d:Nat}{C:Addr}(hi:H[i]?=some (.inst C d))(hd:∃ fs,H[d]?=some (.dict fs))(hC:∀ P,isIn (G.K P) (.ref C) C=true):Cl G 0 (.bi "isinstance") [.obj i,.top C] H (.bool true) H:=fun c s ls ρ f' vs Q E ok R rf ra hQ=>by
 obtain rfl:=rf
 obtain⟨x',c',rfl,⟨a,ha,e⟩,e2,_⟩:=bq.c2 ra
 ·have e2':c'=.ref C:=e2
  subst e e2'
  have hX:=R.inK ok
  have R0:=R
  obtain⟨fs,hd⟩:=hd
  obtain⟨m,fr,os,W⟩:=R
  obtain⟨ob,_,hm,⟨ad,had,rfl⟩,_⟩:=W.mem ha hi
  obtain⟨od,_,hmd,⟨es,n,rfl,hes⟩,_⟩:=W.mem had hd
  exact isi_call hX (fun _=>(InstAt.of_news W.N hm hmd).type) (hC _) (by intro q;cases q) (hQ ρ _ _ (J2 _) R0 rfl)
noncomputable def wX(K:Frag)(D C:Addr):Bool:=kin_not K D C && plainGet K D "__class__" && hasDictIn K D && findIn K (.ref D) "__class__" == some (some (.builtin "object.__class__")) &&
 specialIn K (.builtin "object.__class__") "__get__" == some (some (.builtin "getset_descriptor.__get__")) && takesIn K (.builtin "object.__class__")==some true && mroIn K D (.type "object")==some true
theorem uO{i d:Nat}{D C:Addr}(hi:H[i]?=some (.inst D d))(hd:∃ fs,H[d]?=some (.dict fs))(hC:∀ P,wX (G.K P) D C=true):Cl G 0 (.bi "isinstance") [.obj i,.top C] H (.bool false) H:=fun c s ls ρ f' vs Q E ok R rf ra hQ=>by
 obtain rfl:=rf
 obtain⟨x',c',rfl,⟨a,ha,e⟩,e2,_⟩:=bq.c2 ra
 ·have e2':c'=.ref C:=e2
  subst e e2'
  have hX:=R.inK ok
  have R0:=R
  obtain⟨fs,hd⟩:=hd
  obtain⟨m,fr,os,W⟩:=R
  obtain⟨ob,_,hm,⟨ad,had,rfl⟩,_⟩:=W.mem ha hi
  obtain⟨od,_,hmd,⟨es,n,rfl,hes⟩,_⟩:=W.mem had hd
  have h1:=hC c.w.params
  unfold wX at h1
  simp only[V2,beq_iff_eq] at h1
  obtain⟨⟨⟨⟨⟨⟨k1,k2⟩,k3⟩,k4⟩,k5⟩,k6⟩,k7⟩:=h1
  exact kin_callC hX (InstAt.of_news W.N hm hmd) k1 k2 k3 k4 k5 k6 k7 (hQ ρ _ _ (J2 _) R0.tok rfl)
theorem gR{x:Int}:Cl G 0 (.bi "isinstance") [.int x,.ty "tuple"] H (.bool false) H:=fun c s ls ρ f' vs Q E ok R rf ra hQ=>by
 obtain rfl:=rf
 obtain⟨x',c',rfl,⟨t,e⟩,e2,_⟩:=bq.c2 ra
 ·have e2':c'=.type "tuple":=e2
  subst e e2'
  exact IsiPair.int_tuple (hQ ρ _ _ (J2 _) R.tok rfl)
theorem gQ{i:Nat}{xs:List V}(hi:H[i]?=some (.tup xs)):Cl G 0 (.bi "isinstance") [.obj i,.ty "tuple"] H (.bool true) H:=fun c s ls ρ f' vs Q E ok R rf ra hQ=>by
 obtain rfl:=rf
 obtain⟨x',c',rfl,⟨a,ha,e⟩,e2,_⟩:=bq.c2 ra
 ·have e2':c'=.type "tuple":=e2
  subst e e2'
  obtain⟨ws,⟨o,ho,hc,_⟩,_⟩:=R.tupAt ha hi
  exact IsiPair.tuple_tuple ho hc (hQ ρ _ _ (J2 _) R rfl)
theorem sO{x:Int}:Cl G 0 (.bi "isinstance") [.int x,.ty "str"] H (.bool false) H:=fun c s ls ρ f' vs Q E ok R rf ra hQ=>by
 obtain rfl:=rf
 obtain⟨x',c',rfl,⟨t,e⟩,e2,_⟩:=bq.c2 ra
 ·have e2':c'=.type "str":=e2
  subst e e2'
  exact IsiPair.int_str (hQ ρ _ _ (J2 _) R.tok rfl)
theorem j4{x:Str}:Cl G 0 (.bi "isinstance") [.str x,.ty "str"] H (.bool true) H:=fun c s ls ρ f' vs Q E ok R rf ra hQ=>by
 obtain rfl:=rf
 obtain⟨x',c',rfl,⟨t,e⟩,e2,_⟩:=bq.c2 ra
 ·have e2':c'=.type "str":=e2
  subst e e2'
  exact IsiPair.str_str (hQ ρ _ _ (J2 _) R rfl)
theorem kW{α β:Type}:∀ {l:List α} {r:List β} {i:Nat} {a:α} {o':β} {p:α×β},l[i]?=some a→l.Nodup→p∈l.zip (r.set i o')→p=(a,o')∨(p∈l.zip r∧p.1≠a)
 | x::l,y::r,0,a,o',p,ha,nd,hp=>by
  simp only[List.getElem?_cons_zero,Option.some.injEq] at ha
  subst ha
  rcases K2.mp hp with rfl | hp
  ·exact .inl rfl
  refine .inr ⟨.tail _ hp,fun e=>(K9.mp nd).1 ?_⟩
  have:=(List.of_mem_zip (a:=p.1) (b:=p.2) hp).1
  rw[←e];exact this
 | x::l,y::r,i+1,a,o',p,ha,nd,hp=>by
  simp only[List.getElem?_cons_succ] at ha
  rcases K2.mp hp with rfl | hp
  ·exact .inr ⟨.head _,fun e=>(K9.mp nd).1 ((show x=a from e).symm▸(V8 ha:a∈l))⟩
  rcases kW ha (K9.mp nd).2 hp with h | ⟨h1,h2⟩
  ·exact .inl h
  exact .inr ⟨.tail _ h1,h2⟩
 | [],_,_,_,_,_,ha,_,_=>by simp at ha
 | _::_,[],_,_,_,_,_,_,hp=>by simp at hp
theorem co.setAtW{c:Cx}{ρ:List Addr}{m:Str→Option Value}{fr:List (Addr×Obj)}{os:List Obj}{s:Shared}(W:co c ls ρ H m fr os s){i:Nat}{a:Addr}{ob':Obj}{x:O}{h:Heap}{t:Nat}
  (ha:ρ[i]?=some a) (hi:i<H.length) (hs:∀ b o,b≠a→s.heap.get? b=some o→h.get? b=some o) (ho:h.get? a=some ob') (hx:OR c.w.params ρ x ob') :
  co c ls ρ (H.set i x) m fr (os.set i ob') { s with heap:=h,toks:=t}:=by
 have hlen:=W.hos.len
 have nd:=List.nodup_append.mp W.nd
 obtain⟨ob,hob⟩:∃ ob,os[i]?=some ob:=⟨os[i],by rw[Y1]⟩
 have hmem:(a,ob)∈(fr++c.kp)++ρ.zip os:=Q7 _ (V8 (i:=i) (by rw[List.getElem?_zip_eq_some];exact⟨ha,hob⟩))
 have hL:=W.N _ hmem
 refine⟨W.gens,W.drawn,W.sos,⟨W.F.ns.at' fun o e=>hs _ o (Ne.symm hL.2.1) e,fun b o e=>hs b o (fun q=>?_) (W.F.keep b o e),W.F.above⟩,(fun p hp=>?_),W.sls,W.sfr,W.hos.set hx,by simp[W.len],W.nd,W.cs,W.pn⟩
 ·rw[q] at e
  have:=hL.2.2
  rw[this] at e;cases e
 rcases Q1.mp hp with hp | hp
 ·have h1:=W.N p (V4 _ hp)
  refine⟨hs _ _ (fun e=>?_) h1.1,h1.2⟩
  exact nd.2.2 p.1 (Q9 hp) a (V8 ha) e
 rcases kW ha nd.2.1 hp with rfl | ⟨h1,h2⟩
 ·exact⟨ho,hL.2⟩
 have h3:=W.N p (Q7 _ h1)
 exact⟨hs _ _ h2 h3.1,h3.2⟩
theorem co.setAt{c:Cx}{ρ:List Addr}{m:Str→Option Value}{fr:List (Addr×Obj)}{os:List Obj}{s:Shared}(W:co c ls ρ H m fr os s){i:Nat}{a:Addr}{ob':Obj}{x:O}{h:Heap}{t:Nat}
  (ha:ρ[i]?=some a) (hi:i<H.length) (hs:∀ b o,b≠a→s.heap.get? b=some o→h.get? b=some o) (ho:h.get? a=some ob') (hx:OR c.w.params ρ x ob') :
  aY c ls ρ (H.set i x) { s with heap:=h,toks:=t}:=⟨_,_,_,W.setAtW ha hi hs ho hx⟩
theorem uu{P:Params}{ρ:List Addr}:∀ {w:Option V} {o:Obj},OR P ρ (.cell w) o→∃ w',o.data=.cell w'
 | none,_,h=>⟨_,h⟩
 | some _,_,⟨_,e,_⟩=>⟨_,e⟩
theorem Sn.run(S:bz fn){x:Str}{v:V}(h:Sn fn x v ls H ls' H'){c:Cx}{s:Shared}{ρ:List Addr}{v':Value}{Q:Unit→Shared→Prop}{E:Value→Shared→Prop}(hc:c.fn=fn)(ok:c.Ok G dd)(R:aY c ls ρ H s)(rv:VR ρ v v')
  (hQ:∀ s',aY c ls' ρ H' s'→Q () s'):wpAny (model G.prog c.w) c.A (storeName c.env x v') Q E s:=by
 cases h with
 | loc hk hst=>exact store S hk hst hc ok R rv hQ
 | cell hk hce hi=>
 obtain⟨m,fr,os,W⟩:=R
 subst hc
 obtain⟨a,ha,hcl⟩:=W.cs _ _ hce
 obtain⟨ob,_,_,ho,hg⟩:=W.mem ha hi
 have hd:∃ w',ob.data=.cell w':=uu ho
 obtain⟨w',hd⟩:=hd
 refine wpAny_storeName_cell (dP ok.hk) (S.kind hk c rfl) (by rw[c.env_cells];exact hcl) ⟨ob,hg,hd⟩ fun h' hv hs=>?_
 obtain⟨o',ho',hd'⟩:=hv
 exact hQ _ (W.setAt (t:=s.toks) ha (J4.mp hi).1 (fun b o e g=>hs.extBut b o e g) ho' ⟨v',hd',rv⟩)
theorem Bz(S:bz fn){x pos}{i:Nat}(hce:(x,i)∈fn.ce)(hi:H[i]?=some (.cell (some v)))(hk:(x,NameKind.cell)∈fn.sc.names):Ev G dd fn (.Name x pos) ls H v H:=fun c s ρ Q E hc ok R hQ=>by
 have R0:=R
 obtain⟨m,fr,os,W⟩:=R
 subst hc
 obtain⟨a,ha,hcl⟩:=W.cs _ _ hce
 obtain⟨ob,_,_,⟨v',ho,rv⟩,hg⟩:=W.mem ha hi
 exact wpAny_Name (wpAny_loadName_cell (dP ok.hk) (S.kind hk c rfl) (by rw[c.env_cells];exact hcl) ⟨ob,hg,ho⟩ (hQ ρ s v' (J2 _) R0 rv)) (S.dbg hk)
theorem Ev.free(S:bz fn){x pos}{i:Nat}(hce:(x,i)∈fn.ce)(hi:H[i]?=some (.cell (some v)))(hk:(x,NameKind.free)∈fn.sc.names)(hn:(x==("__classdict__" : Str))=false:=by decide):Ev G dd fn (.Name x pos) ls H v H:=fun c s ρ Q E hc ok R hQ=>by
 have R0:=R
 obtain⟨m,fr,os,W⟩:=R
 subst hc
 obtain⟨a,ha,hcl⟩:=W.cs _ _ hce
 obtain⟨ob,_,_,⟨v',ho,rv⟩,hg⟩:=W.mem ha hi
 exact wpAny_Name (wpAny_loadName_free (dP ok.hk) (S.kind hk c rfl) (by rw[c.env_cells];exact hcl) ⟨ob,hg,ho⟩ (hQ ρ s v' (J2 _) R0 rv) hn) (S.dbg hk)
theorem Bx(S:bz fn){x pos' e pos}(h:Ev G dd fn e ls H v H₁)(hst:Sn fn x v ls H₁ ls' H₂)
  (hs:∀ env,Y3 e (some (.Name x pos')) pos.line env=pure false:=by intro _;rfl):Ex G dd fn (.Assign [.Name x pos'] e pos) ls H .next ls' H₂:=fun c s ρ Q E hc ok R hQ=>by
 refine wpAny_Assign_Name (hs:=hs _) (h c s ρ _ _ hc ok R fun ρ' s' v' hp R' rv=>?_)
 exact hst.run S hc ok R' rv fun s' R'=>hQ ρ' s' _ hp R' rfl
theorem gY(x:Str)(p:Pos)(es:List Expr)(env:Env):assignEach (.Name x p::es) env=(false,fun v=>assign (.Name x p) env v)::assignEach es env:=by first | rfl | (unfold assignEach;rfl)
theorem ix(env:Env):assignEach [] env=[]:=by first | rfl | (unfold assignEach;rfl)
theorem As.len{es:List Expr}(h:As fn es vs ls H ls' H')(env:Env):(assignEach es env).length=vs.length∧(assignEach es env).findIdx? (·.1)=none:=by
 induction h with
 | nil=>rw[ix];exact⟨rfl,rfl⟩
 | cons _ _ ih=>
 rw[gY]
 refine⟨by simp[ih.1],?_⟩
 rw[List.findIdx?_cons,ih.2];rfl
theorem As.run{es:List Expr}(S:bz fn)(h:As fn es vs ls H ls' H'){c:Cx}{s:Shared}{ρ:List Addr}{ws:List Value}{Q:Unit→Shared→Prop}{E:Value→Shared→Prop}(hc:c.fn=fn)(ok:c.Ok G dd)(R:aY c ls ρ H s)(rw:bq ρ vs ws)
  (hQ:∀ s',aY c ls' ρ H' s'→Q () s'):wpAny (model G.prog c.w) c.A (assignInOrder ((assignEach es c.env).map (·.2)) ws) Q E s:=by
 induction h generalizing s ws with
 | nil=>rw[ix];exact assignInOrder_nil (hQ s R)
 | cons hk _ ih=>
 obtain⟨w,ws,rfl,r,rs⟩:=rw.cc
 ·rw[gY]
  refine assignInOrder_cons (wpAny_assign_Name (hk.run S hc ok R r fun s' R'=>?_))
  exact ih R' rs hQ
theorem aY.extBut{c:Cx}{ρ:List Addr}{s:Shared}(R:aY c ls ρ H s){h':Heap}{t:Nat}(he:Heap.ExtBut s.heap.objs.size s.heap h'):aY c ls ρ H { s with heap:=h',toks:=t}:=by
 obtain⟨m,fr,os,W⟩:=R
 have k:∀ b o,s.heap.get? b=some o→h'.get? b=some o:=fun b o e=>he b o (W3 (Heap.lt_size e)) e
 obtain⟨oL,es,ep,e1,r⟩:=W.F.ns
 exact W.same ⟨⟨oL,es,ep,k _ _ e1,r⟩,fun b o e=>k b o (W.F.keep b o e),W.F.above⟩ fun p hp=>⟨k _ _ (W.N p hp).1,(W.N p hp).2⟩
theorem Ex.tuple(S:bz fn){elts k tpos value pos}{i:Nat}(h:Ev G dd fn value ls H (.obj i) H₁)(hi:H₁[i]?=some (.tup vs))(ha:As fn elts vs ls H₁ ls' H₂)
  (hs:∀ env,swapsWithSole [.Tuple elts k tpos] value pos.line env=pure false:=by intro _;rfl) (hw:∀ env:Env,env.scope=fn.sc→Y2 [.Tuple elts k tpos] value env=pure none:=by intro _ _;rfl) :
  Ex G dd fn (.Assign [.Tuple elts k tpos] value pos) ls H .next ls' H₂:=fun c s ρ Q E hc ok R hQ=>by
 refine Assign_Tuple (h c s ρ _ _ hc ok R fun ρ' s' v' hp R' rv=>?_) (hs _) (hw _ (by rw[c.env_scope,hc]))
 obtain⟨a,ea,rfl⟩:=rv
 obtain⟨ws,ht,rw⟩:=R'.tupAt ea hi
 have hn:=ha.len c.env
 refine assign_Tuple_tuple ok.hh ht (by rw[Q2,← rw.len];exact hn.1) hn.2 fun h' he=>?_
 exact ha.run S hc ok (R'.extBut (t:=s'.toks) he) rw fun s'' R''=>hQ ρ' s'' _ hp R'' rfl
theorem y7.run{es:List Str}(S:bz fn)(h:y7 fn es vs ls H ls' H'){c:Cx}{s:Shared}{ρ:List Addr}{ws:List Value}{Q:Unit→Shared→Prop}{E:Value→Shared→Prop}(hc:c.fn=fn)(ok:c.Ok G dd)(R:aY c ls ρ H s)(rw:bq ρ vs ws)
  (hQ:∀ s',aY c ls' ρ H' s'→Q () s'):wpAny (model G.prog c.w) c.A (assignInOrder (es.map fun n=>bindName c.env n) ws) Q E s:=by
 induction h generalizing s ws with
 | nil=>exact assignInOrder_nil (hQ s R)
 | cons hk _ ih=>
 obtain⟨w,ws,rfl,r,rs⟩:=rw.cc
 ·refine assignInOrder_cons (wpAny_bindName (hk.run S hc ok R r fun s' R'=>?_))
  exact ih R' rs hQ
theorem bq.rev{ρ:List Addr}:∀ {xs:List V} {ws:List Value},bq ρ xs ws→bq ρ xs.reverse ws.reverse
 | [],[],_=>trivial
 | x::xs,w::ws,⟨a,b⟩=>by rw[List.reverse_cons,List.reverse_cons];exact(bq.rev b).app ⟨a,trivial⟩
 | [],_::_,h=>h.elim
 | _::_,[],h=>h.elim
theorem qP(S:bz fn){elts k tpos value pos}{names:List Str}{i:Nat}(h:Ev G dd fn value ls H (.obj i) H₁)(hi:H₁[i]?=some (.tup vs))(ha:y7 fn names.reverse vs.reverse ls H₁ ls' H₂)(hn:names.length=vs.length)
  (hs:∀ env,swapsWithSole [.Tuple elts k tpos] value pos.line env=pure false:=by intro _;rfl) (hw:∀ env:Env,env.scope=fn.sc→Y2 [.Tuple elts k tpos] value env=pure (some names)) :
  Ex G dd fn (.Assign [.Tuple elts k tpos] value pos) ls H .next ls' H₂:=fun c s ρ Q E hc ok R hQ=>by
 refine Assign_Tuple_swapped (h c s ρ _ _ hc ok R fun ρ' s' v' hp R' rv=>?_) (hs _) (hw _ (by rw[c.env_scope,hc]))
 obtain⟨a,ea,rfl⟩:=rv
 obtain⟨ws,ht,rw⟩:=R'.tupAt ea hi
 have hz:names.length=ws.toArray.size:=by rw[Q2,← rw.len];exact hn
 rw[hz]
 refine unpackItems_tuple ok.hh ht fun h' he=>?_
 refine ha.run S hc ok (R'.extBut (t:=s'.toks) he) rw.rev fun s'' R''=>hQ ρ' s'' _ hp R'' rfl
theorem Bw{test body pos}{n:Nat}{fl:Fl}(h:Wl G dd fn test body n ls H fl ls' H'):Ex G dd fn (.While test body [] pos) ls H fl ls' H':=fun c s ρ Q E hc ok R hQ=>by
 refine wpAny_While ?_
 refine codeAny_whileLoop (fun n s=>∃ l₁ H₁ ρ₁,ρ <+: ρ₁∧aY c l₁ ρ₁ H₁ s∧Wl G dd fn test body n l₁ H₁ fl ls' H') (fun n s₁ hI=>?_) n ⟨ls,H,ρ,J2 _,R,h⟩
 obtain⟨l₁,H₁,ρ₁,hp,R₁,hW⟩:=hI
 clear h
 induction hW with
 | done ht=>
  refine ht c s₁ ρ₁ _ _ hc ok R₁ fun ρ₂ s₂ hp₂ R₂=>?_
  rw[if_neg (by decide)]
  exact wpAny_execs_nil (hQ ρ₂ s₂ _ (hp.trans hp₂) R₂ rfl)
 | step ht hb hw=>
  refine ht c s₁ ρ₁ _ _ hc ok R₁ fun ρ₂ s₂ hp₂ R₂=>?_
  rw[if_pos rfl]
  refine hb c s₂ ρ₂ _ _ hc ok R₂ fun ρ₃ s₃ f' hp₃ R₃ rf=>?_
  obtain rfl:=rf
  exact⟨_,Nat.lt_succ_self _,_,_,ρ₃,(hp.trans hp₂).trans hp₃,R₃,hw⟩
 | ret ht hb=>
 refine ht c s₁ ρ₁ _ _ hc ok R₁ fun ρ₂ s₂ hp₂ R₂=>?_
 rw[if_pos rfl]
 refine hb c s₂ ρ₂ _ _ hc ok R₂ fun ρ₃ s₃ f' hp₃ R₃ rf=>?_
 obtain⟨v',rfl,rv⟩:=rf
 exact hQ ρ₃ s₃ _ ((hp.trans hp₂).trans hp₃) R₃ ⟨v',rfl,rv⟩
end
noncomputable def Cx.keep(c:Cx)(own:List (Addr×Obj)):Cx:={ c with kp:=own++c.kp}
section
variable {G:cq}{dd:Nat}{fn:bW}{ls ls' ls'':List (Str×V)}{H H' H₁ H₂ H₃:List O}{v a b f ov iv:V}{vs first:List V}{d₁:Nat}{c:Cx}{ρ ρ':List Addr}{s:Shared}{own:List (Addr×Obj)}{I:List Addr}
theorem Cx.Ok.keep(ok:c.Ok G dd):(c.keep own).Ok G dd:=⟨ok.X,ok.T,ok.stk,ok.frs,ok.hk,ok.hm,ok.hh,ok.hd,ok.hu,ok.hp,ok.hq⟩
theorem aC.rep(R:aC c I ls ρ H s):aY c ls ρ H s:=by
 obtain⟨m,fr,os,W,_,_⟩:=R
 exact⟨m,fr,os,W⟩
theorem lj{α β:Type}{l:List α}{r:List β}{a:α}(h:l.length=r.length)(ha:a∈l):∃ b,(a,b)∈l.zip r:=by
 obtain⟨i,hi,rfl⟩:=List.getElem_of_mem ha
 exact⟨r[i]'(h▸hi),V8 (i:=i) (by rw[List.getElem?_zip_eq_some];exact⟨Y1 hi,Y1 (h▸hi)⟩)⟩
theorem co.old{m:Str→Option Value}{fr:List (Addr×Obj)}{os:List Obj}(W:co c ls ρ H m fr os s){a:Addr}(ha:a∈(fr++c.kp).map (·.1)++ρ):∃ o,s.heap.get? a=some o:=by
 rcases Q1.mp ha with h | h
 ·obtain⟨p,hp,rfl⟩:=V9.mp h
  exact⟨_,(W.N p (V4 _ hp)).1⟩
 obtain⟨b,hb⟩:=lj W.len h
 exact⟨_,(W.N _ (Q7 _ hb)).1⟩
theorem aY.off(R:aY c ls ρ H s){h:Heap}{t:Nat}(hk:∀ b o,s.heap.get? b=some o→h.get? b=some o)(nd:I.Nodup)(hI:∀ a∈I,s.heap.get? a=none)(hb:∀ a∈I,s.heap.objs.size≤a):aC c I ls ρ H { s with heap:=h,toks:=t}:=by
 obtain⟨m,fr,os,W⟩:=R
 obtain⟨oL,es,ep,e1,r⟩:=W.F.ns
 refine⟨m,fr,os,⟨W.gens,W.drawn,W.sos,⟨⟨oL,es,ep,hk _ _ e1,r⟩,fun b o e=>hk b o (W.F.keep b o e),W.F.above⟩,fun p hp=>⟨hk _ _ (W.N p hp).1,(W.N p hp).2⟩,W.sls,W.sfr,W.hos,W.len,W.nd,W.cs,W.pn⟩,nd,fun a ha=>⟨?_,?_,?_⟩⟩
 ·rintro rfl
  have:=hI _ ha
  rw[e1] at this;cases this
 ·cases q:c.base.get? a with
  | none=>rfl
  | some o=>have:=W.F.keep a o q;rw[hI a ha] at this;cases this
 intro hm
 obtain⟨o,ho⟩:=W.old hm
 rw[hI a ha] at ho;cases ho
theorem aC.but(R:aC c I ls ρ H s){h:Heap}{t:Nat}(hk:∀ b o,b∉I→s.heap.get? b=some o→h.get? b=some o):aC c I ls ρ H { s with heap:=h,toks:=t}:=by
 obtain⟨m,fr,os,W,nd,hI⟩:=R
 have hL:c.L∉I:=fun h=>(hI _ h).1 rfl
 refine⟨m,fr,os,⟨W.gens,W.drawn,W.sos,⟨W.F.ns.at' fun o e=>hk _ o hL e,fun b o e=>hk b o (fun q=>?_) (W.F.keep b o e),W.F.above⟩,fun p hp=>⟨hk _ _ (fun q=>?_) (W.N p hp).1,(W.N p hp).2⟩,W.sls,W.sfr,W.hos,W.len,W.nd,W.cs,W.pn⟩,nd,hI⟩
 ·have:=(hI _ q).2.1;rw[this] at e;cases e
 refine(hI _ q).2.2 ?_
 rcases Q1.mp hp with hp | hp
 ·exact V4 _ (Q9 hp)
 exact Q7 _ (List.of_mem_zip (a:=p.1) (b:=p.2) hp).1
theorem aC.keep(R:aC c (own.map (·.1)) ls ρ H s)(ho:∀ p∈own,s.heap.get? p.1=some p.2):aY (c.keep own) ls ρ H s:=by
 obtain⟨m,fr,os,W,nd,hI⟩:=R
 refine⟨m,fr,os,W.gens,W.drawn,W.sos,W.F,fun p hp=>?_,W.sls,W.sfr,W.hos,W.len,?_,W.cs,W.pn⟩
 ·have hp':p∈(fr++(own++c.kp))++ρ.zip os:=hp
  simp only[Q1] at hp'
  rcases hp' with(h | h | h) | h
  ·exact W.N p (by simp[h])
  ·exact⟨ho p h,(hI p.1 (Q9 h)).1,(hI p.1 (Q9 h)).2.1⟩
  ·exact W.N p (by simp[h])
  exact W.N p (by simp[h])
 show((fr++(own++c.kp)).map (·.1)++ρ).Nodup
 have h1:=W.nd
 have key:((fr++(own++c.kp)).map (·.1)++ρ).Perm (own.map (·.1)++((fr++c.kp).map (·.1)++ρ)):=by
  simp only[V0,K0]
  rw[←K0,← K0 (own.map (·.1))]
  exact List.Perm.append_right _ List.perm_append_comm
 rw[key.nodup_iff,List.nodup_append]
 exact⟨nd,h1,fun a ha b hb e=>(hI a ha).2.2 (e▸hb)⟩
theorem aY.drop(R:aY (c.keep own) ls ρ H s):aC c (own.map (·.1)) ls ρ H s∧∀ p∈own,s.heap.get? p.1=some p.2:=by
 obtain⟨m,fr,os,W⟩:=R
 have N:=W.N
 have nd:((fr++(own++c.kp)).map (·.1)++ρ).Nodup:=W.nd
 have key:((fr++(own++c.kp)).map (·.1)++ρ).Perm (own.map (·.1)++((fr++c.kp).map (·.1)++ρ)):=by
  simp only[V0,K0]
  rw[←K0,← K0 (own.map (·.1))]
  exact List.Perm.append_right _ List.perm_append_comm
 rw[key.nodup_iff,List.nodup_append] at nd
 have hin:∀ p∈own,p∈(fr++(c.keep own).kp)++ρ.zip os:=fun p hp=>by
  show p∈(fr++(own++c.kp))++ρ.zip os
  simp[hp]
 refine⟨⟨m,fr,os,⟨W.gens,W.drawn,W.sos,W.F,fun p hp=>N p ?_,W.sls,W.sfr,W.hos,W.len,nd.2.1,W.cs,W.pn⟩,nd.1,fun a ha=>?_⟩,fun p hp=>(N p (hin p hp)).1⟩
 ·show p∈(fr++(own++c.kp))++ρ.zip os
  simp only[Q1] at hp ⊢
  rcases hp with(h | h) | h <;> simp[h]
 obtain⟨p,hp,rfl⟩:=V9.mp ha
 have h1:=N p (hin p hp)
 exact⟨h1.2.1,h1.2.2,fun hm=>nd.2.2 p.1 ha p.1 hm rfl⟩
end
structure Pt{α:Type}(xs:List α)(i:Nat)(ys:List α)(n:Nat):Prop where
 a:xs=xs.take i++ys
 b:i+ys.length=xs.length
 c:ys.length=n
theorem jR{α:Type}{xs:List α}:Pt xs 0 xs xs.length:=⟨by simp,by simp,rfl⟩
theorem Pt.get{α:Type}{xs ws:List α}{i n:Nat}{w:α}(p:Pt xs i (w::ws) n):xs[i]?=some w:=by
 obtain⟨a,b,_⟩:=p
 rw[a,Q6 (by rw[List.length_take];exact Nat.min_le_left ..)]
 simp only[List.length_take]
 have:i-min i xs.length=0:=by rw[Nat.min_eq_left (b▸Nat.le_add_right i _)];exact Nat.sub_self i
 rw[this];rfl
theorem Pt.fin{α:Type}{xs:List α}{i n:Nat}(p:Pt xs i [] n):i=xs.length:=p.b
theorem Pt.lt{α:Type}{xs ws:List α}{i n:Nat}{w:α}(p:Pt xs i (w::ws) n):ws.length<n:=by rw[←p.c];simp
theorem Pt.next{α:Type}{xs ws:List α}{i n:Nat}{w:α}(p:Pt xs i (w::ws) n):Pt xs (i+1) ws ws.length:=by
 refine⟨?_,?_,rfl⟩
 ·rw[List.take_add_one,p.get,Option.toList_some,K0];exact p.a
 have:=p.b;simp at this ⊢;lia
inductive LJ{σ α:Type}(xs:List α)(ρ₀:List Addr)(R:List (Str×V)→List Addr→List O→Prop)(Ow:σ→Prop)(St:Nat→σ→Prop)(F:List α→List (Str×V)→List O→Prop)(n:Nat):Prop
 | mk (i:Nat) (l:List (Str×V)) (K:List O) (ρ:List Addr) (w:σ) (ys:List α) (h1:ρ₀ <+: ρ) (h2:R l ρ K) (h3:Ow w) (h4:St i w) (h5:Pt xs i ys n) (h6:F ys l K):LJ xs ρ₀ R Ow St F n
structure uQ(G:cq)(c:Cx)(I:Addr)(ρ₀:List Addr)(xs:List V)(St:Nat→Obj→Prop)(Good:List O→Prop):Prop where
 item:∀ i x ls H ρ o s (Q:Option Value→Shared→Prop) (E:Value→Shared→Prop),xs[i]?=some x→Good H→ρ₀ <+: ρ→aY c ls ρ H s→s.heap.get? I=some o→St i o→
  (∀ v h' o' tk,VR ρ x v→h'.get? I=some o'→St (i+1) o'→Heap.ExtBut I s.heap h'→Q (some v) { s with heap:=h',toks:=tk})→wpAny (model G.prog c.w) c.A (pyNext (.ref I)) Q E s
 done:∀ ls H ρ o s (Q:Option Value→Shared→Prop) (E:Value→Shared→Prop),Good H→ρ₀ <+: ρ→aY c ls ρ H s→s.heap.get? I=some o→St xs.length o→
  (∀ h' tk,Heap.ExtBut I s.heap h'→Q none { s with heap:=h',toks:=tk})→wpAny (model G.prog c.w) c.A (pyNext (.ref I)) Q E s
noncomputable def Io(G:cq)(dd:Nat)(fn:bW)(e:Expr)(ls:List (Str×V))(H:List O)(xs:List V)(Good:List O→Prop)(H':List O):Prop:=
 ∀ (c:Cx) (s:Shared) (ρ:List Addr) (Q E:Value→Shared→Prop),c.fn=fn→c.Ok G dd→aY c ls ρ H s→
  (∀ ρ' s' I St o,ρ <+: ρ'→aC c [I] ls ρ' H' s'→uQ G c I ρ' xs St Good→s'.heap.get? I=some o→St 0 o→Q (.ref I) s')→
  wpAny (model G.prog c.w) c.A (eval e c.env) (fun x s₁=>wpAny (model G.prog c.w) c.A (pyIter x) Q E s₁) E s
inductive Fo(G:cq)(dd:Nat)(fn:bW)(x:Str)(body:List Stmt)(Good:List O→Prop):List V→List (Str×V)→List O→Fl→List (Str×V)→List O→Prop
 | nil {l h}:Good h→Fo G dd fn x body Good [] l h .next l h
 | cons {w ws l h l₁ h₁ l₂ h₂ f l₃ h₃}:Good h→Sn fn x w l h l₁ h₁→Es G dd fn body l₁ h₁ .next l₂ h₂→Fo G dd fn x body Good ws l₂ h₂ f l₃ h₃→Fo G dd fn x body Good (w::ws) l h f l₃ h₃
 | ret {w ws l h l₁ h₁ l₂ h₂ y}:Good h→Sn fn x w l h l₁ h₁→Es G dd fn body l₁ h₁ (.ret y) l₂ h₂→Fo G dd fn x body Good (w::ws) l h (.ret y) l₂ h₂
section
variable {G:cq}{dd:Nat}{fn:bW}{ls ls' ls'':List (Str×V)}{H H' H₁ H₂ H₃:List O}{v a b f ov iv:V}{vs first:List V}{d₁:Nat}{c:Cx}{ρ ρ':List Addr}{s:Shared}{own:List (Addr×Obj)}{I:List Addr}{Good:List O→Prop}
theorem gM(S:bz fn){x:Str}{px:Pos}{iter:Expr}{body:List Stmt}{pos:Pos}{xs:List V}{fl:Fl}(hi:Io G dd fn iter ls H xs Good H₁)(h:Fo G dd fn x body Good xs ls H₁ fl ls' H')
  (hs:∀ env x,V1 iter env x=pure x:=by intro _ _;rfl):Ex G dd fn (.For (.Name x px) iter body [] pos) ls H fl ls' H':=fun c s ρ Q E hc ok R hQ=>by
 refine wpAny_For (hi c s ρ _ _ hc ok R fun ρ₀ s₀ I St o hp₀ R₀ hI ho hst=>?_) (hs c.env)
 refine codeAny_forLoop (fun n s=>LJ xs ρ₀ (fun l ρ H=>aC c [I] l ρ H s) (fun o=>s.heap.get? I=some o) St (fun ys l H=>Fo G dd fn x body Good ys l H fl ls' H') n)
  (fun n s₁ hJ=>?_) xs.length ⟨0,ls,H₁,ρ₀,o,xs,J2 _,R₀,ho,hst,jR,h⟩
 obtain⟨i,l₁,K₁,ρ₁,o₁,ys,hp₁,R₁,ho₁,hst₁,pt,hF⟩:=hJ
 have go:∀ {w ws l₂ K₂ l₃ K₃ fl'},ys=w::ws→Good K₁→Sn fn x w l₁ K₁ l₂ K₂→Es G dd fn body l₂ K₂ fl' l₃ K₃→∀ (Q':Value→Shared→Prop→Prop) (Z:Flow→Shared→Prop),(∀ ρ₃ s₃ f₃ o₃,ρ₁ <+: ρ₃→aC c [I] l₃ ρ₃ K₃ s₃→GS ρ₃ fl' f₃→s₃.heap.get? I=some o₃→St (i+1) o₃→Z f₃ s₃)→∀ (B:Shared→Prop) (E':Value→Shared→Prop),
   wpAny (model G.prog c.w) c.A (pyNext (.ref I)) (fun r s₁=>match r with
    | none=>B s₁
    | some v=>wpAny (model G.prog c.w) c.A (assign (.Name x px) c.env v) (fun _ s₂=>wpAny (model G.prog c.w) c.A (execs body c.env) Z E' s₂) E' s₁) E' s₁:=by
  intro w ws l₂ K₂ l₃ K₃ fl' e g sn es Q' Z hZ B E'
  refine hI.item i w l₁ K₁ ρ₁ o₁ s₁ _ _ ?_ g hp₁ R₁.rep ho₁ hst₁ fun v h' o' tk rv hg hst' hx=>?_
  ·subst e;exact pt.get
  have R₂:aC c [I] l₁ ρ₁ K₁ { s₁ with heap:=h',toks:=tk}:=R₁.but fun b o hb e=>hx b o (by simpa using hb) e
  have R₃:aY (c.keep [(I,o')]) l₁ ρ₁ K₁ { s₁ with heap:=h',toks:=tk}:=aC.keep (own:=[(I,o')]) R₂ fun p hp=>by rw[J6.mp hp];exact hg
  refine wpAny_assign_Name ?_
  refine sn.run (c:=c.keep [(I,o')]) (by subst hc;exact S) hc ok.keep R₃ rv fun s₄ R₄=>?_
  refine es (c.keep [(I,o')]) s₄ ρ₁ _ _ hc ok.keep R₄ fun ρ₅ s₅ f₅ hp₅ R₅ rf₅=>?_
  obtain⟨R₆,hk⟩:=aY.drop R₅
  exact hZ ρ₅ s₅ f₅ o' hp₅ R₆ rf₅ (hk _ (.head _)) hst'
 clear h
 induction hF with
 | nil g=>
  cases pt.fin
  refine hI.done _ _ ρ₁ o₁ s₁ _ _ g hp₁ R₁.rep ho₁ hst₁ fun h' tk hx=>?_
  refine wpAny_execs_nil (hQ ρ₁ _ _ (hp₀.trans hp₁) (R₁.but fun b o hb e=>hx b o (by simpa using hb) e).rep rfl)
 | cons g sn es hF'=>
  refine go rfl g sn es (fun _ _ p=>p) _ (fun ρ₃ s₃ f₃ o₃ hp₃ R₃ rf₃ ho₃ hst₃=>?_) _ _
  obtain rfl:=rf₃
  exact⟨_,pt.lt,i+1,_,_,ρ₃,o₃,_,hp₁.trans hp₃,R₃,ho₃,hst₃,pt.next,hF'⟩
 | ret g sn es=>
 refine go rfl g sn es (fun _ _ p=>p) _ (fun ρ₃ s₃ f₃ o₃ hp₃ R₃ rf₃ ho₃ hst₃=>?_) _ _
 obtain⟨v',rfl,rv⟩:=rf₃
 exact hQ ρ₃ s₃ _ ((hp₀.trans hp₁).trans hp₃) R₃.rep ⟨v',rfl,rv⟩
end
section
variable {G:cq}{dd:Nat}{fn:bW}{ls ls' ls'':List (Str×V)}{H H' H₁ H₂ H₃:List O}{v a b f ov iv:V}{vs first xs:List V}{d₁:Nat}{c:Cx}{ρ ρ':List Addr}{s:Shared}{Good:List O→Prop}
theorem xD(h:Heap)(ob:Obj):∀ b o,h.get? b=some o→(h.push ob).get? b=some o:=fun b o e=>K3 _ e
theorem eX(h:Heap):h.get? h.objs.size=none:=V3 (Nat.le_refl _)
theorem aY.offPush(R:aY c ls ρ H s)(ob:Obj){t:Nat}:aC c [s.heap.objs.size] ls ρ H { s with heap:=s.heap.push ob,toks:=t}:=
 R.off (xD _ _) (by simp) (fun a ha=>by rw[J6.mp ha];exact eX _) (fun a ha=>by rw[J6.mp ha];exact Nat.le_refl _)
theorem uQ.list{I l:Nat}{ρ₀:List Addr}{a:Addr}(hh:c.A.handled=none)(ha:ρ₀[l]?=some a):uQ G c I ρ₀ xs (fun i o=>o.cls=.type "list_iterator"∧o.data=.fields #[.ref a,.int i 0]) (fun h=>h[l]?=some (.list xs)) where
 item:=fun i x ls H ρ o s Q E hx hg hp R ho st hQ=>by
  obtain⟨vs,hl,r⟩:=R.listAt (aH hp ha) hg
  obtain⟨v',e,rv⟩:=r.get hx
  refine wpAny_pyNext_list_item ⟨o,ho,st⟩ hl (by simpa using e) fun h' hit' hs=>?_
  obtain⟨o',ho',st'⟩:=hit'
  exact hQ v' h' o' s.toks rv ho' st' hs.extBut
 done:=fun ls H ρ o s Q E hg hp R ho st hQ=>by
  obtain⟨vs,hl,r⟩:=R.listAt (aH hp ha) hg
  exact wpAny_pyNext_list_end hh ⟨o,ho,st⟩ hl (by have:=r.len;simp[this]) fun h' he=>hQ h' s.toks he
theorem Cx.Ok.hA(ok:c.Ok G dd):c.A.handled=none:=ok.hh
theorem Io.list{e:Expr}{l:Nat}(h:Ev G dd fn e ls H (.obj l) H₁)(hl:H₁[l]?=some (.list xs)):Io G dd fn e ls H xs (fun h=>h[l]?=some (.list xs)) H₁:=fun c s ρ Q E hc ok R hQ=>by
 refine h c s ρ _ _ hc ok R fun ρ' s' v' hp R' rv=>?_
 obtain⟨a,ea,rfl⟩:=rv
 obtain⟨ws,ha,_⟩:=R'.listAt ea hl
 refine wpAny_pyIter_list ha ?_
 exact hQ ρ' _ _ _ _ hp (R'.offPush (t:=s'.toks) _) (uQ.list ok.hA ea) (Q5 _ rfl) ⟨rfl,rfl⟩
theorem uQ.tup{I l:Nat}{ρ₀:List Addr}{a:Addr}(hh:c.A.handled=none)(ha:ρ₀[l]?=some a):uQ G c I ρ₀ xs (fun i o=>o.cls=.type "tuple_iterator"∧o.data=.fields #[.ref a,.int i 0]) (fun h=>h[l]?=some (.tup xs)) where
 item:=fun i x ls H ρ o s Q E hx hg hp R ho st hQ=>by
  obtain⟨vs,hl,r⟩:=R.tupAt (aH hp ha) hg
  obtain⟨v',e,rv⟩:=r.get hx
  refine next_tuple_item ⟨o,ho,st⟩ hl (by simpa using e) fun h' hit' hs=>?_
  obtain⟨o',ho',st'⟩:=hit'
  exact hQ v' h' o' s.toks rv ho' st' hs.extBut
 done:=fun ls H ρ o s Q E hg hp R ho st hQ=>by
  obtain⟨vs,hl,r⟩:=R.tupAt (aH hp ha) hg
  exact next_tuple_end hh ⟨o,ho,st⟩ hl (by have:=r.len;simp[this]) fun h' he=>hQ h' s.toks he
theorem Io.tup{e:Expr}{l:Nat}(h:Ev G dd fn e ls H (.obj l) H₁)(hl:H₁[l]?=some (.tup xs)):Io G dd fn e ls H xs (fun h=>h[l]?=some (.tup xs)) H₁:=fun c s ρ Q E hc ok R hQ=>by
 refine h c s ρ _ _ hc ok R fun ρ' s' v' hp R' rv=>?_
 obtain⟨a,ea,rfl⟩:=rv
 obtain⟨ws,ha,_⟩:=R'.tupAt ea hl
 refine iter_tuple ha ?_
 exact hQ ρ' _ _ _ _ hp (R'.offPush (t:=s'.toks) _) (uQ.tup ok.hA ea) (Q5 _ rfl) ⟨rfl,rfl⟩
noncomputable def dm(x:Str):List V:=x.cps.toList.map fun k=>.str ⟨#[k]⟩
theorem uQ.str{I:Nat}{ρ₀:List Addr}{x:Str}{t:Tok}(hh:c.A.handled=none):uQ G c I ρ₀ (dm x) (fun i o=>o.cls=.type "str_ascii_iterator"∧o.data=.fields #[.str x t,.int i 0]) (fun _=>True) where
 item:=fun i y ls H ρ o s Q E hx hg hp R ho st hQ=>by
  unfold dm at hx
  rw[List.getElem?_map,Option.map_eq_some_iff] at hx
  obtain⟨k,hk,rfl⟩:=hx
  refine wpAny_pyNext_ascii_item ⟨o,ho,st⟩ (by simpa using hk) fun h' hit' hs=>?_
  obtain⟨o',ho',st'⟩:=hit'
  exact hQ _ h' o' _ ⟨_,rfl⟩ ho' st' hs.extBut
 done:=fun ls H ρ o s Q E hg hp R ho st hQ=>by
  refine wpAny_pyNext_ascii_end hh ⟨o,ho,st⟩ ?_ fun h' he=>hQ h' s.toks he
  have:(dm x).length=x.cps.size:=by simp[dm]
  rw[this];simp
theorem Io.str{e:Expr}{x:Str}(h:Ev G dd fn e ls H (.str x) H₁)(hx:x.cps.all (· < 128)=true):Io G dd fn e ls H (dm x) (fun _=>True) H₁:=fun c s ρ Q E hc ok R hQ=>by
 refine h c s ρ _ _ hc ok R fun ρ' s' v' hp R' rv=>?_
 obtain⟨t,rfl⟩:=rv
 refine wpAny_pyIter_ascii hx ?_
 exact hQ ρ' _ _ _ _ hp (R'.offPush (t:=s'.toks) _) (uQ.str ok.hA) (Q5 _ rfl) ⟨rfl,rfl⟩
noncomputable def df(n:Nat):List V:=(List.range n).map fun(k:Nat)=>V.int (k:Int)
theorem uQ.range{I:Nat}{ρ₀:List Addr}{n:Nat}(hh:c.A.handled=none):uQ G c I ρ₀ (df n) (fun i o=>o={ cls:=.type "range_iterator",dict:=none,data:=.fields #[rawInt i,rawInt ((n:Int)-i),rawInt 1],slots:=#[]}) (fun _=>True) where
 item:=fun i y ls H ρ o s Q E hx hg hp R ho st hQ=>by
  subst st
  unfold df at hx
  rw[List.getElem?_map,Option.map_eq_some_iff] at hx
  obtain⟨k,hk,rfl⟩:=hx
  obtain⟨hk',hk⟩:=J4.mp hk
  rw[List.getElem_range] at hk
  subst hk
  rw[List.length_range] at hk'
  refine wpAny_pyNext_range_item ho (by lia) fun h' hit' hs=>?_
  exact hQ _ h' _ _ ⟨_,rfl⟩ hit' (by rw[show((i+1:Nat):Int)=(i:Int)+1 from by lia,show(n:Int)-((i:Int)+1)=(n:Int)-i-1 from by lia]) hs.extBut
 done:=fun ls H ρ o s Q E hg hp R ho st hQ=>by
  subst st
  have:(df n).length=n:=by simp[df]
  rw[this] at ho
  exact wpAny_pyNext_range_end hh ho (by lia) fun h' he=>hQ h' s.toks he
theorem Io.range{func arg pos}{n:Nat}(hf:Ev G dd fn func ls H (.ty "range") H)(hl:Ev G dd fn arg ls H (.int n) H₁)(hsm:Builtin.Range.small 0 n 1=true)(hsz:Builtin.Range.rangeSize 0 n 1=n)
  (he:∀ env,eval (.Call func [arg] [] pos) env=(do callWith pos (←eval func env) [] (backTo pos (K7 [arg] env)) (backToKw pos (keywordEach [] env))):=by intro _;rfl)
  (hst:∀ env,K7 [arg] env=(false,eval arg env)::K7 [] env:=by intro _;rfl):Io G dd fn (.Call func [arg] [] pos) ls H (df n) (fun _=>True) H₁:=fun c s ρ Q E hc ok R hQ=>by
 refine Call_ (hf c s ρ _ _ hc ok R fun ρ₁ s₁ f' hp R₁ rf=>?_) (he _)
 refine ew (first:=[]) (f:=.ty "range") (ap.cons hl .nil hst) trivial hc ok R₁ rf bq.nil fun ρ₂ s₂ as hp₂ R₂ rf₂ ra=>?_
 obtain rfl:=rf₂
 obtain⟨x',rfl,⟨t,e⟩,_⟩:=bq.c1 ra
 ·subst e
  refine call_range_1 ?_
  refine wpAny_pyIter_range (a:=0) (b:=n) (c:=1) (Q5 _ rfl) hsm ?_
  have R₃:=R₂.push { cls:=.type "range",data:=.fields #[.int 0 s₂.toks,.int n t,.int 1 (s₂.toks+1)]} (t:=s₂.toks+1+1)
  refine hQ ρ₂ _ _ _ _ (hp.trans hp₂) (R₃.offPush (t:=s₂.toks+1+1) _) (uQ.range (n:=n) ok.hA) (Q5 _ rfl) ?_
  rw[hsz];simp
end
noncomputable def Bn(G:cq)(dd:Nat)(op:Operator)(a b:V)(H:List O)(v:V)(H':List O):Prop:=
 ∀ (c:Cx) (s:Shared) (ls:List (Str×V)) (ρ:List Addr) (a' b':Value) (Q E:Value→Shared→Prop),c.Ok G dd→aY c ls ρ H s→VR ρ a a'→VR ρ b b'→EQ c ls ρ H' v Q→
  wpAny (model G.prog c.w) c.A (binaryOp op a' b') Q E s
section
variable {G:cq}{dd:Nat}{fn:bW}{ls ls' ls'':List (Str×V)}{H H' H₁ H₂ H₃:List O}{v a b f ov iv:V}{vs first xs ys:List V}{d₁:Nat}{c:Cx}{ρ ρ':List Addr}{s:Shared}{Good:List O→Prop}
theorem ak{l op r pos}(hl:Ev G dd fn l ls H a H₁)(hr:Ev G dd fn r ls H₁ b H₂)(h:Bn G dd op a b H₂ v H₃)(hb:∀ {M:Model} {A:Around} {E Q:Value→Shared→Prop} {s:Shared} {env:Env},wpAny M A (eval l env) (fun x s₁=>wpAny M A (eval r env) (fun y s₂=>wpAny M A (binaryOp op x y) Q E s₂) E s₁) E s→wpAny M A (eval (.BinOp l op r pos) env) Q E s:=by exact fun h=>wpAny_BinOp h) :
  Ev G dd fn (.BinOp l op r pos) ls H v H₃:=fun c s ρ Q E hc ok R hQ=>by
 refine hb (two hl hr hc ok R fun ρ' s' a' b' hp R' ra rb=>?_)
 exact h c s' ls ρ' a' b' Q E ok R' ra rb fun ρ'' s'' v' hp' R'' rv=>hQ ρ'' s'' v' (hp.trans hp') R'' rv
theorem dq{x y:Int}:Bn G dd .Add (.int x) (.int y) H (.int (x+y)) H:=fun c s ls ρ a' b' Q E ok R ra rb hQ=>by obtain⟨t,rfl⟩:=ra;obtain⟨u,rfl⟩:=rb;exact add_int (hQ ρ _ _ (J2 _) R.tok ⟨_,rfl⟩)
theorem cU{x y:Int}:Bn G dd .Sub (.int x) (.int y) H (.int (x-y)) H:=fun c s ls ρ a' b' Q E ok R ra rb hQ=>by obtain⟨t,rfl⟩:=ra;obtain⟨u,rfl⟩:=rb;exact sub_int (hQ ρ _ _ (J2 _) R.tok ⟨_,rfl⟩)
theorem gS{x y:Int}(h:IntMulOk x y):Bn G dd .Mult (.int x) (.int y) H (.int (x*y)) H:=fun c s ls ρ a' b' Q E ok R ra rb hQ=>by obtain⟨t,rfl⟩:=ra;obtain⟨u,rfl⟩:=rb;exact PyProof.Rows.mul_int (hQ ρ _ _ (J2 _) R.tok ⟨_,rfl⟩) h
theorem cB{x y:Int}(h:y≠0):Bn G dd .Mod (.int x) (.int y) H (.int (x.fmod y)) H:=fun c s ls ρ a' b' Q E ok R ra rb hQ=>by obtain⟨t,rfl⟩:=ra;obtain⟨u,rfl⟩:=rb;exact PyProof.Rows.mod_int h (hQ ρ _ _ (J2 _) R.tok ⟨_,rfl⟩)
theorem iQ{x y:Int}(h:y≠0)(h2:Builtin.divisionGoesByPylong x y=false):Bn G dd .FloorDiv (.int x) (.int y) H (.int (x.fdiv y)) H:=fun c s ls ρ a' b' Q E ok R ra rb hQ=>by obtain⟨t,rfl⟩:=ra;obtain⟨u,rfl⟩:=rb;exact PyProof.Rows.floordiv_int h (hQ ρ _ _ (J2 _) R.tok ⟨_,rfl⟩) (.inl h2)
theorem bM{x y:Int}(h:0≤y)(h1:y≤1000000)(h2:x.natAbs<2 ^ 64):Bn G dd .Pow (.int x) (.int y) H (.int (x ^ y.toNat)) H:=fun c s ls ρ a' b' Q E ok R ra rb hQ=>by obtain⟨t,rfl⟩:=ra;obtain⟨u,rfl⟩:=rb;exact pow_int_small h h1 h2 (hQ ρ _ _ (J2 _) R.tok ⟨_,rfl⟩)
theorem fY{x y:Int}(h:0≤y)(h1:y≤1000000)(h2:x.natAbs<2 ^ 64):Bn G dd .LShift (.int x) (.int y) H (.int (x*2 ^ y.toNat)) H:=fun c s ls ρ a' b' Q E ok R ra rb hQ=>by obtain⟨t,rfl⟩:=ra;obtain⟨u,rfl⟩:=rb;exact lshift_int_small h h1 h2 (hQ ρ _ _ (J2 _) R.tok ⟨_,rfl⟩)
theorem Dg{x y:Int}:Bn G dd .BitAnd (.int x) (.int y) H (.int (Builtin.bitAnd x y)) H:=fun c s ls ρ a' b' Q E ok R ra rb hQ=>by obtain⟨t,rfl⟩:=ra;obtain⟨u,rfl⟩:=rb;exact and_int (hQ ρ _ _ (J2 _) R.tok ⟨_,rfl⟩)
theorem bS{x y:Str}(h:x.length+y.length≤J5):Bn G dd .Add (.str x) (.str y) H (.str (x++y)) H:=fun c s ls ρ a' b' Q E ok R ra rb hQ=>by
 obtain⟨t,rfl⟩:=ra;obtain⟨u,rfl⟩:=rb
 exact SBL.add (fun t' k _=>hQ ρ _ _ (J2 _) R.tok ⟨_,rfl⟩) h
theorem xg{x:Str}{n:Int}(h:MulOk x n):Bn G dd .Mult (.str x) (.int n) H (.str (Txt.mul x n)) H:=fun c s ls ρ a' b' Q E ok R ra rb hQ=>by
 obtain⟨t,rfl⟩:=ra;obtain⟨u,rfl⟩:=rb
 exact SB.mul h (fun t' k=>hQ ρ _ _ (J2 _) R.tok ⟨_,rfl⟩)
theorem mQ{i j:Nat}(hi:H[i]?=some (.list xs))(hj:H[j]?=some (.list ys))(hz:xs.length+ys.length≤J5):Bn G dd .Add (.obj i) (.obj j) H (.obj H.length) (H++[.list (xs++ys)]):=fun c s ls ρ a' b' Q E ok R ra rb hQ=>by
 obtain⟨x,hx,rfl⟩:=ra
 obtain⟨y,hy,rfl⟩:=rb
 obtain⟨vs,hl,r⟩:=R.listAt hx hi
 obtain⟨ws,hl2,r2⟩:=R.listAt hy hj
 have hlen:=R.hlen
 obtain⟨m,fr,os,W⟩:=R
 refine add_lists W.F W.N hl hl2 (fun h' F' N'=>?_) (by rw[←r.len,← r2.len];exact hz)
 have R':=W.alloc (t:=s.toks) (x:=.list (xs++ys)) F' N' W.lt ⟨vs++ws,0,rfl,r.app r2⟩
 exact hQ (ρ++[s.heap.objs.size]) _ _ (K4 _ _) R' ⟨_,by rw[hlen];simp,rfl⟩
theorem bq.ne{ρ:List Addr}:∀ {xs:List V} {ws:List Value},bq ρ xs ws→xs≠[]→ws≠[]
 | [],_,_,h=>absurd rfl h
 | _::_,_::_,_,_=>by simp
 | _::_,[],h,_=>h.elim
theorem xh{i j:Nat}(hi:H[i]?=some (.tup xs))(hj:H[j]?=some (.tup ys))(h1:xs≠[])(h2:ys≠[])(hz:xs.length+ys.length≤J5):Bn G dd .Add (.obj i) (.obj j) H (.obj H.length) (H++[.tup (xs++ys)]):=fun c s ls ρ a' b' Q E ok R ra rb hQ=>by
 obtain⟨x,hx,rfl⟩:=ra
 obtain⟨y,hy,rfl⟩:=rb
 obtain⟨vs,hl,r⟩:=R.tupAt hx hi
 obtain⟨ws,hl2,r2⟩:=R.tupAt hy hj
 have hlen:=R.hlen
 obtain⟨m,fr,os,W⟩:=R
 refine add_tuples W.F W.N hl hl2 (fun e=>absurd e (r.ne h1)) (fun _ e=>absurd e (r2.ne h2)) (fun _ _ h' F' N'=>?_) (by rw[←r.len,← r2.len];exact hz)
 have R':=W.alloc (t:=s.toks) (x:=.tup (xs++ys)) F' N' W.lt ⟨vs++ws,rfl,r.app r2⟩
 exact hQ (ρ++[s.heap.objs.size]) _ _ (K4 _ _) R' ⟨_,by rw[hlen];simp,rfl⟩
theorem iI{i:Option Int}{t:Tok}:IsPart (partValue (i.map fun k=>(k,t))) i:=by
 cases i with
 | none=>exact .none
 | some k=>exact .int k t
noncomputable def ft(xs:List V)(lo hi st:Option Int):List V:=(sliceRange (sliceBounds lo hi st xs.length).1 (sliceBounds lo hi st xs.length).2.1 (sliceBounds lo hi st xs.length).2.2).filterMap (xs[·]?)
theorem bq.filterMap{ρ:List Addr}{xs:List V}{ws:List Value}(r:bq ρ xs ws):∀ is:List Nat,bq ρ (is.filterMap (xs[·]?)) (is.filterMap (ws.toArray[·]?))
 | []=>trivial
 | i::is=>by
  have ih:=bq.filterMap r is
  cases e:xs[i]? with
  | none=>
   have e2:ws.toArray[i]?=none:=by
    have:=r.len
    simp at e ⊢;lia
   rw[List.filterMap_cons_none e,List.filterMap_cons_none e2];exact ih
  | some x=>
  obtain⟨w,e2,rw⟩:=r.get e
  have e3:ws.toArray[i]?=some w:=by simpa using e2
  rw[List.filterMap_cons_some e,List.filterMap_cons_some e3];exact⟨rw,ih⟩
theorem fe{value lower upper step p pos}{i:Nat}{lo hi st:Option Int}{H₄:List O}(hv:Ev G dd fn value ls H (.obj i) H₁)(hl:BO G dd fn lower ls H₁ lo H₂)(hu:BO G dd fn upper ls H₂ hi H₃)(hs:BO G dd fn step ls H₃ st H₄)
  (hi':H₄[i]?=some (.list xs)) (h0:st≠some 0) (hz:xs.length≤J5) :
  Ev G dd fn (.Subscript value (.Slice lower upper step p) pos) ls H (.obj H₄.length) (H₄++[.list (ft xs lo hi st)]):=fun c s ρ Q E hc ok R hQ=>by
 refine Subscript_ (hv c s ρ _ _ hc ok R fun ρ₁ s₁ o' hp₁ R₁ ro=>?_)
 obtain⟨a,ha,rfl⟩:=ro
 refine wpAny_Slice (cP hl hc ok R₁ fun ρ₂ s₂ tl hp₂ R₂=>cP hu hc ok R₂ fun ρ₃ s₃ tu hp₃ R₃=>cP hs hc ok R₃ fun ρ₄ s₄ ts hp₄ R₄=>?_)
 have ha':=aH ((hp₂.trans hp₃).trans hp₄) ha
 have R₅:=R₄.push { cls:=.type "slice",data:=.fields #[partValue (lo.map fun k=>(k,tl)),partValue (hi.map fun k=>(k,tu)),partValue (st.map fun k=>(k,ts))]} (t:=s₄.toks)
 obtain⟨vs,hL,r⟩:=R₅.listAt ha' hi'
 have hlen:=R₅.hlen
 obtain⟨_,hsub⟩:∃ vs,subscripted (.Slice lower upper step p) false (.ref a) (.ref s₄.heap.objs.size)=operate vs (getItem (.ref a) (.ref s₄.heap.objs.size)):=by cases step <;> exact⟨_,rfl⟩
 refine tail_any hL.typeIs slot_list_getitem.lookup (wpAny_getItem_list_slice hL (Heap.IsSliceOf.new _ _ _ _) iI iI iI h0 ?_ (by rw[Q2,← r.len];exact hz)) hsub
 obtain⟨m,fr,os,W⟩:=R₅
 have e:slicePick vs.toArray lo hi st=((sliceRange (sliceBounds lo hi st xs.length).1 (sliceBounds lo hi st xs.length).2.1 (sliceBounds lo hi st xs.length).2.2).filterMap (vs.toArray[·]?)).toArray:=by
  unfold slicePick
  rw[Q2,← r.len]
 rw[e]
 have h1:News c.base c.L ((s₄.heap.push { cls:=.type "slice",data:=.fields #[partValue (lo.map fun k=>(k,tl)),partValue (hi.map fun k=>(k,tu)),partValue (st.map fun k=>(k,ts))]}).push { cls:=.type "list",data:=.seq ((sliceRange (sliceBounds lo hi st xs.length).1 (sliceBounds lo hi st xs.length).2.1 (sliceBounds lo hi st xs.length).2.2).filterMap (vs.toArray[·]?)).toArray})
   ((_,{ cls:=.type "list",data:=.seq ((sliceRange (sliceBounds lo hi st xs.length).1 (sliceBounds lo hi st xs.length).2.1 (sliceBounds lo hi st xs.length).2.2).filterMap (vs.toArray[·]?)).toArray})::((fr++c.kp)++ρ₄.zip os)):=fun p hp=>by
  rcases K2.mp hp with rfl | hp
  ·refine⟨Q5 _ rfl,W5 (W.F.ns.lt),?_⟩
   exact next_is_new W.F
  exact⟨K3 _ (W.N p hp).1,(W.N p hp).2⟩
 have R':=W.alloc (t:=s₄.toks) (x:=.list (ft xs lo hi st)) (W.F.push _) h1 W.lt ⟨_,0,rfl,r.filterMap _⟩
 exact hQ (ρ₄++[_]) _ _ ((((hp₁.trans hp₂).trans hp₃).trans hp₄).trans (K4 _ _)) R' ⟨_,by rw[hlen];simp,rfl⟩
theorem kT{x:Int}(h:x.natAbs.log2<1920):Cl G 0 (.ty "str") [.int x] H (.str (J0 (toString x))) H:=fun c s ls ρ f' vs Q E ok R rf ra hQ=>by
 obtain rfl:=rf
 obtain⟨x',rfl,⟨t,e⟩,_⟩:=bq.c1 ra
 subst e;exact PySem.P.str_of_int h (hQ ρ _ _ (J2 _) R.tok ⟨_,rfl⟩)
theorem BK{k:Nat}:Cl G 0 (.bi "ord") [.str ⟨#[k]⟩] H (.int k) H:=fun c s ls ρ f' vs Q E ok R rf ra hQ=>by
 obtain rfl:=rf
 obtain⟨x',rfl,⟨t,e⟩,_⟩:=bq.c1 ra
 subst e;exact PySem.P.ord_of_char (hQ ρ _ _ (J2 _) R.tok ⟨_,rfl⟩)
theorem Cl.lower{x y:Str}(h:Txt.lower x=y)(h2:Builtin.Str.tooLong (Txt.lower x).length=false):Cl G 0 (.bi "str.lower") [.str x] H (.str y) H:=fun c s ls ρ f' vs Q E ok R rf ra hQ=>by
 obtain rfl:=rf
 obtain⟨x',rfl,⟨t,e⟩,_⟩:=bq.c1 ra
 subst e;exact PySem.W.KXw.lower h h2 fun t' k=>hQ ρ _ _ (J2 _) R.tok ⟨_,rfl⟩
theorem Cl.count{x y:Str}{i:Int}(h:Txt.count x y=i):Cl G 0 (.bi "str.count") [.str x,.str y] H (.int i) H:=fun c s ls ρ f' vs Q E ok R rf ra hQ=>by
 obtain rfl:=rf
 obtain⟨x',y',rfl,⟨t,e⟩,⟨u,e2⟩,_⟩:=bq.c2 ra
 subst e e2;exact PySem.W.KXw.count h fun t' k=>hQ ρ _ _ (J2 _) R.tok ⟨_,rfl⟩
theorem Cl.rfind{x y:Str}:Cl G 0 (.bi "str.rfind") [.str x,.str y] H (.int (Txt.rfind x y)) H:=fun c s ls ρ f' vs Q E ok R rf ra hQ=>by
 obtain rfl:=rf
 obtain⟨x',y',rfl,⟨t,e⟩,⟨u,e2⟩,_⟩:=bq.c2 ra
 subst e e2;exact PySem.SC.rfind (hQ ρ _ _ (J2 _) R.tok ⟨_,rfl⟩)
theorem Cl.index{x y:Str}{i:Nat}{rest:List Nat}(h:Builtin.Str.occurrences x y 0 x.length 1=i::rest):Cl G 0 (.bi "str.index") [.str x,.str y] H (.int i) H:=fun c s ls ρ f' vs Q E ok R rf ra hQ=>by
 obtain rfl:=rf
 obtain⟨x',y',rfl,⟨t,e⟩,⟨u,e2⟩,_⟩:=bq.c2 ra
 subst e e2;exact PySem.SC.index h (hQ ρ _ _ (J2 _) R.tok ⟨_,rfl⟩)
theorem kU{x y:Str}:Cl G 0 (.bi "str.startswith") [.str x,.str y] H (.bool (Txt.startswith x y)) H:=fun c s ls ρ f' vs Q E ok R rf ra hQ=>by
 obtain rfl:=rf
 obtain⟨x',y',rfl,⟨t,e⟩,⟨u,e2⟩,_⟩:=bq.c2 ra
 subst e e2;exact PySem.SC.startswith (hQ ρ _ _ (J2 _) R rfl)
theorem EP{x y:Int}:Cl G 0 (.bi "min") [.int x,.int y] H (.int (if y<x then y else x)) H:=fun c s ls ρ f' vs Q E ok R rf ra hQ=>by
 obtain rfl:=rf
 obtain⟨x',y',rfl,⟨t,e⟩,⟨u,e2⟩,_⟩:=bq.c2 ra
 ·subst e e2
  obtain⟨m,fr,os,W⟩:=R
  exact min_two_N ok.hh W.F W.N fun h' tk F' N'=>hQ ρ _ _ (J2 _) (W.same F' N') ⟨_,rfl⟩
theorem bq.strs{ρ:List Addr}:∀ {xs:List Str} {ws:List Value},bq ρ (xs.map V.str) ws→∃ l:List (Str×Tok),ws=strValues l∧l.map (·.1)=xs
 | [],[],_=>⟨[],rfl,rfl⟩
 | x::xs,w::ws,⟨⟨t,e⟩,r⟩=>by
  obtain⟨l,e1,e2⟩:=bq.strs r
  subst e1
  exact⟨(x,t)::l,by rw[e];rfl,by simp[e2]⟩
 | [],_::_,h=>h.elim
 | _::_,[],h=>h.elim
theorem Cl.join{x:Str}{i:Nat}{ts:List Str}(hi:H[i]?=some (.list (ts.map V.str)))(h:JoinOk x ts=true):Cl G 0 (.bi "str.join") [.str x,.obj i] H (.str (Txt.join x ts)) H:=fun c s ls ρ f' vs Q E ok R rf ra hQ=>by
 obtain rfl:=rf
 obtain⟨x',y',rfl,⟨t,e⟩,⟨a,ha,e2⟩,_⟩:=bq.c2 ra
 ·subst e e2
  obtain⟨ws,hl,r⟩:=R.listAt ha hi
  obtain⟨l,e1,e3⟩:=r.strs
  subst e1
  exact PySem.SC.join hl e3 h fun t' k=>hQ ρ _ _ (J2 _) R.tok ⟨_,rfl⟩
theorem bq.bools{ρ:List Addr}:∀ {xs:List Bool} {ws:List Value},bq ρ (xs.map V.bool) ws→LSm.BoolsAre ws xs
 | [],[],_=>by first | exact .nil | trivial | (unfold LSm.BoolsAre;rfl)
 | x::xs,w::ws,⟨e,r⟩=>by
  have ih:=bq.bools r
  obtain rfl:w=.bool x:=e
  exact .cons x ih
 | [],_::_,h=>h.elim
 | _::_,[],h=>h.elim
theorem Cl.all{i:Nat}{ts:List Bool}(hi:H[i]?=some (.list (ts.map V.bool))):Cl G 0 (.bi "all") [.obj i] H (.bool (ts.all id)) H:=fun c s ls ρ f' vs Q E ok R rf ra hQ=>by
 obtain rfl:=rf
 obtain⟨x',rfl,⟨a,ha,e⟩,_⟩:=bq.c1 ra
 ·subst e
  obtain⟨ws,hl,r⟩:=R.listAt ha hi
  obtain⟨m,fr,os,W⟩:=R
  exact LSm.all_bools W.F W.N ok.hh hl r.bools fun h' tk F' N'=>hQ ρ _ _ (J2 _) (W.same F' N') rfl
theorem Cl.extend{i j:Nat}(hi:H[i]?=some (.list xs))(hj:H[j]?=some (.list ys))(hne:ys≠[])(hz:xs.length+ys.length≤J5)(hb:Builtin.List.listTooLong (xs.length+ys.length)=false):Cl G 0 (.bi "list.extend") [.obj i,.obj j] H .none (H.set i (.list (xs++ys))):=fun c s ls ρ f' vs Q E ok R rf ra hQ=>by
 obtain rfl:=rf
 obtain⟨x',y',rfl,⟨a,ha,e⟩,⟨b,hb',e2⟩,_⟩:=bq.c2 ra
 ·subst e e2
  obtain⟨m,fr,os,W⟩:=R
  obtain⟨ob,ho,hm,⟨ws,n,rfl,r⟩,_⟩:=W.mem ha hi
  obtain⟨ob2,ho2,hm2,⟨ws2,n2,rfl,r2⟩,_⟩:=W.mem hb' hj
  have l1:=r.len
  have l2:=r2.len
  refine kl_extend (l:=ws++ws2) W.F W.N hm2 (by simp) (by have:=r2.ne hne;simpa using this) (W.upd ha ho) ?_ ?_ ?_ fun h' F' N'=>?_
  ·simp only[Q2]
   rw[←l1,← l2,hb];simp
  ·simp;lia
  ·simp;lia
  exact hQ ρ _ _ (J2 _) (W.set (t:=s.toks) F' N' ⟨ws++ws2,n+1,rfl,r.app r2⟩) rfl
theorem Gm.str{x:Str}{name:Str}{id:String}(h:∀ {M:Model} {A:Around} {E:Value→Shared→Prop} {s:Shared} {t:Tok} {pl:Sem Bool} {Q:Value×List Value→Shared→Prop},Q (.builtin id,[.str x t]) s→wpAny M A (getMethod (.str x t) name pl) Q E s):Gm G dd (.str x) name H (.bi id) [.str x]:=fun c s ls ρ o' pl Q E ok R ro hQ=>by
 obtain⟨t,rfl⟩:=ro
 exact h (hQ s _ _ R rfl ⟨⟨t,rfl⟩,trivial⟩)
end
mutual
inductive Dv(H:List O):V→PyData→Prop
 | none:Dv H .none .none
 | bool {b}:Dv H (.bool b) (.bool b)
 | int {i}:Dv H (.int i) (.int i)
 | str {x}:Dv H (.str x) (.str x)
 | tup {i xs ds}:H[i]?=some (.tup xs)→EI H xs ds→Dv H (.obj i) (.tuple ds)
 | list {i xs ds}:H[i]?=some (.list xs)→EI H xs ds→Dv H (.obj i) (.list ds)
inductive EI(H:List O):List V→List PyData→Prop
 | nil:EI H [] []
 | cons {x d xs ds}:Dv H x d→EI H xs ds→EI H (x::xs) (d::ds)
end
section
variable {G:cq}{dd:Nat}{fn:bW}{ls ls' ls'':List (Str×V)}{H H' H₁ H₂ H₃:List O}{v a b f ov iv:V}{vs first xs ys:List V}{d₁:Nat}{c:Cx}{ρ ρ':List Addr}{s:Shared}{Good:List O→Prop}
theorem Dv.reads(R:aY c ls ρ H s){v:V}{d:PyData}{v':Value}(h:Dv H v d)(r:VR ρ v v'):∃ as,Reads s.heap v' d as:=by
 refine Dv.rec (motive_1:=fun v d _=>∀ v',VR ρ v v'→∃ as,Reads s.heap v' d as) (motive_2:=fun xs ds _=>∀ ws,bq ρ xs ws→∃ as,ReadsAll s.heap ws ds as) ?_ ?_ ?_ ?_ ?_ ?_ ?_ ?_ h v' r
 ·intro v' r;obtain rfl:=r;exact⟨_,.none⟩
 ·intro b v' r;obtain rfl:=r;exact⟨_,.bool _⟩
 ·intro i v' r;obtain⟨t,rfl⟩:=r;exact⟨_,.int _ _⟩
 ·intro x v' r;obtain⟨t,rfl⟩:=r;exact⟨_,.str _ _⟩
 ·intro i xs ds hi hs ih v' r
  obtain⟨a,ha,rfl⟩:=r
  obtain⟨vs,⟨o,ho,hc,n,hd⟩,rv⟩:=R.tupAt ha hi
  obtain⟨as,h⟩:=ih _ rv
  exact⟨_,.tuple ho hc hd (by simpa using h)⟩
 ·intro i xs ds hi hs ih v' r
  obtain⟨a,ha,rfl⟩:=r
  obtain⟨vs,⟨o,ho,hc,n,hd⟩,rv⟩:=R.listAt ha hi
  obtain⟨as,h⟩:=ih _ rv
  exact⟨_,.list ho hc hd (by simpa using h)⟩
 ·intro ws r;cases r.c0;exact⟨_,.nil⟩
 intro x d xs ds h hs i1 i2 ws r
 obtain⟨w,us,rfl,r1,rs⟩:=r.cc
 obtain⟨as,h1⟩:=i1 _ r1
 obtain⟨bs,h2⟩:=i2 _ rs
 exact⟨_,.cons h1 h2⟩
theorem Cx.Ok.room(ok:c.Ok G dd)(hd:8≤dd):c.A.units+64<cLine:=by
 have:=ok.hu
 show c.A₀.units+3+64<cLine
 lia
theorem Cx.Ok.low'(ok:c.Ok G dd):c.A.units<cLine:=by
 have:=ok.hu
 show c.A₀.units+3<cLine
 lia
theorem EN{d e:PyData}(ha:Dv H a d)(hb:Dv H b e)(s1:SeqAt.shaped d=true)(s2:SeqAt.shaped e=true)(hn:SeqAt.noMix d e=true)(hd:8≤dd:=by decide):Cm G dd .Eq a b H (Spec.same d e):=fun c s ls ρ a' b' Q E ok R ra rb hQ=>by
 obtain⟨as,h1⟩:=ha.reads R ra
 obtain⟨bs,h2⟩:=hb.reads R rb
 exact eq_dataH_same h1 h2 s1 s2 (ok.room hd) hn (hQ s R)
theorem wu{d e:PyData}(ha:Dv H a d)(hb:Dv H b e)(s1:SeqAt.shaped d=true)(s2:SeqAt.shaped e=true)(hn:SeqAt.noMix d e=true)(hd:8≤dd:=by decide):Cm G dd .NotEq a b H (!Spec.same d e):=fun c s ls ρ a' b' Q E ok R ra rb hQ=>by
 obtain⟨as,h1⟩:=ha.reads R ra
 obtain⟨bs,h2⟩:=hb.reads R rb
 exact ne_dataH_same h1 h2 s1 s2 (ok.room hd) hn (hQ s R)
theorem kS{d:PyData}(ha:Dv H a d)(hb:Dv H b d)(s1:SeqAt.shaped d=true)(hn:SeqAt.noMix d d=true)(hd:8≤dd:=by decide):Cm G dd .Eq a b H true:=by
 have:=EN (G:=G) ha hb s1 s1 hn hd
 rwa [same_refl] at this
theorem ff{d:PyData}(ha:Dv H a d)(hb:Dv H b d)(s1:SeqAt.shaped d=true)(hn:SeqAt.noMix d d=true)(hd:8≤dd:=by decide):Cm G dd .NotEq a b H false:=by
 have:=wu (G:=G) ha hb s1 s1 hn hd
 rwa [same_refl] at this
theorem fK{i j:Nat}(hi:H[i]?=some (.list xs))(hj:H[j]?=some (.list ys))(hl:xs.length≠ys.length):Cm G dd .Eq (.obj i) (.obj j) H false:=fun c s ls ρ a' b' Q E ok R ra rb hQ=>by
 obtain⟨x,hx,rfl⟩:=ra
 obtain⟨y,hy,rfl⟩:=rb
 obtain⟨vs,h1,r⟩:=R.listAt hx hi
 obtain⟨ws,h2,r2⟩:=R.listAt hy hj
 exact SeqAt.eq_list_lengthsAt h1 h2 (by rw[Q2,Q2,← r.len,← r2.len];simpa using hl) ok.low' (hQ s R)
theorem bq.strsAre{ρ:List Addr}:∀ {xs:List Str} {ws:List Value},bq ρ (xs.map V.str) ws→StrsAre ws xs
 | [],[],_=>.nil
 | x::xs,w::ws,⟨⟨t,e⟩,r⟩=>by
  have ih:=bq.strsAre r
  obtain rfl:w=.str x t:=e
  exact .cons x t ih
 | [],_::_,h=>h.elim
 | _::_,[],h=>h.elim
theorem uM{i:Nat}{x:Str}{ts:List Str}(hi:H[i]?=some (.tup (ts.map V.str))):Cm G dd .In (.str x) (.obj i) H (ts.any fun y=>y==x):=fun c s ls ρ a' b' Q E ok R ra rb hQ=>by
 obtain⟨t,rfl⟩:=ra
 obtain⟨y,hy,rfl⟩:=rb
 obtain⟨vs,h1,r⟩:=R.tupAt hy hi
 exact in_tuple_strs h1 r.strsAre (hQ s R)
theorem uK{i:Nat}{x:Str}{ts:List Str}(hi:H[i]?=some (.tup (ts.map V.str))):Cm G dd .NotIn (.str x) (.obj i) H (!ts.any fun y=>y==x):=fun c s ls ρ a' b' Q E ok R ra rb hQ=>by
 obtain⟨t,rfl⟩:=ra
 obtain⟨y,hy,rfl⟩:=rb
 obtain⟨vs,h1,r⟩:=R.tupAt hy hi
 exact notin_tuple_strs h1 r.strsAre (hQ s R)
theorem lG{a₀:Addr}{x:Str}{ts:List Str}{vs:Params→Array Value}(ho:∀ P,(G.K P).lookup a₀=some { cls:=.type "tuple",data:=.seq (vs P)})(hv:∀ P,StrsAre (vs P).toList ts):Cm G dd .In (.str x) (.top a₀) H (ts.any fun y=>y==x):=fun c s ls ρ a' b' Q E ok R ra rb hQ=>by
 obtain⟨t,rfl⟩:=ra
 obtain rfl:=rb
 have hX:=R.inK ok
 exact in_tuple_strs ⟨_,hX _ _ (ho _),rfl,_,rfl⟩ (hv _) (hQ s R)
theorem BI{a₀:Addr}{k:Int}{D:List (Int×PyData)}(hK:∀ P,KTD.keyedLook (fun b=>(G.K P).lookup b) a₀ D=true):Cm G dd .In (.int k) (.top a₀) H (KTD.inKeys k D):=fun c s ls ρ a' b' Q E ok R ra rb hQ=>by
 obtain⟨t,rfl⟩:=ra
 obtain rfl:=rb
 exact KTD.in_keyed (kt_keyed_in (R.inK ok) (hK _)) (fun _ _ e=>e) (hQ _ R.tok)
theorem Gm.get{a₀:Addr}{D:List (Int×PyData)}(hK:∀ P,KTD.keyedLook (fun b=>(G.K P).lookup b) a₀ D=true):Gm G dd (.top a₀) (J0 "get") H (.bi "dict.get") [.top a₀]:=fun c s ls ρ o' pl Q E ok R ro hQ=>by
 obtain rfl:=ro
 exact KTD.getMethod_keyed (kt_keyed_in (R.inK ok) (hK _)) (fun _ _ e=>e) (hQ s _ _ R rfl ⟨rfl,trivial⟩)
theorem ow{v:Value}{x:Str}(h₀:Heap)(h:PyProof.V.Flat v (.str x)):∃ t,v=.str x t:=by
 have h1:=h h₀
 cases h1;exact⟨_,rfl⟩
theorem y6{a₀:Addr}{k:Int}{D:List (Int×PyData)}{x y:Str}(hK:∀ P,KTD.keyedLook (fun b=>(G.K P).lookup b) a₀ D=true)(hx:(Spec.lookup (PyData.int k) (D.map fun p=>(PyData.int p.1,p.2))).getD (.str y)=.str x) :
  Cl G 0 (.bi "dict.get") [.top a₀,.int k,.str y] H (.str x) H:=fun c s ls ρ f' vs Q E ok R rf ra hQ=>by
 obtain rfl:=rf
 obtain⟨x',y',z',rfl,e,⟨t,e2⟩,⟨u,e3⟩,_⟩:=bq.c3 ra
 ·have e':x'=.ref a₀:=e
  subst e' e2 e3
  refine call_get2_intTab (kt_keyed_in (R.inK ok) (hK _) _ _) (dd:=.str y) (by first | exact .str _ _ | constructor) fun v' hf=>?_
  rw[hx] at hf
  obtain⟨t',rfl⟩:=ow s.heap hf
  exact hQ ρ _ _ (J2 _) R.tok ⟨_,rfl⟩
theorem bE.tab{a₀:Addr}{k:Int}{D:List (Int×PyData)}{x:Str}(hK:∀ P,KTD.keyedLook (fun b=>(G.K P).lookup b) a₀ D=true)(hx:Spec.lookup (PyData.int k) (D.map fun p=>(PyData.int p.1,p.2))=some (.str x)) :
  bE G dd (.top a₀) (.int k) H (.str x):=fun c s ls ρ o' i' Q E ok R ro ri hQ=>by
 obtain rfl:=ro
 obtain⟨t,rfl⟩:=ri
 have T:=kt_keyed_in (R.inK ok) (hK _) G.prog c.w
 refine⟨?_,?_⟩
 ·obtain⟨_,_,hd,_⟩:=T
  exact⟨"dict",_,slot_dict_getitem.lookup,hd.typeIs⟩
 refine kys_getItem (knd:=intKind G.prog c.w) (enc:=PyData.int) (k:=k) (D:=D.map fun p=>(PyData.int p.1,p.2)) ?_ (intKind_is _ _ _ _) T ?_
 ·intro x y;simp[Spec.same];rfl
 unfold KysD
 rw[hx]
 intro v hf
 obtain⟨t',rfl⟩:=ow s.heap hf
 exact hQ _ _ R.tok ⟨_,rfl⟩
end
inductive hM where
 | one (w:V)
 | pair (x y:V)
inductive Tn(fn:bW):Expr→hM→List (Str×V)→List O→List (Str×V)→List O→Prop
 | one {x p w l h l' h'}:Sn fn x w l h l' h'→Tn fn (.Name x p) (.one w) l h l' h'
 | pair {elts k p x y l h l' h'}:As fn elts [x,y] l (h++[.tup [x,y]]) l' h'→Tn fn (.Tuple elts k p) (.pair x y) l h l' h'
noncomputable def qD(own:List (Addr×Obj))(s:Shared):Prop:=∀ p∈own,s.heap.get? p.1=some p.2
theorem qD.nil{s:Shared}:qD [] s:=fun p hp=>nomatch hp
theorem qD.cons{a:Addr}{o:Obj}{l:List (Addr×Obj)}{s:Shared}(h:s.heap.get? a=some o)(r:qD l s):qD ((a,o)::l) s:=fun p hp=>by
 rcases K2.mp hp with rfl | hp
 ·exact h
 exact r p hp
theorem qD.has{q:Addr}{l:List (Addr×Obj)}{s:Shared}(ho:qD l s)(h:q∈l.map (·.1)):s.heap.get? q≠none:=fun e=>by
 obtain⟨p,hp,rfl⟩:=V9.mp h
 rw[ho p hp] at e;cases e
structure wi(G:cq)(I:Addr)(Is:List Addr)(ρ₀:List Addr)(xs:List hM)(St:Nat→List (Addr×Obj)→Prop)(Good:List O→Prop):Prop where
 st:∀ i own,St i own→own.map (·.1)=Is
 self:∀ i (c:Cx) s own (Q:Value→Shared→Prop) (E:Value→Shared→Prop),St i own→qD own s→Q (.ref I) s→wpAny (model G.prog c.w) c.A (pyIter (.ref I)) Q E s
 item:∀ (dd:Nat) (fn:bW) (c:Cx) (target:Expr) i x ls H ρ s own ls' H' (Q:Shared→Prop) (E:Value→Shared→Prop) (B:Shared→Prop),bz fn→c.fn=fn→c.Ok G dd→xs[i]?=some x→Good H→ρ₀ <+: ρ→aC c Is ls ρ H s→St i own→qD own s→
  Tn fn target x ls H ls' H'→(∀ ρ' s' own',ρ <+: ρ'→aC c Is ls' ρ' H' s'→St (i+1) own'→qD own' s'→Q s')→
  wpAny (model G.prog c.w) c.A (pyNext (.ref I)) (fun r s₁=>match r with
   | none=>B s₁
   | some v=>wpAny (model G.prog c.w) c.A (letOwnedTupleGo target (.ref I) v) (fun _ s₂=>wpAny (model G.prog c.w) c.A (assign target c.env v) (fun _ s₃=>Q s₃) E s₂) E s₁) E s
 done:∀ (dd:Nat) (c:Cx) ls H ρ s own (Q:Option Value→Shared→Prop) (E:Value→Shared→Prop),c.Ok G dd→Good H→ρ₀ <+: ρ→aC c Is ls ρ H s→St xs.length own→qD own s→
  (∀ s',aC c Is ls ρ H s'→Q none s')→wpAny (model G.prog c.w) c.A (pyNext (.ref I)) Q E s
noncomputable def js(G:cq)(dd:Nat)(fn:bW)(e:Expr)(ls:List (Str×V))(H:List O)(xs:List hM)(Good:List O→Prop)(H':List O):Prop:=
 ∀ (c:Cx) (s:Shared) (ρ:List Addr) (Q E:Value→Shared→Prop),c.fn=fn→c.Ok G dd→aY c ls ρ H s→
  (∀ ρ' s' I Is St own,ρ <+: ρ'→aC c Is ls ρ' H' s'→wi G I Is ρ' xs St Good→qD own s'→St 0 own→Q (.ref I) s')→
  wpAny (model G.prog c.w) c.A (eval e c.env) (fun x s₁=>wpAny (model G.prog c.w) c.A (pyIter x) Q E s₁) E s
inductive oV(G:cq)(dd:Nat)(fn:bW)(target:Expr)(body:List Stmt)(Good:List O→Prop):List hM→List (Str×V)→List O→Fl→List (Str×V)→List O→Prop
 | nil {l h}:Good h→oV G dd fn target body Good [] l h .next l h
 | cons {w ws l h l₁ h₁ l₂ h₂ f l₃ h₃}:Good h→Tn fn target w l h l₁ h₁→Es G dd fn body l₁ h₁ .next l₂ h₂→oV G dd fn target body Good ws l₂ h₂ f l₃ h₃→oV G dd fn target body Good (w::ws) l h f l₃ h₃
 | ret {w ws l h l₁ h₁ l₂ h₂ y}:Good h→Tn fn target w l h l₁ h₁→Es G dd fn body l₁ h₁ (.ret y) l₂ h₂→oV G dd fn target body Good (w::ws) l h (.ret y) l₂ h₂
section
variable {G:cq}{dd:Nat}{fn:bW}{ls ls' ls'':List (Str×V)}{H H' H₁ H₂ H₃:List O}{v a b f ov iv:V}{vs first:List V}{d₁:Nat}{c:Cx}{ρ ρ':List Addr}{s:Shared}{own own':List (Addr×Obj)}{I Is:List Addr}{Good:List O→Prop}
theorem ge{fr own kp:List (Addr×Obj)}{ρ:List Addr}:((fr++(own++kp)).map (·.1)++ρ).Perm (own.map (·.1)++((fr++kp).map (·.1)++ρ)):=by
 simp only[V0,K0]
 rw[←K0,← K0 (own.map (·.1))]
 exact List.Perm.append_right _ List.perm_append_comm
theorem dI(R:aC c (own.map (·.1)++I) ls ρ H s)(ho:qD own s):aC (c.keep own) I ls ρ H s:=by
 obtain⟨m,fr,os,W,nd,hI⟩:=R
 have nd':=List.nodup_append.mp nd
 have R1:aC c (own.map (·.1)) ls ρ H s:=⟨m,fr,os,W,nd'.1,fun a ha=>hI a (V4 _ ha)⟩
 have W2:co (c.keep own) ls ρ H m fr os s:=by
  refine⟨W.gens,W.drawn,W.sos,W.F,fun p hp=>?_,W.sls,W.sfr,W.hos,W.len,?_,W.cs,W.pn⟩
  ·have hp':p∈(fr++(own++c.kp))++ρ.zip os:=hp
   simp only[Q1] at hp'
   rcases hp' with(h | h | h) | h
   ·exact W.N p (by simp[h])
   ·exact⟨ho p h,(hI p.1 (V4 _ (Q9 h))).1,(hI p.1 (V4 _ (Q9 h))).2.1⟩
   ·exact W.N p (by simp[h])
   exact W.N p (by simp[h])
  show((fr++(own++c.kp)).map (·.1)++ρ).Nodup
  rw[ge.nodup_iff,List.nodup_append]
  exact⟨nd'.1,W.nd,fun a ha b hb e=>(hI a (V4 _ ha)).2.2 (e▸hb)⟩
 refine⟨m,fr,os,W2,nd'.2.1,fun a ha=>⟨(hI a (Q7 _ ha)).1,(hI a (Q7 _ ha)).2.1,fun hm=>?_⟩⟩
 have hm':a∈(fr++(own++c.kp)).map (·.1)++ρ:=hm
 rw[ge.mem_iff] at hm'
 rcases Q1.mp hm' with h | h
 ·exact nd'.2.2 a h a ha rfl
 exact(hI a (Q7 _ ha)).2.2 h
theorem dJ(R:aC (c.keep own) I ls ρ H s):aC c (own.map (·.1)++I) ls ρ H s∧qD own s:=by
 obtain⟨m,fr,os,W,nd,hI⟩:=R
 obtain⟨⟨m₂,fr₂,os₂,W₂,nd₂,hI₂⟩,ho⟩:=aY.drop (own:=own) (c:=c) ⟨m,fr,os,W⟩
 have N:=W.N
 have ndw:((fr++(own++c.kp)).map (·.1)++ρ).Nodup:=W.nd
 rw[ge.nodup_iff,List.nodup_append] at ndw
 have hin:∀ p∈own,p∈(fr++(c.keep own).kp)++ρ.zip os:=fun p hp=>by
  show p∈(fr++(own++c.kp))++ρ.zip os
  simp[hp]
 refine⟨⟨m,fr,os,⟨W.gens,W.drawn,W.sos,W.F,fun p hp=>N p ?_,W.sls,W.sfr,W.hos,W.len,ndw.2.1,W.cs,W.pn⟩,?_,fun a ha=>?_⟩,ho⟩
 ·show p∈(fr++(own++c.kp))++ρ.zip os
  simp only[Q1] at hp ⊢
  rcases hp with(h | h) | h <;> simp[h]
 ·refine List.nodup_append.mpr ⟨ndw.1,nd,fun a ha b hb e=>?_⟩
  subst e
  refine(hI a hb).2.2 ?_
  show a∈(fr++(own++c.kp)).map (·.1)++ρ
  rw[ge.mem_iff]
  exact V4 _ ha
 rcases Q1.mp ha with ha | ha
 ·obtain⟨p,hp,rfl⟩:=V9.mp ha
  have h1:=N p (hin p hp)
  exact⟨h1.2.1,h1.2.2,fun hm=>ndw.2.2 p.1 ha p.1 hm rfl⟩
 have h1:=hI a ha
 refine⟨h1.1,h1.2.1,fun hm=>h1.2.2 ?_⟩
 show a∈(fr++(own++c.kp)).map (·.1)++ρ
 rw[ge.mem_iff]
 exact Q7 _ hm
theorem aC.nil(R:aY c ls ρ H s):aC c [] ls ρ H s:=by
 obtain⟨m,fr,os,W⟩:=R
 exact⟨m,fr,os,W,V7,fun _ h=>nomatch h⟩
theorem aC.tok(R:aC c I ls ρ H s){t:Nat}:aC c I ls ρ H { s with toks:=t}:=R.but (h:=s.heap) fun _ _ _ e=>e
theorem vX(S:bz fn){elts:List Expr}{k p}{i:Nat}{a:Addr}{x y:V}{Q:Unit→Shared→Prop}{E:Value→Shared→Prop}(h:As fn elts [x,y] ls H ls' H')(hi:H[i]?=some (.tup [x,y]))(ha:ρ[i]?=some a)(hc:c.fn=fn)(ok:c.Ok G dd)(R:aY c ls ρ H s)
  (hQ:∀ s',aY c ls' ρ H' s'→Q () s'):wpAny (model G.prog c.w) c.A (assign (.Tuple elts k p) c.env (.ref a)) Q E s:=by
 obtain⟨ws,ht,rw⟩:=R.tupAt ha hi
 have hn:=h.len c.env
 refine assign_Tuple_tuple ok.hh ht (by rw[Q2,← rw.len];exact hn.1) hn.2 fun h' he=>?_
 exact h.run S hc ok (R.extBut (t:=s.toks) he) rw fun s'' R''=>hQ s'' R''
theorem qv(S:bz fn){target:Expr}{body:List Stmt}{xs:List hM}{fl:Fl}{I:Addr}{Is ρ₀:List Addr}{St:Nat→List (Addr×Obj)→Prop}{own:List (Addr×Obj)}{s₀:Shared}{R:Result→Shared→Prop}(hI:wi G I Is ρ₀ xs St Good)(hc:c.fn=fn)(ok:c.Ok G dd)(h:oV G dd fn target body Good xs ls H₁ fl ls' H')
  (R₀:aC c Is ls ρ₀ H₁ s₀) (ho:qD own s₀) (hst:St 0 own) (hQ:∀ ρ' s' f',ρ₀ <+: ρ'→aY c ls' ρ' H' s'→GS ρ' fl f'→R (.ok f') s'):codeAny (model G.prog c.w) c.A (.forLoop target (.ref I) body [] c.env) R s₀:=by
 refine codeAny_forLoop_any (fun n s=>LJ xs ρ₀ (fun l ρ H=>aC c Is l ρ H s) (fun o=>qD o s) St (fun ys l H=>oV G dd fn target body Good ys l H fl ls' H') n)
  (fun n s₁ hJ=>?_) xs.length ⟨0,ls,H₁,ρ₀,own,xs,J2 _,R₀,ho,hst,jR,h⟩
 obtain⟨i,l₁,K₁,ρ₁,own₁,ys,hp₁,R₁,ho₁,hst₁,pt,hF⟩:=hJ
 clear h
 induction hF with
 | nil g=>
  cases pt.fin
  refine hI.done dd c _ _ ρ₁ s₁ own₁ _ _ ok g hp₁ R₁ hst₁ ho₁ fun s₂ R₂=>?_
  exact wpAny_execs_nil (hQ ρ₁ _ _ hp₁ R₂.rep rfl)
 | cons g sn es hF'=>
  refine hI.item dd fn c target i _ _ _ ρ₁ s₁ own₁ _ _ _ _ _ S hc ok pt.get g hp₁ R₁ hst₁ ho₁ sn fun ρ₂ s₂ own₂ hp₂ R₂ hst₂ ho₂=>?_
  have e₂:=hI.st _ _ hst₂
  have R₃:aC (c.keep own₂) [] _ ρ₂ _ s₂:=dI (by rw[e₂,List.append_nil];exact R₂) ho₂
  refine es (c.keep own₂) s₂ ρ₂ _ _ hc ok.keep R₃.rep fun ρ₅ s₅ f₅ hp₅ R₅ rf₅=>?_
  obtain rfl:=rf₅
  obtain⟨R₆,ho₆⟩:=dJ (aC.nil R₅)
  rw[e₂,List.append_nil] at R₆
  exact⟨_,pt.lt,i+1,_,_,ρ₅,own₂,_,(hp₁.trans hp₂).trans hp₅,R₆,ho₆,hst₂,pt.next,hF'⟩
 | ret g sn es=>
 refine hI.item dd fn c target i _ _ _ ρ₁ s₁ own₁ _ _ _ _ _ S hc ok pt.get g hp₁ R₁ hst₁ ho₁ sn fun ρ₂ s₂ own₂ hp₂ R₂ hst₂ ho₂=>?_
 have e₂:=hI.st _ _ hst₂
 have R₃:aC (c.keep own₂) [] _ ρ₂ _ s₂:=dI (by rw[e₂,List.append_nil];exact R₂) ho₂
 refine es (c.keep own₂) s₂ ρ₂ _ _ hc ok.keep R₃.rep fun ρ₅ s₅ f₅ hp₅ R₅ rf₅=>?_
 obtain⟨v',rfl,rv⟩:=rf₅
 obtain⟨R₆,ho₆⟩:=dJ (aC.nil R₅)
 exact hQ ρ₅ s₅ _ ((hp₁.trans hp₂).trans hp₅) R₆.rep ⟨v',rfl,rv⟩
theorem mM(S:bz fn){target:Expr}{iter:Expr}{body:List Stmt}{pos:Pos}{xs:List hM}{fl:Fl}(hi:js G dd fn iter ls H xs Good H₁)(h:oV G dd fn target body Good xs ls H₁ fl ls' H')
  (hs:∀ env x,V1 iter env x=pure x:=by intro _ _;rfl):Ex G dd fn (.For target iter body [] pos) ls H fl ls' H':=fun c s ρ Q E hc ok R hQ=>by
 refine wpAny_For (hi c s ρ _ _ hc ok R fun ρ₀ s₀ I Is St own hp₀ R₀ hI ho hst=>?_) (hs c.env)
 exact qv S hI hc ok h R₀ ho hst fun ρ' s' f' hp' R' rf=>hQ ρ' s' f' (hp₀.trans hp') R' rf
noncomputable def bT(xs:List V):List hM:=xs.map .one
theorem wi.list{I l:Nat}{ρ₀:List Addr}{xs:List V}{a:Addr}(ha:ρ₀[l]?=some a):wi G I [I] ρ₀ (bT xs) (fun i own=>∃ o:Obj,own=[(I,o)]∧o.cls=.type "list_iterator"∧o.data=.fields #[.ref a,.int i 0]) (fun h=>h[l]?=some (.list xs)) where
 st:=fun i own ⟨o,e,_⟩=>by rw[e];rfl
 self:=fun i c s own Q E ⟨o,e,st⟩ ho hQ=>by
  subst e
  exact wpAny_pyIter_listiter ⟨o,ho _ (.head _),st⟩ hQ
 item:=fun dd fn c target i x ls H ρ s own ls' H' Q E B S hc ok hx hg hp R st ho tn hQ=>by
  obtain⟨o,rfl,st⟩:=st
  have hoI:=ho _ (.head _)
  unfold bT at hx
  rw[List.getElem?_map,Option.map_eq_some_iff] at hx
  obtain⟨w,hw,rfl⟩:=hx
  cases tn with
  | one sn=>
  obtain⟨vs,hl,r⟩:=R.rep.listAt (aH hp ha) hg
  obtain⟨v',e,rv⟩:=r.get hw
  refine wpAny_pyNext_list_item ⟨o,hoI,st⟩ hl (by simpa using e) fun h' hit' hs=>?_
  obtain⟨o',ho',st'⟩:=hit'
  have R₂:aC c [I] _ ρ H { s with heap:=h'}:=R.but (t:=s.toks) fun b o hb e=>hs.extBut b o (by simpa using hb) e
  have R₃:aY (c.keep [(I,o')]) _ ρ H { s with heap:=h'}:=aC.keep (own:=[(I,o')]) R₂ fun p hp=>by rw[J6.mp hp];exact ho'
  show wpAny _ _ (pure ()) _ _ _
  refine K1 ?_
  refine wpAny_assign_Name ?_
  refine sn.run (c:=c.keep [(I,o')]) S hc ok.keep R₃ rv fun s₄ R₄=>?_
  obtain⟨R₆,hk⟩:=aY.drop R₄
  exact hQ ρ s₄ [(I,o')] (J2 _) R₆ ⟨o',rfl,st'⟩ hk
 done:=fun dd c ls H ρ s own Q E ok hg hp R st ho hQ=>by
  obtain⟨o,rfl,st⟩:=st
  have hoI:=ho _ (.head _)
  obtain⟨vs,hl,r⟩:=R.rep.listAt (aH hp ha) hg
  refine wpAny_pyNext_list_end ok.hh ⟨o,hoI,st⟩ hl (by have:=r.len;simp[bT,this]) fun h' he=>hQ _ (R.but (t:=s.toks) fun b o hb e=>he b o (by simpa using hb) e)
theorem js.list{e:Expr}{l:Nat}{xs:List V}(h:Ev G dd fn e ls H (.obj l) H₁)(hl:H₁[l]?=some (.list xs)):js G dd fn e ls H (bT xs) (fun h=>h[l]?=some (.list xs)) H₁:=fun c s ρ Q E hc ok R hQ=>by
 refine h c s ρ _ _ hc ok R fun ρ' s' v' hp R' rv=>?_
 obtain⟨a,ea,rfl⟩:=rv
 obtain⟨ws,ha,_⟩:=R'.listAt ea hl
 refine wpAny_pyIter_list ha ?_
 exact hQ ρ' _ _ _ _ [(s'.heap.objs.size,_)] hp (R'.offPush (t:=s'.toks) _) (wi.list ea) (fun p hp=>by rw[J6.mp hp];exact Q5 _ rfl) ⟨_,rfl,rfl,rfl⟩
theorem wi.range{I:Nat}{ρ₀:List Addr}{n:Nat}:wi G I [I] ρ₀ (bT (df n)) (fun i own=>own=[(I,{ cls:=.type "range_iterator",dict:=none,data:=.fields #[rawInt i,rawInt ((n:Int)-i),rawInt 1],slots:=#[]})]) (fun _=>True) where
 st:=fun i own e=>by rw[e];rfl
 self:=fun i c s own Q E e ho hQ=>by
  subst e
  exact wpAny_pyIter_rangeiter (ho _ (.head _)) hQ
 item:=fun dd fn c target i x ls H ρ s own ls' H' Q E B S hc ok hx hg hp R st ho tn hQ=>by
  subst st
  have hoI:=ho _ (.head _)
  unfold bT df at hx
  rw[List.map_map,List.getElem?_map,Option.map_eq_some_iff] at hx
  obtain⟨k,hk,rfl⟩:=hx
  obtain⟨hk',hk⟩:=J4.mp hk
  rw[List.getElem_range] at hk
  subst hk
  rw[List.length_range] at hk'
  cases tn with
  | one sn=>
  refine wpAny_pyNext_range_item hoI (by lia) fun h' hit' hs=>?_
  have ho':h'.get? I=some { cls:=.type "range_iterator",dict:=none,data:=.fields #[rawInt ((i+1:Nat):Int),rawInt ((n:Int)-((i+1:Nat):Int)),rawInt 1],slots:=#[]}:=by
   rw[hit',show((i+1:Nat):Int)=(i:Int)+1 from by lia,show(n:Int)-((i:Int)+1)=(n:Int)-i-1 from by lia]
  have R₂:=R.but (t:=s.toks+1) (h:=h') fun b o hb e=>hs.extBut b o (by simpa using hb) e
  have R₃:=aC.keep (own:=[(I,_)]) R₂ fun p hp=>by rw[J6.mp hp];exact ho'
  show wpAny _ _ (pure ()) _ _ _
  refine K1 ?_
  refine wpAny_assign_Name ?_
  refine sn.run (c:=c.keep [(I,_)]) S hc ok.keep R₃ ⟨_,rfl⟩ fun s₄ R₄=>?_
  obtain⟨R₆,hk⟩:=aY.drop R₄
  exact hQ ρ s₄ [(I,_)] (J2 _) R₆ rfl hk
 done:=fun dd c ls H ρ s own Q E ok hg hp R st ho hQ=>by
  subst st
  have hoI:=ho _ (.head _)
  have:(bT (df n)).length=n:=by simp[df,bT]
  rw[this] at hoI
  exact wpAny_pyNext_range_end ok.hh hoI (by lia) fun h' he=>hQ _ (R.but (t:=s.toks) fun b o hb e=>he b o (by simpa using hb) e)
theorem js.range{func arg pos}{n:Nat}(hf:Ev G dd fn func ls H (.ty "range") H)(hl:Ev G dd fn arg ls H (.int n) H₁)(hsm:Builtin.Range.small 0 n 1=true)(hsz:Builtin.Range.rangeSize 0 n 1=n)
  (he:∀ env,eval (.Call func [arg] [] pos) env=(do callWith pos (←eval func env) [] (backTo pos (K7 [arg] env)) (backToKw pos (keywordEach [] env))):=by intro _;rfl)
  (hst:∀ env,K7 [arg] env=(false,eval arg env)::K7 [] env:=by intro _;rfl):js G dd fn (.Call func [arg] [] pos) ls H (bT (df n)) (fun _=>True) H₁:=fun c s ρ Q E hc ok R hQ=>by
 refine Call_ (hf c s ρ _ _ hc ok R fun ρ₁ s₁ f' hp R₁ rf=>?_) (he _)
 refine ew (first:=[]) (f:=.ty "range") (ap.cons hl .nil hst) trivial hc ok R₁ rf bq.nil fun ρ₂ s₂ as hp₂ R₂ rf₂ ra=>?_
 obtain rfl:=rf₂
 obtain⟨x',rfl,⟨t,e⟩,_⟩:=bq.c1 ra
 ·subst e
  refine call_range_1 ?_
  refine wpAny_pyIter_range (a:=0) (b:=n) (c:=1) (Q5 _ rfl) hsm ?_
  have R₃:=R₂.push { cls:=.type "range",data:=.fields #[.int 0 s₂.toks,.int n t,.int 1 (s₂.toks+1)]} (t:=s₂.toks+1+1)
  refine hQ ρ₂ _ _ _ _ [(_,_)] (hp.trans hp₂) (R₃.offPush (t:=s₂.toks+1+1) _) (wi.range (n:=n)) (fun p hp=>by rw[J6.mp hp];exact Q5 _ rfl) ?_
  rw[hsz];simp
end
theorem dW{α:Type}{l:List α}{x:α}:(l++[x])[l.length]?=some x:=by simp
theorem q6:∀ {a b:List (Addr×Obj)},SameUp a b→b.map (·.1)=a.map (·.1)
 | [],[],_=>rfl
 | p::a,q::b,⟨h1,_,h3⟩=>by rw[List.map_cons,List.map_cons,h1,q6 h3]
 | [],_::_,h=>h.elim
 | _::_,[],h=>h.elim
theorem wQ{n a:Nat}(h:a∈[n+4,n+2,n+3,n,n+1]):n≤a:=by
 simp only[K2,J8,or_false] at h
 lia
section
variable {G:cq}{dd:Nat}{fn:bW}{ls ls' ls'':List (Str×V)}{H H' H₁ H₂ H₃:List O}{v a b f ov iv:V}{vs first:List V}{d₁:Nat}{c:Cx}{ρ ρ':List Addr}{s:Shared}{own own':List (Addr×Obj)}{I Is:List Addr}{Good:List O→Prop}
theorem aC.add(R:aC c I ls ρ H s){h:Heap}{t:Nat}{T:Addr}(hk:∀ b o,b∉I→s.heap.get? b=some o→h.get? b=some o)(hT:s.heap.get? T=none)(hI:T∉I):aC c (T::I) ls ρ H { s with heap:=h,toks:=t}:=by
 obtain⟨m,fr,os,W,nd,hI'⟩:=R
 obtain⟨m₂,fr₂,os₂,W₂,nd₂,hI₂⟩:=aC.but (t:=t) ⟨m,fr,os,W,nd,hI'⟩ hk
 refine⟨m₂,fr₂,os₂,W₂,K9.mpr ⟨hI,nd⟩,fun a ha=>?_⟩
 rcases K2.mp ha with rfl | ha
 ·have hL:a≠c.L:=by
   obtain⟨oL,es,ep,e1,r⟩:=W.F.ns
   rintro rfl;rw[hT] at e1;cases e1
  have hb:c.base.get? a=none:=by
   cases q:c.base.get? a with
   | none=>rfl
   | some o=>have:=W.F.keep a o q;rw[hT] at this;cases this
  refine⟨hL,hb,fun hm=>?_⟩
  rcases Q1.mp hm with hm | hm
  ·rw[V0] at hm
   rcases Q1.mp hm with hm | hm
   ·obtain⟨p,hp,e⟩:=V9.mp hm
    have e1:fr₂.map (·.1)=c.fr.map (·.1):=q6 W₂.sfr
    have e2:fr.map (·.1)=c.fr.map (·.1):=q6 W.sfr
    have:a∈fr.map (·.1):=by rw[e2,← e1];exact e▸Q9 hp
    obtain⟨o,ho⟩:=W.old (V4 _ (by rw[V0];exact V4 _ this))
    rw[hT] at ho;cases ho
   obtain⟨o,ho⟩:=W.old (V4 ρ (by rw[V0];exact Q7 _ hm):a∈(fr++c.kp).map (·.1)++ρ)
   rw[hT] at ho;cases ho
  obtain⟨o,ho⟩:=W.old (Q7 _ hm:a∈(fr++c.kp).map (·.1)++ρ)
  rw[hT] at ho;cases ho
 exact hI₂ a ha
theorem aC.adopt{T:Addr}(R:aC c (T::I) ls ρ H s){ob:Obj}{x:O}(hT:s.heap.get? T=some ob)(hx:OR c.w.params (ρ++[T]) x ob):aC c I ls (ρ++[T]) (H++[x]) s:=by
 obtain⟨m,fr,os,W,nd,hI⟩:=R
 have hp:ρ <+: ρ++[T]:=K4 _ _
 have hT':=hI T (.head _)
 refine⟨m,fr,os++[ob],⟨W.gens,W.drawn,W.sos,W.F,?_,W.sls.mono hp,W.sfr,(W.hos.mono hp).app hx,by simp[W.len],?_,fun y i hy=>let ⟨b,e1,e2⟩:=W.cs y i hy;⟨b,aH hp e1,e2⟩,W.pn.trans hp⟩,(K9.mp nd).2,fun a ha=>?_⟩
 ·rw[jt _ _ W.len,← K0]
  intro p hp
  rcases Q1.mp hp with hp | hp
  ·exact W.N p hp
  rw[J6.mp hp];exact⟨hT,hT'.1,hT'.2.1⟩
 ·rw[←K0]
  refine List.nodup_append.mpr ⟨W.nd,by simp,fun b hb b' hb'=>?_⟩
  rw[J6.mp hb']
  rintro rfl
  exact hT'.2.2 hb
 have h1:=hI a (.tail _ ha)
 refine⟨h1.1,h1.2.1,fun hm=>?_⟩
 rw[←K0] at hm
 rcases Q1.mp hm with hm | hm
 ·exact h1.2.2 hm
 rw[J6.mp hm] at ha
 exact(K9.mp nd).1 ha
theorem aC.less{T:Addr}(R:aC c (T::I) ls ρ H s):aC c I ls ρ H s:=by
 obtain⟨m,fr,os,W,nd,hI⟩:=R
 exact⟨m,fr,os,W,(K9.mp nd).2,fun a ha=>hI a (.tail _ ha)⟩
theorem aC.list_ne(R:aC c I ls ρ H s){l:Nat}{a b:Addr}(ha:ρ[l]?=some a)(hb:b∈I):a≠b:=by
 obtain⟨m,fr,os,W,nd,hI⟩:=R
 rintro rfl
 exact(hI _ hb).2.2 (Q7 _ (V8 ha))
theorem yJ{J:List Addr}(R:aC c I ls ρ H s)(h:I.Perm J):aC c J ls ρ H s:=by
 obtain⟨m,fr,os,W,nd,hI⟩:=R
 exact⟨m,fr,os,W,h.nodup_iff.mp nd,fun a ha=>hI a (h.mem_iff.mpr ha)⟩
theorem aC.sub{J:List Addr}(R:aC c I ls ρ H s)(h:∀ a∈J,a∈I)(nd:J.Nodup):aC c J ls ρ H s:=by
 obtain⟨m,fr,os,W,_,hI⟩:=R
 exact⟨m,fr,os,W,nd,fun a ha=>hI a (h a ha)⟩
noncomputable def c8(xs ys:List V):List hM:=List.zipWith .pair xs ys
theorem DL{xs ys:List V}:∀ {i:Nat} {t:hM},(c8 xs ys)[i]?=some t→∃ x y,xs[i]?=some x∧ys[i]?=some y∧t=.pair x y:=by
 intro i t h
 unfold c8 at h
 rw[List.getElem?_zipWith] at h
 cases hx:xs[i]? with
 | none=>rw[hx] at h;simp at h
 | some x=>
 cases hy:ys[i]? with
 | none=>rw[hx,hy] at h;simp at h
 | some y=>rw[hx,hy] at h;simp at h;exact⟨x,y,rfl,rfl,h.symm⟩
noncomputable abbrev BP(f0:Value)(TI TO:Addr):Obj:={ cls:=.type "zip",dict:=none,data:=.fields #[f0,.bool false,.bool false,.ref TI,.ref TO],slots:=#[]}
noncomputable abbrev jx(a b:Value):Obj:={ cls:=.type "tuple",data:=.seq #[a,b]}
noncomputable def FA(z TI TO i1 i2 l1 l2:Addr)(i:Nat)(own:List (Addr×Obj)):Prop:=
 ∃ (a b:Value) (o1 o2:Obj),own=[(z,BP .none TI TO),(TI,jx (.ref i1) (.ref i2)),(TO,jx a b),(i1,o1),(i2,o2)]∧(o1.cls=.type "list_iterator"∧o1.data=.fields #[.ref l1,.int i 0])∧(o2.cls=.type "list_iterator"∧o2.data=.fields #[.ref l2,.int i 0])
theorem kX{z TI TO i1 i2 l1 l2:Addr}(nd:[z,TI,TO,i1,i2].Nodup)(h1:∀ b∈[z,TI,TO,i1,i2],l1≠b)(h2:∀ b∈[z,TI,TO,i1,i2],l2≠b):ZipApart z TI TO i1 i2 l1 l2:=by
 have n:∀ {a b:Addr} {l:List Addr},(a::l).Nodup→b∈l→a≠b:=fun nd hb e=>(K9.mp nd).1 (e▸hb)
 have nd2:=(K9.mp nd).2
 have nd3:=(K9.mp nd2).2
 have nd4:=(K9.mp nd3).2
 have m1:TI∈[TI,TO,i1,i2]:=.head _
 have m2:TO∈[TI,TO,i1,i2]:=.tail _ (.head _)
 have m3:i1∈[TI,TO,i1,i2]:=.tail _ (.tail _ (.head _))
 have m4:i2∈[TI,TO,i1,i2]:=.tail _ (.tail _ (.tail _ (.head _)))
 exact⟨(n nd m1).symm,(n nd m2).symm,(n nd m3).symm,(n nd m4).symm,n nd2 (.head _),n nd2 (.tail _ (.head _)),n nd2 (.tail _ (.tail _ (.head _))),n nd3 (.head _),n nd3 (.tail _ (.head _)),n nd4 (.head _),h1 _ (.head _),h1 _ (.tail _ m2),h1 _ (.tail _ m3),h1 _ (.tail _ m4),h2 _ (.head _),h2 _ (.tail _ m2),h2 _ (.tail _ m3),h2 _ (.tail _ m4)⟩
theorem Fg{q a b c d e:Addr}(h:q∉[a,b,c,d,e]):q≠a∧q≠b∧q≠c∧q≠d∧q≠e:=
 ⟨fun x=>h (x▸.head _),fun x=>h (x▸.tail _ (.head _)),fun x=>h (x▸.tail _ (.tail _ (.head _))),fun x=>h (x▸.tail _ (.tail _ (.tail _ (.head _)))),fun x=>h (x▸.tail _ (.tail _ (.tail _ (.tail _ (.head _)))))⟩
theorem aC.ndI(R:aC c I ls ρ H s):I.Nodup:=by
 obtain⟨_,_,_,_,nd,_⟩:=R
 exact nd
theorem wi.zip{z TI TO i1 i2:Addr}{j1 j2:Nat}{l1 l2:Addr}{ρ₀:List Addr}{xs ys:List V}(h1:ρ₀[j1]?=some l1)(h2:ρ₀[j2]?=some l2) :
  wi G z [z,TI,TO,i1,i2] ρ₀ (c8 xs ys) (FA z TI TO i1 i2 l1 l2) (fun h=>h[j1]?=some (.list xs)∧h[j2]?=some (.list ys)) where
 st:=fun i own ⟨a,b,o1,o2,e,_⟩=>by rw[e];rfl
 self:=fun i c s own Q E ⟨a,b,o1,o2,e,_⟩ ho hQ=>by
  subst e
  have gz:IsZip s.heap z TI TO .none:=ho (z,_) (.head _)
  exact wpAny_pyIter_zip gz hQ
 item:=fun dd fn c target i x ls H ρ s own ls' H' Q E B S hc ok hx hg hp R st ho tn hQ=>by
  obtain⟨a,b,o1,o2,rfl,st1,st2⟩:=st
  obtain⟨x1,y1,hx1,hy1,rfl⟩:=DL hx
  cases tn with
  | @pair elts k p _ _ _ _ _ _ as=>
  refine Dt fun P hP=>?_
  obtain⟨vs1,hl1,r1⟩:=R.rep.listAt (aH hp h1) hg.1
  obtain⟨vs2,hl2,r2⟩:=R.rep.listAt (aH hp h2) hg.2
  obtain⟨v1,e1,rv1⟩:=r1.get hx1
  obtain⟨v2,e2,rv2⟩:=r2.get hy1
  have nd:[z,TI,TO,i1,i2].Nodup:=R.ndI
  have D:=kX nd (fun b hb=>R.list_ne (aH hp h1) hb) (fun b hb=>R.list_ne (aH hp h2) hb)
  have gz:IsZip s.heap z TI TO .none:=ho (z,_) (.head _)
  have gTI:IsPair s.heap TI (.ref i1) (.ref i2):=ho (TI,_) (.tail _ (.head _))
  have gTO:IsPair s.heap TO a b:=ho (TO,_) (.tail _ (.tail _ (.head _)))
  have g1:s.heap.IsListIter i1 l1 i:=⟨o1,ho (i1,o1) (.tail _ (.tail _ (.tail _ (.head _)))),st1⟩
  have g2:s.heap.IsListIter i2 l2 i:=⟨o2,ho (i2,o2) (.tail _ (.tail _ (.tail _ (.tail _ (.head _))))),st2⟩
  refine hP ?_
  clear hP
  refine wpAny_pyNext_zip_item D gz gTI gTO g1 g2 hl1 hl2 (by simpa using e1) (by simpa using e2) fun h' a1 a2 a3 a4 a5 a6 hk=>?_
  refine wpAny_letOwnedTupleGo_zip a1 fun h'' b1 hs=>?_
  have hT:s.heap.get? s.heap.objs.size=none:=eX _
  have hTI':s.heap.objs.size∉[z,TI,TO,i1,i2]:=fun hm=>ho.has hm hT
  have keep:∀ q o,q∉[z,TI,TO,i1,i2]→s.heap.get? q=some o→h''.get? q=some o:=fun q o hq e=>by
   have hq:=Fg hq
   exact hs.extBut _ _ hq.1 (hk _ _ hq.1 hq.2.2.1 hq.2.2.2.1 hq.2.2.2.2 e)
  have R₂:aC c (s.heap.objs.size::[z,TI,TO,i1,i2]) ls ρ H { s with heap:=h''}:=R.add (t:=s.toks) keep hT hTI'
  have Tz:s.heap.objs.size≠z:=fun e=>hTI' (by simp[e])
  have gT:h''.get? s.heap.objs.size=some (jx v1 v2):=hs.extBut _ _ Tz a5
  have R₃:aC c [z,TI,TO,i1,i2] ls (ρ++[s.heap.objs.size]) (H++[.tup [x1,y1]]) { s with heap:=h''}:=R₂.adopt gT ⟨[v1,v2],rfl,rv1.mono (K4 _ _),rv2.mono (K4 _ _),trivial⟩
  refine Dt fun P hP=>?_
  obtain⟨p1,q1,st1'⟩:=a3
  obtain⟨p2,q2,st2'⟩:=a4
  refine hP ?_
  clear hP
  have ho':qD [(z,BP .none TI TO),(TI,jx (.ref i1) (.ref i2)),(TO,jx v1 v2),(i1,p1),(i2,p2)] { s with heap:=h''}:=
   .cons b1 (.cons (hs.extBut _ _ D.TIz (hk _ _ D.TIz D.TITO D.TIi1 D.TIi2 gTI)) (.cons (hs.extBut _ _ D.TOz a2) (.cons (hs.extBut _ _ D.i1z q1) (.cons (hs.extBut _ _ D.i2z q2) .nil))))
  have R₄:aC (c.keep [(z,BP .none TI TO),(TI,jx (.ref i1) (.ref i2)),(TO,jx v1 v2),(i1,p1),(i2,p2)]) [] ls (ρ++[s.heap.objs.size]) (H++[.tup [x1,y1]]) { s with heap:=h''}:=dI R₃ ho'
  have hlen:H.length=ρ.length:=R.rep.hlen
  refine vX (i:=H.length) (c:=c.keep _) S as dW (by rw[hlen];exact dW) hc ok.keep R₄.rep fun s₅ R₅=>?_
  obtain⟨R₆,ho₆⟩:=dJ (aC.nil R₅)
  exact hQ _ s₅ _ (K4 _ _) R₆ ⟨v1,v2,p1,p2,rfl,st1',st2'⟩ ho₆
 done:=fun dd c ls H ρ s own Q E ok hg hp R st ho hQ=>by
  obtain⟨a,b,o1,o2,rfl,st1,st2⟩:=st
  obtain⟨vs1,hl1,r1⟩:=R.rep.listAt (aH hp h1) hg.1
  obtain⟨vs2,hl2,r2⟩:=R.rep.listAt (aH hp h2) hg.2
  have nd:[z,TI,TO,i1,i2].Nodup:=R.ndI
  have D:=kX nd (fun b hb=>R.list_ne (aH hp h1) hb) (fun b hb=>R.list_ne (aH hp h2) hb)
  have gz:IsZip s.heap z TI TO .none:=ho (z,_) (.head _)
  have gTI:IsPair s.heap TI (.ref i1) (.ref i2):=ho (TI,_) (.tail _ (.head _))
  have gTO:IsPair s.heap TO a b:=ho (TO,_) (.tail _ (.tail _ (.head _)))
  refine wpAny_pyNext_zip_end ok.hh D gz gTI gTO ⟨o1,ho (i1,o1) (.tail _ (.tail _ (.tail _ (.head _)))),st1⟩ ⟨o2,ho (i2,o2) (.tail _ (.tail _ (.tail _ (.tail _ (.head _))))),st2⟩ hl1 hl2 ?_ fun h' hk=>?_
  ·have l1':=r1.len
   have l2':=r2.len
   unfold c8
   rw[List.length_zipWith]
   rcases Nat.le_total xs.length ys.length with h | h
   ·left;rw[Nat.min_eq_left h];simp[l1']
   right;rw[Nat.min_eq_right h];simp[l2']
  refine hQ _ (R.but (t:=s.toks) fun q o hq e=>?_)
  have hq:=Fg hq
  exact hk _ _ hq.1 hq.2.2.1 hq.2.2.2.1 hq.2.2.2.2 e
theorem js.zip{func e₁ e₂ pos}{j1 j2:Nat}{xs ys:List V}(hf:Ev G dd fn func ls H (.ty "zip") H)(hl1:Ev G dd fn e₁ ls H (.obj j1) H₁)(hl2:Ev G dd fn e₂ ls H₁ (.obj j2) H₂)(hx:H₂[j1]?=some (.list xs))(hy:H₂[j2]?=some (.list ys))
  (he:∀ env,eval (.Call func [e₁,e₂] [] pos) env=(do callWith pos (←eval func env) [] (backTo pos (K7 [e₁,e₂] env)) (backToKw pos (keywordEach [] env))):=by intro _;rfl)
  (hst:∀ env,K7 [e₁,e₂] env=(false,eval e₁ env)::K7 [e₂] env:=by intro _;rfl) (hst2:∀ env,K7 [e₂] env=(false,eval e₂ env)::K7 [] env:=by intro _;rfl) :
  js G dd fn (.Call func [e₁,e₂] [] pos) ls H (c8 xs ys) (fun h=>h[j1]?=some (.list xs)∧h[j2]?=some (.list ys)) H₂:=fun c s ρ Q E hc ok R hQ=>by
 refine Call_ (hf c s ρ _ _ hc ok R fun ρ₁ s₁ f' hp R₁ rf=>?_) (he _)
 refine ew (first:=[]) (f:=.ty "zip") (ap.cons hl1 (ap.cons hl2 .nil hst2) hst) trivial hc ok R₁ rf bq.nil fun ρ₂ s₂ as hp₂ R₂ rf₂ ra=>?_
 obtain rfl:=rf₂
 obtain⟨x',y',rfl,⟨a1,g1,e1⟩,⟨a2,g2,e2⟩,_⟩:=bq.c2 ra
 ·subst e1 e2
  obtain⟨vs1,hla,r1⟩:=R₂.listAt g1 hx
  obtain⟨vs2,hlb,r2⟩:=R₂.listAt g2 hy
  refine call_zip_2 hla hlb fun h' b1 b2 b3 b4 b5 b6 hk=>?_
  obtain⟨o1,c1,st1⟩:=b4
  obtain⟨o2,c2,st2⟩:=b5
  refine wpAny_pyIter_zip (s:={ s₂ with heap:=h'}) b1 ?_
  have none_ge:∀ a,s₂.heap.objs.size≤a→s₂.heap.get? a=none:=fun a ha=>V3 ha
  have R₃:aC c [s₂.heap.objs.size+4,s₂.heap.objs.size+2,s₂.heap.objs.size+3,s₂.heap.objs.size,s₂.heap.objs.size+1] ls ρ₂ H₂ { s₂ with heap:=h'}:=
   R₂.off (t:=s₂.toks) hk (by simp) (fun a ha=>none_ge _ (wQ ha)) (fun a ha=>wQ ha)
  refine hQ ρ₂ _ _ _ _ [(s₂.heap.objs.size+4,BP .none (s₂.heap.objs.size+2) (s₂.heap.objs.size+3)),(s₂.heap.objs.size+2,jx (.ref s₂.heap.objs.size) (.ref (s₂.heap.objs.size+1))),(s₂.heap.objs.size+3,jx .none .none),(s₂.heap.objs.size,o1),(s₂.heap.objs.size+1,o2)] (hp.trans hp₂) R₃ (wi.zip g1 g2) ?_ ⟨.none,.none,o1,o2,rfl,st1,st2⟩
  intro q hq
  simp only[K2,J8,or_false] at hq
  rcases hq with rfl | rfl | rfl | rfl | rfl
  ·exact b1
  ·exact b2
  ·exact b3
  ·exact c1
  exact c2
end
noncomputable def Cx.comp(c:Cx)(fr:List (Addr×Obj))(oL:Obj)(C:Addr)(fn:bW)(cl:List (Str×Addr)):Cx:=
 { c with fr:=c.fr' fr oL,kp:=c.kp' oL,L:=C,fn:=fn,cl:=cl,cm:=some c.fenv}
noncomputable def cZ(scope sc:Scope):Scope:=
 { scope with names:=scope.names.map fun(n,k)=>if(k==.free && sc.kind==.function && sc.names.lookup n==some .cell) then(n,.cell) else(n,k)}
theorem xC(c:Cx)(scope:Scope):relabel scope c.env=cZ scope c.fn.sc:=by
 unfold relabel cZ Cx.env
 split <;> rfl
theorem AV(c:Cx){fr oL C fn cl scope}(h:fn.sc=cZ scope c.fn.sc):(c.comp fr oL C fn cl).env=compEnvC scope cl C c.env:=by
 have e:relabel scope c.env=fn.sc:=(xC c scope).trans h.symm
 unfold compEnvC
 rw[e]
 unfold Cx.env Cx.comp Cx.fenv
 cases c.cm <;> rfl
inductive Lc(G:cq)(dd:Nat)(fn:bW)(target elt:Expr)(Good:List O→Prop):List hM→List (Str×V)→List O→List V→List O→Prop
 | nil {l h}:Good h→Lc G dd fn target elt Good [] l h [] h
 | cons {w ws l h l₁ h₁ v h₂ vs h'}:Good h→Tn fn target w l h l₁ h₁→Ev G dd fn elt l₁ h₁ v h₂→Lc G dd fn target elt Good ws l₁ h₂ vs h'→Lc G dd fn target elt Good (w::ws) l h (v::vs) h'
section
variable {G:cq}{dd:Nat}{fn:bW}{ls ls' ls'':List (Str×V)}{H H' H₁ H₂ H₃:List O}{v a b f ov iv:V}{vs first:List V}{d₁:Nat}{c:Cx}{ρ ρ':List Addr}{s:Shared}{own own':List (Addr×Obj)}{I Is:List Addr}{Good:List O→Prop}{m:Str→Option Value}{fr:List (Addr×Obj)}{os:List Obj}
theorem B4(ok:c.Ok G dd)(k:pT c ls ρ m fr oL){C:Addr}{fn:bW}{cl:List (Str×Addr)}(hk:fn.sc.kind=.function)(hq:fn.cdv=.none):(c.comp fr oL C fn cl).Ok G dd:=by
 obtain⟨⟨es,ep,e2,e3,e4⟩,_,_,hf,_⟩:=k
 have h1:=ok.frs
 refine⟨ok.X,ok.T,ok.stk,?_,hk,ok.hm,ok.hh,ok.hd,ok.hu,ok.hp,.inr hq⟩
 show Frs (c.fenv::c.outer) (c.fr' fr oL)
 have hm:=ok.hm
 unfold Cx.fenv Cx.fr'
 unfold Cx.outs at h1
 cases hcm:c.cm with
 | none=>
  rw[hcm] at h1
  refine⟨?_,rfl,⟨es,ep,e2⟩,h1.up hf⟩
  show c.fn.sc.kind≠.module
  rw[ok.hk];decide
 | some e=>
 rw[hcm] at h1
 exact h1.up hf
theorem CO{I:List Addr}(R:aC c I ls ρ H s){C:Addr}{h:Heap}{t:Nat}{fn:bW}{cl:List (Str×Addr)}{m':Str→Option Value}{ls':List (Str×V)}
  (hC:s.heap.get? C=none) (hCI:C∉I) (hab:c.base.objs.size≤C) (ns:h.Ns C m') (keep:∀ b o,s.heap.get? b=some o→h.get? b=some o) (sls:sQ ρ ls' m') (cs:∀ x i,(x,i)∈fn.ce→∃ a,ρ[i]?=some a∧cl.lookup x=some a) :
  ∃ m fr oL,pT c ls ρ m fr oL∧aC (c.comp fr oL C fn cl) I ls' ρ H { s with heap:=h,toks:=t}:=by
 obtain⟨m,fr,os,W,nd,hI⟩:=R
 obtain⟨oL,hL,k⟩:=W.split
 refine⟨m,fr,oL,k,m',c.fr' fr oL,os,⟨W.gens,W.drawn,W.sos,⟨ns,fun b o e=>keep b o (W.F.keep b o e),hab⟩,?_,sls,SameUp.refl _,W.hos,W.len,?_,cs,W.pn⟩,nd,fun a ha=>?_⟩
 ·intro p hp
  have nC:∀ {o:Obj},s.heap.get? p.1=some o→p.1≠C:=fun e q=>by rw[q,hC] at e;cases e
  rcases Cx.sub_mem.mp hp with rfl | hp
  ·exact⟨keep _ _ hL,nC hL,V3 W.F.above⟩
  exact⟨keep _ _ (W.N p hp).1,nC (W.N p hp).1,(W.N p hp).2.2⟩
 ·refine(Cx.sub_perm.nodup_iff).mpr ?_
  refine K9.mpr ⟨fun hm=>?_,W.nd⟩
  have e:(fr++c.kp).map (·.1)++ρ=((fr++c.kp)++ρ.zip os).map (·.1):=by rw[V0 (l₁:=fr++c.kp),eA W.len]
  rw[e] at hm
  obtain⟨p,hp,q⟩:=V9.mp hm
  exact(W.N p hp).2.1 q
 have h1:=hI a ha
 refine⟨fun e=>hCI (by rw[←show a=C from e];exact ha),h1.2.1,fun hm=>?_⟩
 have hm':a∈(c.fr' fr oL++c.kp' oL).map (·.1)++ρ:=hm
 rw[Cx.sub_perm.mem_iff] at hm'
 rcases K2.mp hm' with e | hm'
 ·exact h1.1 e
 exact h1.2.2 hm'
theorem AU{oL:Obj}(k:pT c ls ρ m fr oL){C:Addr}{fn:bW}{cl:List (Str×Addr)}{ls':List (Str×V)}{ρ':List Addr}{s':Shared}{I:List Addr}(hp:ρ <+: ρ')
  (R:aC (c.comp fr oL C fn cl) I ls' ρ' H' s'):aC c (C::I) ls ρ' H' s':=by
 obtain⟨m',fr',os',W,ndI,hI⟩:=R
 obtain⟨⟨es,ep,e2,e3,e4⟩,ab,sls,sfr,cs⟩:=k
 have hs:SameUp (c.fr' fr oL) fr':=W.sfr
 obtain⟨fr₂,sl,e6,rfl⟩:=oq hs
 have key:∃ oL':Obj,oL'.data=oL.data∧News c.base C s'.heap ((c.fr' fr₂ oL'++c.kp' oL')++ρ'.zip os')∧((c.fr' fr₂ oL'++c.kp' oL').map (·.1)++ρ').Nodup∧(∀ a∈I,a∉(c.fr' fr₂ oL'++c.kp' oL').map (·.1)++ρ'):=by
  have h1:=W.N
  have h2:=W.nd
  have h3:∀ a∈I,a∉(c.fr' fr₂ { oL with slots:=sl}++c.kp' oL).map (·.1)++ρ':=fun a ha=>(hI a ha).2.2
  change News c.base C s'.heap ((c.fr' fr₂ { oL with slots:=sl}++c.kp' oL)++ρ'.zip os') at h1
  change ((c.fr' fr₂ { oL with slots:=sl}++c.kp' oL).map (·.1)++ρ').Nodup at h2
  cases hcm:c.cm with
  | none=>
   rw[wL (oL':={ oL with slots:=sl}) hcm] at h1 h2 h3
   exact⟨{ oL with slots:=sl},rfl,h1,h2,h3⟩
  | some e=>
  have q:c.fr' fr₂ { oL with slots:=sl}=c.fr' fr₂ oL:=by unfold Cx.fr';rw[hcm]
  rw[q] at h1 h2 h3
  exact⟨oL,rfl,h1,h2,h3⟩
 obtain⟨oL',ed,N,nd,h3⟩:=key
 have hq:=N (c.L,oL') (Cx.sub_mem.mpr (.inl rfl))
 have nd':=Cx.sub_perm.nodup_iff.mp nd
 have e:(fr₂++c.kp).map (·.1)++ρ'=((fr₂++c.kp)++ρ'.zip os').map (·.1):=by rw[V0 (l₁:=fr₂++c.kp),eA W.len]
 refine⟨m,fr₂,os',⟨W.gens,W.drawn,W.sos,⟨⟨_,es,ep,hq.1,by rw[ed];exact e2,e3,e4⟩,W.F.keep,ab⟩,?_,sls.mono hp,sfr.trans e6,W.hos,W.len,(K9.mp nd').2,fun x i hx=>let ⟨b,h1,h2⟩:=cs x i hx;⟨b,aH hp h1,h2⟩,W.pn⟩,K9.mpr ⟨fun hm=>(hI _ hm).1 rfl,ndI⟩,fun a ha=>?_⟩
 ·intro p hp
  have h3:=N p (Cx.sub_mem.mpr (.inr hp))
  refine⟨h3.1,fun q=>?_,h3.2.2⟩
  refine(K9.mp nd').1 ?_
  rw[e,← q]
  exact Q9 hp
 rcases K2.mp ha with rfl | ha
 ·refine⟨Ne.symm hq.2.1,?_,fun hm=>?_⟩
  ·exact V3 W.F.above
  rw[e] at hm
  obtain⟨p,hp,q⟩:=V9.mp hm
  exact(N p (Cx.sub_mem.mpr (.inr hp))).2.1 q
 have h4:=h3 a ha
 rw[Cx.sub_perm.mem_iff] at h4
 exact⟨fun q=>h4 (by rw[q];exact .head _),(hI a ha).2.1,fun hm=>h4 (.tail _ hm)⟩
end
noncomputable def b8(fn:bW)(scope:Scope)(ce:List (Str×Nat)):Prop:=
 ∀ (c:Cx) (ρ:List Addr),c.fn=fn→(∀ x i,(x,i)∈fn.ce→∃ a,ρ[i]?=some a∧c.cl.lookup x=some a)→
  ∃ cl,closureFor scope c.env=pure cl∧y0 ρ ce cl∧∀ x i,(x,i)∈ce→∃ a,ρ[i]?=some a∧cl.lookup x=some a
section
variable {G:cq}{dd:Nat}{fn fn':bW}{ls ls' ls'':List (Str×V)}{H H' H₁ H₂ H₃:List O}{v a b f ov iv:V}{vs first:List V}{d₁:Nat}{c:Cx}{ρ ρ':List Addr}{s:Shared}{own own':List (Addr×Obj)}{I Is:List Addr}{Good:List O→Prop}{m:Str→Option Value}{fr:List (Addr×Obj)}{os:List Obj}
theorem b8.none{scope:Scope}(h:∀ x∈scope.names,x.2≠.free):b8 fn scope []:=fun c ρ hc _=>
 ⟨[],closureFor_none h,trivial,fun x i hx=>nomatch hx⟩
theorem OR.list{P:Params}{vs:List Value}(r:bq ρ first vs):OR P ρ (.list first) (LCg.lst vs):=⟨vs,vs.length,rfl,r⟩
inductive CJ{σ α:Type}(xs:List α)(vs:List V)(ρ₀:List Addr)(R:List (Str×V)→List Addr→List O→Prop)(D:List Value→Prop)(Ow:σ→Prop)(St:Nat→σ→Prop)(F:List α→List (Str×V)→List O→List V→Prop)(n:Nat):Prop
 | mk (i:Nat) (l:List (Str×V)) (K:List O) (ρ:List Addr) (w:σ) (ys:List α) (done:List V) (ds:List Value) (rest:List V) (h1:ρ₀ <+: ρ) (h2:R l ρ K) (h3:D ds) (h4:bq ρ done ds) (h5:Ow w) (h6:St i w) (h7:Pt xs i ys n) (h8:done.length=i) (h9:vs=done++rest) (h0:F ys l K rest):CJ xs vs ρ₀ R D Ow St F n
theorem tX{elt target iter:Expr}{scope:Scope}{pos:Pos}{xs:List hM}{ce:List (Str×Nat)}{use:Option (Value→Sem Unit)}{E Q:Value→Shared→Prop}
  (S:bz { fn with sc:=cZ scope fn.sc,ce:=ce,cdv:=.none}) (hcl:b8 fn scope ce) (hcell:∀ y∈scope.names,y.2≠.cell) (hkind:scope.kind=.function) (hnames:∀ x∈scope.names,x.2=.local→scope.names.lookup x.1=some .local)
  (hi:js G dd fn iter ls H xs Good H₁) (h:Lc G dd { fn with sc:=cZ scope fn.sc,ce:=ce,cdv:=.none} target elt Good xs [] H₁ vs H')
  (hsz:xs.length≤1000) (hs:∀ env x,V1 iter env x=pure x) (hc:c.fn=fn) (ok:c.Ok G dd) (R:aY c ls ρ H s)
  (hQ:∀ (ρ':List Addr) (s':Shared) (C D:Addr),ρ <+: ρ'→aC c [C] ls (ρ'++[D]) (H'++[.list vs]) s'→(ρ'++[D])[H'.length]?=some D→(∃ m',s'.heap.Ns C m')→
   compPost (model G.prog c.w) c.A E use Q (.ref D) C (.ok .next) s') :
  wpAny (model G.prog c.w) c.A (comprehension (.ListComp elt [⟨target,iter,[],0⟩] scope pos) scope c.env (firstIterPos [⟨target,iter,[],0⟩] pos) (newList []) false (eval iter c.env) use) Q E s:=by
 subst hc
 have R0:=R
 obtain⟨m0,fr0,os0,W0⟩:=R
 obtain⟨cl,hclos,hclr,hcs⟩:=hcl c ρ rfl W0.cs
 refine wpAny_comprehension_free (use:=use) rfl (hs _) hclos hkind hnames ?_
 refine hi c s ρ _ _ rfl ok R0 fun ρ₀ s₂ I Is St own hp₀ R₂ hI ho hst=>?_
 refine wpAny_newObj_type (wpAny_newFunctionEnv hcell (by intro y hy;simp at hy) (fun h₁ hns₁ hsb₁=>?_) hkind)
 dsimp only at hns₁ hsb₁ ⊢
 generalize hH2:s₂.heap.push { cls:=.type "list",dict:=none,data:=.seq ([]:List Value).toArray}=H2 at hns₁ hsb₁ ⊢
 have gD:H2.get? s₂.heap.objs.size=some (LCg.lst []):=by rw[←hH2];exact Q5 _ rfl
 have nD:s₂.heap.get? s₂.heap.objs.size=none:=eX _
 have hC:H2.objs.size=s₂.heap.objs.size+1:=by rw[←hH2,Heap.size_push]
 have k₂:∀ b o,s₂.heap.get? b=some o→H2.get? b=some o:=fun b o e=>by rw[←hH2];exact K3 _ e
 have hIsOld:∀ a∈Is,∃ o,s₂.heap.get? a=some o:=by
  intro a ha
  rw[←hI.st _ _ hst] at ha
  obtain⟨p,hp,rfl⟩:=V9.mp ha
  exact⟨_,ho p hp⟩
 have R₃:aC c (s₂.heap.objs.size::Is) ls ρ₀ H₁ { s₂ with heap:=H2}:=R₂.add (t:=s₂.toks) (fun b o _ e=>k₂ b o e) nD fun hm=>by
  obtain⟨o,e⟩:=hIsOld _ hm
  rw[nD] at e;cases e
 have nC:H2.get? H2.objs.size=none:=eX _
 have k₃:∀ b o,H2.get? b=some o→h₁.get? b=some o:=fun b o e=>hsb₁.extBut b o (W3 (Heap.lt_size e)) (K3 _ e)
 have hCI:H2.objs.size∉s₂.heap.objs.size::Is:=fun hm=>by
  rcases K2.mp hm with e | hm
  ·rw[e,gD] at nC;cases nC
  obtain⟨o,e⟩:=hIsOld _ hm
  rw[k₂ _ _ e] at nC;cases nC
 have hab:c.base.objs.size≤H2.objs.size:=by
  obtain⟨_,_,_,W,_⟩:=R₃
  exact J7 W.F.above (Nat.le_of_lt W.F.ns.lt)
 obtain⟨m1,fr1,oL,k,R₄⟩:=CO (fn:={ c.fn with sc:=cZ scope c.fn.sc,ce:=ce,cdv:=.none}) (cl:=cl) (ls':=[]) (t:=s₂.toks+([]:List (Str×Value)).length) R₃ nC hCI hab hns₁ k₃
  ⟨fun p hp=>(nomatch hp),V7⟩ (fun x i hx=>let ⟨a,e1,e2⟩:=hcs x i hx;⟨a,aH hp₀ e1,e2⟩)
 have okc:(c.comp fr1 oL H2.objs.size { c.fn with sc:=cZ scope c.fn.sc,ce:=ce,cdv:=.none} cl).Ok G dd:=B4 ok k hkind rfl
 have henv:(c.comp fr1 oL H2.objs.size { c.fn with sc:=cZ scope c.fn.sc,ce:=ce,cdv:=.none} cl).env=compEnvC scope cl H2.objs.size c.env:=AV c rfl
 generalize hcc:c.comp fr1 oL H2.objs.size { c.fn with sc:=cZ scope c.fn.sc,ce:=ce,cdv:=.none} cl=cc at R₄ okc henv
 have hA:cc.A=c.A:=by rw[←hcc];rfl
 have hw:cc.w=c.w:=by rw[←hcc];rfl
 have hfn:cc.fn={ c.fn with sc:=cZ scope c.fn.sc,ce:=ce,cdv:=.none}:=by rw[←hcc];rfl
 have gD₁:h₁.get? s₂.heap.objs.size=some (LCg.lst []):=k₃ _ _ gD
 have ho₁:qD own { s₂ with heap:=h₁,toks:=s₂.toks+([]:List (Str×Value)).length}:=fun p hp=>k₃ _ _ (k₂ _ _ (ho p hp))
 have loop:∀ s₃:Shared,s₃={ s₂ with heap:=h₁,toks:=s₂.toks+([]:List (Str×Value)).length}→
   codeAny (model G.prog c.w) c.A (.compLoop (.ListComp elt [⟨target,iter,[],0⟩] scope pos) 0 (.ref I) (.ref s₂.heap.objs.size) (compEnvC scope cl H2.objs.size c.env)) (compPost (model G.prog c.w) c.A E use Q (.ref s₂.heap.objs.size) H2.objs.size) s₃:=by
  rintro s₃ rfl
  refine kcp_loop (fun n s=>CJ xs vs ρ₀ (fun l ρ K=>aC cc (s₂.heap.objs.size::Is) l ρ K s) (fun ds=>s.heap.get? s₂.heap.objs.size=some (LCg.lst ds)) (fun o=>qD o s) St (fun ys l K rest=>Lc G dd { c.fn with sc:=cZ scope c.fn.sc,ce:=ce,cdv:=.none} target elt Good ys l K rest H') n) (fun n s₁ hJ=>?_) xs.length
   ⟨0,[],H₁,ρ₀,own,xs,[],[],vs,J2 _,R₄,gD₁,trivial,ho₁,hst,jR,rfl,rfl,h⟩
  obtain⟨i,l₁,K₁,ρ₁,own₁,ys,done,ds,rest,hp₁,R₁,hD₁,rd,ho₁,hst₁,pt,hdl,hvs,hL⟩:=hJ
  have R₁':aC (cc.keep [(s₂.heap.objs.size,LCg.lst ds)]) Is l₁ ρ₁ K₁ s₁:=dI (own:=[(s₂.heap.objs.size,LCg.lst ds)]) R₁ fun p hp=>by rw[J6.mp hp];exact hD₁
  rw[←hA,← hw,← henv]
  clear h
  induction hL with
  | nil g=>
   cases pt.fin
   refine hI.done dd (cc.keep [(s₂.heap.objs.size,LCg.lst ds)]) _ _ ρ₁ s₁ own₁ _ _ okc.keep g hp₁ R₁' hst₁ ho₁ fun s₅ R₅=>?_
   obtain⟨R₆,hD₆⟩:=dJ R₅
   have R₇:=AU (C:=H2.objs.size) (fr:=fr1) (m:=m1) (fn:={ c.fn with sc:=cZ scope c.fn.sc,ce:=ce,cdv:=.none}) (cl:=cl) k hp₁ (by rw[hcc];exact R₆)
   rw[hA,hw]
   have hv:vs=done:=by rw[hvs,List.append_nil]
   subst hv
   have hDs:=hD₆ (s₂.heap.objs.size,LCg.lst ds) (.head _)
   have hord:aC c (s₂.heap.objs.size::H2.objs.size::Is) ls ρ₁ _ s₅:=yJ R₇ (List.Perm.swap _ _ _)
   have hns₅:∃ m',s₅.heap.Ns H2.objs.size m':=by
    obtain⟨m₉,_,_,W,_⟩:=R₅
    have z:s₅.heap.Ns cc.L m₉:=W.F.ns
    rw[←hcc] at z
    exact⟨_,z⟩
   have R₈:=aC.adopt hord hDs (OR.list (rd.mono (K4 _ [s₂.heap.objs.size])))
   have hlen:_=ρ₁.length:=R₅.rep.hlen
   exact hQ ρ₁ s₅ H2.objs.size s₂.heap.objs.size (hp₀.trans hp₁) (aC.sub R₈ (by simp) (by simp)) (by rw[hlen];exact dW) hns₅
  | cons g sn ev hL'=>
  refine hI.item dd _ (cc.keep [(s₂.heap.objs.size,LCg.lst ds)]) target i _ _ _ ρ₁ s₁ own₁ _ _ _ _ _ S hfn okc.keep pt.get g hp₁ R₁' hst₁ ho₁ sn fun ρ₂ s₃ own₂ hp₂ R₂ hst₂ ho₂=>?_
  have e₂:=hI.st _ _ hst₂
  have R₃:aC ((cc.keep [(s₂.heap.objs.size,LCg.lst ds)]).keep own₂) [] _ ρ₂ _ s₃:=dI (by rw[e₂,List.append_nil];exact R₂) ho₂
  refine ev ((cc.keep [(s₂.heap.objs.size,LCg.lst ds)]).keep own₂) s₃ ρ₂ _ _ hfn okc.keep.keep R₃.rep fun ρ₅ s₅ v' hp₅ R₅ rv=>?_
  obtain⟨R₆,ho₆⟩:=dJ (aC.nil R₅)
  rw[e₂,List.append_nil] at R₆
  obtain⟨R₇,hD₇⟩:=dJ R₆
  have hDs:=hD₇ (s₂.heap.objs.size,LCg.lst ds) (.head _)
  have hsz8:ds.toArray.size≤J5:=by
   have:=rd.len
   have hb:=pt.b
   rw[Q2,← this,hdl,J9]
   lia
  refine append_at (hsz:=hsz8) hDs fun h₈ hs₈ hD₈=>?_
  ·have ne:∀ a∈Is,a≠s₂.heap.objs.size:=fun a ha e=>by
    obtain⟨_,_,_,_,nd,_⟩:=R₇
    subst e
    exact(K9.mp nd).1 ha
   refine⟨_,pt.lt,i+1,_,_,ρ₅,own₂,_,_,ds++[v'],_,(hp₁.trans hp₂).trans hp₅,R₇.but (t:=s₅.toks) (fun b o hb e=>hs₈.extBut b o (fun q=>hb (by rw[q];exact .head _)) e),hD₈.trans (congrArg some (LCg.lst_snoc ds v')),
    ((rd.mono hp₂).mono hp₅).app (show bq ρ₅ [_] [v'] from⟨rv,trivial⟩),(fun p hp=>hs₈.extBut _ _ (ne _ (by rw[←e₂];exact Q9 hp)) (ho₆ p hp)),hst₂,pt.next,?_,?_,hL'⟩
   ·simp[hdl]
   rw[hvs];simp
 refine codeAny_compStart_list (loop _ rfl) ?_
 exact hI.self 0 c _ own _ _ hst ho₁ (loop _ rfl)
end
section
variable {G:cq}{dd:Nat}{fn fn':bW}{ls ls' ls'':List (Str×V)}{H H' H₁ H₂ H₃:List O}{v a b f ov iv:V}{vs first:List V}{d₁:Nat}{c:Cx}{ρ ρ':List Addr}{s:Shared}{own own':List (Addr×Obj)}{I Is:List Addr}{Good:List O→Prop}{m:Str→Option Value}{fr:List (Addr×Obj)}{os:List Obj}
theorem Gk{elt target iter:Expr}{scope:Scope}{pos:Pos}{xs:List hM}{ce:List (Str×Nat)}
  (S:bz { fn with sc:=cZ scope fn.sc,ce:=ce,cdv:=.none}) (hcl:b8 fn scope ce) (hcell:∀ y∈scope.names,y.2≠.cell) (hkind:scope.kind=.function) (hnames:∀ x∈scope.names,x.2=.local→scope.names.lookup x.1=some .local)
  (hi:js G dd fn iter ls H xs Good H₁) (h:bz { fn with sc:=cZ scope fn.sc,ce:=ce,cdv:=.none}→Lc G dd { fn with sc:=cZ scope fn.sc,ce:=ce,cdv:=.none} target elt Good xs [] H₁ vs H')
  (hsz:xs.length≤1000) (hs:∀ env x,V1 iter env x=pure x:=by intro _ _;rfl) :
  Ev G dd fn (.ListComp elt [⟨target,iter,[],0⟩] scope pos) ls H (.obj H'.length) (H'++[.list vs]):=fun c s ρ Q E hc ok R hQ=>by
 rw[eval_ListComp]
 refine tX (use:=none) S hcl hcell hkind hnames hi (h S) hsz hs hc ok R fun ρ' s' C D hp R' hD hns=>?_
 obtain⟨m',hns⟩:=hns
 refine⟨m',hns,fun h' hs'=>?_⟩
 have R₂:=(R'.but (t:=s'.toks) (h:=h') fun b o hb e=>hs'.extBut b o (by simpa using hb) e).rep
 exact hQ _ _ _ (hp.trans (K4 _ _)) R₂ ⟨D,hD,rfl⟩
end
section
open PySem.Builtin.ObjectAttr PySem.Builtin
noncomputable abbrev mE:List Value:=[.type "Exception",.type "BaseException",.type "object"]
theorem ng(self:Value):∀ refs:List Addr,refuseLoop self "__setattr__" (refs.map Value.ref++mE)=pure ()
 | []=>PySem.F.store_Exception.passes self
 | c::r=>by rw[List.map_cons,List.cons_append,refuseLoop_ref];exact ng self r
theorem wR:∀ refs:List Addr,(refs.map Value.ref++mE).contains (.type "object")=true
 | []=>by decide
 | c::r=>by rw[List.map_cons,List.cons_append,List.contains_cons,wR r,Bool.or_true]
noncomputable def mF(K:Frag)(C:Addr)(refs:List Addr):Bool:=(clsIn K C).any fun cd=>cd.mro==refs.map Value.ref++mE
section
variable {prog:Program}{w:World}{A:Around}{R:Result→Shared→Prop}{s:Shared}{K:Frag}{x C:Addr}{refs:List Addr}
theorem qe{ox:Obj}{od:Option Obj}{name:Str}{tk:Tok}{v:Value}{r:Option Value}(X:K.In s.heap)(I:InstAt s.heap x ox C od)(hp:mF K C refs=true)(ht:takerIn K C name=some r)
  (h:∀ b,wpAny (model prog w) A.in1 (match r with | some a=>setByDescriptor a (.ref x) v | none=>storeInOwnDict (.ref x) (.ref C) (.str name tk) name v b)
   (fun fin s'=>match fin with | .done f=>R (.ok f) s' | .again c'=>c'.quiet=true∧codeAny (model prog w) A c' R s') (fun e s'=>R (.error e) s') s) :
  codeAny (model prog w) A (.call (.builtin "object.__setattr__") ⟨[.ref x,.str name tk,v],[]⟩) R s:=by
 have SF:=PySem.F.store_object
 obtain⟨cd,hc,ho⟩:=any_some hp
 have ho:cd.mro=refs.map Value.ref++mE:=eq_of_beq ho
 have ne:cd.mro.isEmpty=false:=by rw[ho];cases refs <;> rfl
 have sub:Looks (model prog w) s.heap (isInstance (.ref x) (.type "object")) true:=I.type.andThen (looks_mroIn X (by unfold mroIn;rw[hc,Option.bind_some,if_neg (by rw[ne];decide),ho,wR refs]))
 refine codeAny_call_builtin SF.slot.plain SF.entry (@check_slot (model prog w) _ _ s "object.__setattr__" "object" "__setattr__" (.ref x) [.str name tk,v] [] _ SF.kind SF.split sub (SF.args (.ref x) (.str name tk) v) ?_)
 obtain⟨attr,ha,hr⟩:=Option.bind_eq_some_iff.mp ht
 have hm:Looks (model prog w) s.heap (mroOf (.ref C)) cd.mro:=(looks_clsIn X hc).andThen .now
 have L3:Looks (model prog w) s.heap (storeTaker? attr) r:=by
  cases attr with
  | none=>cases hr;exact .now
  | some a=>
  obtain⟨b,hb,rfl⟩:=Option.map_eq_some_iff.mp hr
  refine(looks_takesIn X hb).andThen ?_
  cases b <;> exact .now
 rw[osa_eq,refuse_eq]
 refine J1 (J1 (I.type.here (J1 (hm.here ?_))))
 rw[ho,ng]
 refine K1 (J1 (I.type.here (J1 ((looks_findIn X ha).here (J1 (L3.here ?_))))))
 exact h _
set_option tactic.hygienic true in
theorem zR{oc:Value}{oda:Data}{osl:Array (Option Value)}{name:Str}{tk:Tok}{v:Value}(X:K.In s.heap)
  (I:InstAt s.heap x ⟨oc,none,oda,osl⟩ C none) (hp:mF K C refs=true) (ht:takerIn K C name=some none) (hh:(clsIn K C).any (·.hasDict)=true) (hnc:∀ cd,oda≠.cls cd)
  (h:∀ h':Heap,(∀ b o,b≠x→s.heap.get? b=some o→h'.get? b=some o)→h'.get? x=some ⟨oc,some s.heap.objs.size,oda,osl⟩→
   h'.get? s.heap.objs.size=some (dictOf [⟨PyData.keyHash w.params name,.str name s.toks,v⟩] 1)→R (.ok (.ret .none)) { s with heap:=h',toks:=s.toks+1}) :
  codeAny (model prog w) A (.call (.builtin "object.__setattr__") ⟨[.ref x,.str name tk,v],[]⟩) R s:=by
 refine qe X I hp ht fun b=>?_
 obtain⟨cd,hc,hd'⟩:=any_some hh
 obtain⟨hx,hcl,hn,-⟩:=I
 dsimp only at hcl
 subst hcl
 refine J1 (K1 (J1 (J1 (wpAny_loadPart hx (J1 ((looks_clsIn X hc).here ?_))))))
 rw[hd']
 rw[if_neg (by decide)]
 dsimp only
 rw[if_neg (by simp[typeHasDict])]
 split
 ·rename_i hcd
  exact absurd rfl (hnc _)
 have hx₁:(s.heap.push { cls:=.type "dict",data:=.dict #[]}).get? x=some ⟨.ref C,none,oda,osl⟩:=K3 _ hx
 have hxs:x≠s.heap.objs.size:=W3 (Heap.lt_size hx)
 refine J1 (wpAny_alloc' ?_)
 refine J1 (wpAny_update' hx₁ ?_)
 refine K1 ?_
 have hgd:((s.heap.push { cls:=.type "dict",data:=.dict #[]}).update x fun o=>{ cls:=o.cls,dict:=some s.heap.objs.size,data:=o.data,slots:=o.slots}).get? s.heap.objs.size
   = some { cls:=.type "dict",data:=.dict #[]}:=
  (Heap.get?_update_ne _ _ _ _ hxs.symm).trans (Heap.get?_push_at rfl rfl)
 have hfr:=(Heap.get?_some_iff.mp hx).2
 have hxu:((s.heap.push { cls:=.type "dict",data:=.dict #[]}).update x fun o=>{ cls:=o.cls,dict:=some s.heap.objs.size,data:=o.data,slots:=o.slots}).get? x=some ⟨.ref C,some s.heap.objs.size,oda,osl⟩:=by
  refine Heap.get?_update_self _ hx₁ ?_
  cases oda <;> first | rfl | exact hfr
 show wpAny _ _ (storeInDict s.heap.objs.size (.str name tk) name v) _ _ _
 unfold storeInDict newKeyGuard
 refine J1 (K1 ?_)
 unfold nsSet
 refine J1 (J1 (J1 (wpAny_askSetting (K1 (J1 (wpAny_mkText (J1 (wpAny_loadPart hgd ?_))))))))
 dsimp only
 rw[aRefKeyMayBeTheName_at]
 rw[if_neg (by simp)]
 refine wpAny_updatePart hgd ?_
 have e0:Obj.putName name (PyData.keyHash w.params name) (.str name s.toks) v { cls:=.type "dict",data:=.dict #[]}=dictOf [⟨PyData.keyHash w.params name,.str name s.toks,v⟩] 1:=putName_dict name _ _ _ [] 0
 have D':=Heap.get?_update_self (Obj.putName name (PyData.keyHash w.params name) (.str name s.toks) v) hgd (by rw[e0];rfl)
 refine J1 (wpAny_lookBehind D' (by rw[e0];exact pastItsLine_dict (by rw[J9];show 1≤16777216+1;lia)) ?_)
 refine K1 (h _ (fun b o hb e=>?_) ?_ (D'.trans (congrArg some e0)))
 ·have hbs:s.heap.objs.size≠b:=W5 (Heap.lt_size e)
  exact(W4 _ _ hbs).trans ((W4 _ _ (Ne.symm hb)).trans (K3 _ e))
 exact(W4 _ _ hxs.symm).trans hxu
end
end
section
open PySem.Builtin.ObjectAttr PySem.Builtin
section
variable {prog:Program}{w:World}{A:Around}{E:Value→Shared→Prop}{s:Shared}{K:Frag}{x C:Addr}{ox:Obj}{od:Option Obj}{name:Str}{expr:Bool}{Q:Value→Shared→Prop}
theorem GB{v:Value}(X:K.In s.heap)(I:InstAt s.heap x ox C od)(hga:findIn K (.ref C) "__getattribute__" = some (some (.builtin "BaseException.__getattribute__")))(hgg:findIn K (.ref C) "__getattr__" = some none)
  (hb:mroIn K C (.type "BaseException")=some true) (hf:findObj K C od name=some (.value v)) (hh:handedIn v=true) (h:Q v { s with toks:=s.toks+1}):wpAny (model prog w) A (getAttr (.ref x) name expr) Q E s:=by
 obtain⟨hh',g,d,t,os⟩:=s
 have L0:=I.type (M:=model prog w)
 have L1:=looks_findIn (M:=model prog w) X hga
 have L2:=looks_findIn (M:=model prog w) X hgg
 have L3:=looks_find (M:=model prog w) X I hf
 unfold getAttr getAttrBy
 refine J1 (wpAny_mkText (wpAny_holding (J1 (L0.at (J1 (L1.at ?_))))))
 show wpAny _ _ (getAttrByItsOwn _ _ _ _ _ _) _ _ _
 unfold getAttrByItsOwn
 refine J1 (L2.at ?_)
 refine J1 (wpAny_attempt (wpAny_holding ?_))
 unfold callGetattribute
 rw[if_neg (by cases expr <;> simp[onTheHeap])]
 have SF:=PySem.F.attrBase_Exception.ga
 unfold boundAndCalled
 rw[SF.bind]
 refine J1 (K1 (wpAny_call ?_))
 have sub:Looks (model prog w) hh' (isInstance (.ref x) (.type "BaseException")) true:=I.type.andThen (looks_mroIn X hb)
 refine codeAny_call_builtin SF.plain F.entry_bexc_ga (@check_slot (model prog w) _ _ _ "BaseException.__getattribute__" "BaseException" "__getattribute__" (.ref x) [.str name t] [] _ (by decide +kernel) (by decide +kernel) sub (F.args_bexc_ga (.ref x) (.str name t)) ?_)
 show wpAny _ _ (typeOf (.ref x) >>= fun tp=>find (.ref x) tp name >>= _) _ _ _
 refine J1 (L0.at (J1 (L3.at ?_)))
 refine K1 ?_
 show wpAny _ _ (handedOut v) _ _ _
 rw[handedOut_of hh];exact K1 h
noncomputable def iG(K:Frag)(C:Addr)(name:Str):Bool:=findIn K (.ref C) "__getattribute__" == some (some (.builtin "BaseException.__getattribute__")) && findIn K (.ref C) "__getattr__" == some none && mroIn K C (.type "BaseException")==some true && hasDictIn K C && findIn K (.ref C) name==some none
theorem AG{v:Value}{es:List DictEntry}{n:Nat}(X:K.In s.heap)(I:InstAt s.heap x ox C (some (dictOf es n)))(hC:iG K C name=true)(hl:getL name es=some (some v))(hh:handedIn v=true)(h:Q v { s with toks:=s.toks+1}):wpAny (model prog w) A (getAttr (.ref x) name expr) Q E s:=by
 unfold iG at hC
 simp only[V2,beq_iff_eq] at hC
 obtain⟨⟨⟨⟨h1,h2⟩,h3⟩,h4⟩,h5⟩:=hC
 exact GB X I h1 h2 h3 (findObj_own h4 h5 rfl hl) hh h
end
end
section
open PySem.Builtin.ObjectAttr PySem.Builtin
section
variable {prog:Program}{w:World}{A:Around}{R:Result→Shared→Prop}{s:Shared}{K:Frag}{x C:Addr}{refs:List Addr}
set_option tactic.hygienic true in
theorem xI{ox:Obj}{dx:Addr}{name:Str}{tk:Tok}{v:Value}{es:List DictEntry}{n:Nat}(X:K.In s.heap)
  (I:InstAt s.heap x ox C (some (dictOf es n))) (hd:ox.dict=some dx) (hp:mF K C refs=true) (ht:takerIn K C name=some none) (hh:(clsIn K C).any (·.hasDict)=true)
  (hl:(getL name es).isSome=true) (hz:(putL name (PyData.keyHash w.params name) (.str name s.toks) v es).length≤1000)
  (h:∀ h':Heap,(∀ b o,b≠dx→s.heap.get? b=some o→h'.get? b=some o)→
   h'.get? dx=some (dictOf (putL name (PyData.keyHash w.params name) (.str name s.toks) v es) (putN name es n))→R (.ok (.ret .none)) { s with heap:=h',toks:=s.toks+1}) :
  codeAny (model prog w) A (.call (.builtin "object.__setattr__") ⟨[.ref x,.str name tk,v],[]⟩) R s:=by
 refine qe X I hp ht fun b=>?_
 obtain⟨cd,hc,hd'⟩:=any_some hh
 obtain⟨hx,hcl,hn,hdi⟩:=I
 obtain⟨oc,odi,oda,osl⟩:=ox
 dsimp only at hcl hd hdi
 subst hcl hd
 have D:s.heap.get? dx=some (dictOf es n):=hdi
 refine J1 (K1 (J1 (J1 (wpAny_loadPart hx (J1 ((looks_clsIn X hc).here ?_))))))
 rw[hd']
 refine K1 (a:=some dx) (J1 (K1 (J1 ?_)))
 unfold nsSet
 refine J1 (J1 (wpAny_askSetting (K1 (J1 (wpAny_mkText (J1 (wpAny_loadPart D ?_)))))))
 dsimp only
 have c:(!es.toArray.any (·.key.isStr name) && es.toArray.any (·.refKey))=false:=by
  rw[←Array.any_toList,← Array.any_toList]
  unfold PySem.W.getL at hl
  split at hl
  ·rename_i en he
   rw[List.any_eq_true.mpr ⟨en,List.mem_of_find?_eq_some he,List.find?_some he⟩];rfl
  split at hl
  ·cases hl
  rename_i z;rw[Bool.not_eq_true] at z;rw[z,Bool.and_false]
 rw[aRefKeyMayBeTheName_at,c]
 refine wpAny_updatePart D ?_
 have e0:Obj.putName name (PyData.keyHash w.params name) (.str name s.toks) v (dictOf es n)=dictOf (putL name (PyData.keyHash w.params name) (.str name s.toks) v es) (putN name es n):=putName_dict name _ _ _ es n
 have D':=Heap.get?_update_self (Obj.putName name (PyData.keyHash w.params name) (.str name s.toks) v) D (by rw[e0];rfl)
 refine J1 (wpAny_lookBehind D' (by rw[e0];exact pastItsLine_dict (by rw[Q2,J9];lia)) ?_)
 exact K1 (h _ (fun b o hb e=>(W4 _ _ (Ne.symm hb)).trans e) (D'.trans (congrArg some e0)))
end
section
variable {G:cq}{dd:Nat}{fn:bW}{ls ls' ls'':List (Str×V)}{H H' H₁ H₂ H₃:List O}{v a b f ov iv:V}{vs first xs ys:List V}{d₁:Nat}{c:Cx}{ρ ρ':List Addr}{s:Shared}
set_option tactic.hygienic true in
theorem aY.relabel{i:Nat}{x y:O}(R:aY c ls ρ H s)(hi:H[i]?=some x)(h:∀ ob a,ρ[i]?=some a→s.heap.get? a=some ob→OR c.w.params ρ x ob→OR c.w.params ρ y ob):aY c ls ρ (H.set i y) s:=by
 obtain⟨m,fr,os,W⟩:=R
 obtain⟨ob,ho,hr⟩:=W.hos.get hi
 have hlt:i<ρ.length:=by
  have h1:=W.hos.len
  have h2:=W.len
  have h3:=(J4.mp hi).1
  lia
 obtain⟨ob',_,hm,hr',hg⟩:=W.mem (Y1 hlt) hi
 have e:ob'=ob:=by
  rename_i ho'
  rw[ho] at ho';exact(Option.some.inj ho').symm
 subst e
 have h4:=W.hos.set (i:=i) (h _ _ (Y1 hlt) hg hr)
 have h5:os.set i ob'=os:=by
  apply List.ext_getElem?
  intro j
  by_cases hj:i=j
  ·subst hj;rw[Q8 (J4.mp ho).1,ho]
  rw[V5 hj]
 rw[h5] at h4
 exact⟨m,fr,os,W.gens,W.drawn,W.sos,W.F,W.N,W.sls,W.sfr,h4,W.len,W.nd,W.cs,W.pn⟩
noncomputable def fD(K:Frag)(C:Addr)(refs:List Addr)(x:Str):Bool:=findIn K (.ref C) "__setattr__" == some (some (.builtin "object.__setattr__")) && mF K C refs && takerIn K C x==some none && hasDictIn K C
theorem OR.excInst{P:Params}{C:Addr}{ob:Obj}{d:Option Nat}(h:OR P ρ (.exc C d) ob):∃ vs od,ob=⟨.ref C,od,.fields vs,#[]⟩∧(6≤vs.size∧(∃ t0,vs[0]?=some (.ref t0))∧vs[1]?=some .none):=by
 obtain⟨⟨vs,h1,h2⟩,h3,h4,_⟩:=h
 obtain⟨a,b,d,e⟩:=ob
 dsimp only at h1 h3 h4
 subst h1 h3 h4
 exact⟨vs,b,rfl,h2⟩
theorem xA{i:Nat}{C:Addr}{x:Str}{o' v':Value}{refs:List Addr}{Q:Unit→Shared→Prop}{E:Value→Shared→Prop}(ok:c.Ok G dd)(R:aY c ls ρ H s)(ro:VR ρ (.obj i) o')(rv:VR ρ v v')
  (hi:H[i]?=some (.exc C none)) (hC:∀ P,fD (G.K P) C refs x=true)
  (hQ:∀ ρ' s',ρ <+: ρ'→aY c ls ρ' (H.set i (.exc C (some H.length))++[O.dict [(x,v)]]) s'→Q () s'):wpAny (model G.prog c.w) c.A (setAttr o' x v') Q E s:=by
 obtain⟨a,ha,rfl⟩:=ro
 have hX:=R.inK ok
 have hlen:=R.hlen
 obtain⟨m,fr,os,W⟩:=R
 obtain⟨ob,hob,hm,hr,hg⟩:=W.mem ha hi
 obtain⟨ws,od,rfl,h6⟩:=hr.excInst
 have hod:od=none:=hr.2.2.2
 subst hod
 have h1:=hC c.w.params
 unfold fD at h1
 simp only[V2,beq_iff_eq] at h1
 obtain⟨⟨⟨k1,k2⟩,k3⟩,k4⟩:=h1
 have I:InstAt s.heap a ⟨.ref C,none,.fields ws,#[]⟩ C none:=⟨hg,rfl,rfl,trivial⟩
 refine set_plain hX I k1 (zR (s:={ s with toks:=s.toks+1}) hX I k2 k3 k4 (fun _ e=>by cases e) fun h' hk hx hd=>?_)
 have hlt:i<H.length:=(J4.mp hi).1
 have W1:=W.setAtW (t:=s.toks+2) (x:=.raw ⟨.ref C,some s.heap.objs.size,.fields ws,#[]⟩) ha hlt hk hx rfl
 have hnew:∀ p∈(fr++c.kp)++ρ.zip (os.set i ⟨.ref C,some s.heap.objs.size,.fields ws,#[]⟩),p.1<s.heap.objs.size:=fun p hp=>by
  have hmem:p.1∈(fr++c.kp).map (·.1)++ρ:=by
   rcases Q1.mp hp with hp | hp
   ·exact V4 _ (Q9 hp)
   exact Q7 _ (List.of_mem_zip (a:=p.1) (b:=p.2) hp).1
  obtain⟨o,ho⟩:=W.old hmem
  exact Heap.lt_size ho
 have N1:News c.base c.L h' ((s.heap.objs.size,dictOf [⟨PyData.keyHash c.w.params x,.str x (s.toks+1),v'⟩] 1)::((fr++c.kp)++ρ.zip (os.set i ⟨.ref C,some s.heap.objs.size,.fields ws,#[]⟩))):=fun p hp=>by
  rcases K2.mp hp with rfl | hp
  ·exact⟨hd,W5 W.F.ns.lt,next_is_new W.F⟩
  exact W1.N p hp
 have R2:=W1.alloc (t:=s.toks+2) (x:=.dict [(x,v)]) W1.F N1 hnew ⟨[⟨PyData.keyHash c.w.params x,.str x (s.toks+1),v'⟩],1,rfl,⟨rfl,⟨_,rfl⟩,rv⟩,trivial⟩
 have hset:(H.set i (O.raw ⟨.ref C,some s.heap.objs.size,.fields ws,#[]⟩)++[O.dict [(x,v)]])[i]?=some (.raw ⟨.ref C,some s.heap.objs.size,.fields ws,#[]⟩):=by
  rw[Q0 (by rw[List.length_set];exact hlt),Q8 hlt]
 have R3:=R2.relabel (y:=.exc C (some H.length)) hset (fun ob2 a2 _ _ e=>by
  have e':ob2=⟨.ref C,some s.heap.objs.size,.fields ws,#[]⟩:=e
  subst e'
  exact⟨⟨ws,rfl,h6⟩,rfl,rfl,s.heap.objs.size,by rw[hlen];simp,rfl⟩)
 have e2:(H.set i (O.raw ⟨.ref C,some s.heap.objs.size,.fields ws,#[]⟩)++[O.dict [(x,v)]]).set i (.exc C (some H.length))=H.set i (O.exc C (some H.length))++[O.dict [(x,v)]]:=by
  rw[List.set_append_left (h:=by rw[List.length_set];exact hlt),List.set_set]
 rw[e2] at R3
 exact hQ _ _ (K4 _ _) R3
end
end
open Sem (wp)
section
variable {M:Model}{prog:Program}{w:World}{A:Around}{E:Value→Shared→Prop}{h:Heap}{g:Array GenState}{d:Drawn}{t:Nat}{os:OsState}{R:Result→Shared→Prop}
variable {nm q:Str}{C N:Addr}{bs bm:List Value}{hdct:Bool}{sn:List Str}{sub:List Value}{ab:Bool}{col:Option Bool}{dd:Option Addr}{k0 k1 k2 k3 k5:Option Value}
structure eV(bm:List Value):Prop where
 b:bm.contains (.type "Exception")=true
 a:bm.contains (.type "AttributeError")=false
 n:bm.contains (.type "NameError")=false
theorem rL{rest:List Value}{Q:Unit→Shared→Prop}(Rw:eV bm)(hC:h.get? C=some (excClassObj nm q C N bs bm hdct sn sub ab col dd k0 k1 k2 k3 k5 "Exception.__new__"))
  (hq:Q () ⟨h,g,d,t,os⟩):wpAny M A (checkBuiltinCall "Exception.__new__" ⟨.ref C::rest,[]⟩) Q E ⟨h,g,d,t,os⟩:=by
 have F:=PySem.F.excBase_Exception
 have hcont:(Value.ref C::bm).contains (.type "Exception")=true:=by rw[List.contains_cons,Rw.b,Bool.or_true]
 have hstar:=F.noStar
 simp only[checkBuiltinCall,F.newKind,F.newSplit,F.newRow]
 repeat (first | refine wpAny_loadPart_at hC ?_ | (refine wpAny_isSubtype_exc hC ?_;rw[hcont]) | refine wpAny_staticBase_exc hC ?_ | refine wpAny_madeBy_exc hC ?_ | simp only[bne_self_eq_false,Bool.false_eq_true,if_false] | wp_step)
 exact hq
theorem D0{rest:List Value}(Rw:eV bm)(hC:h.get? C=some (excClassObj nm q C N bs bm hdct sn sub ab col dd k0 k1 k2 k3 k5 "Exception.__new__"))
  (hq:R (.ok (.ret (.ref (h.objs.size+1)))) ⟨(h.push { cls:=.type "tuple",data:=.seq rest.toArray}).push
   { cls:=.ref C,data:=.fields #[.ref h.objs.size,.none,.none,.none,.bool false,.none]},g,d,t,os⟩) (hrest:rest.length≤J5:=by size_fits) :
  codeAny (model prog w) A (.builtin "Exception.__new__" ⟨.ref C::rest,[]⟩) R ⟨h,g,d,t,os⟩:=by
 have F:=PySem.F.excBase_Exception
 have hends:=F.ends
 have hcB:(Value.ref C::bm).contains (.type "Exception")=true:=by rw[List.contains_cons,Rw.b,Bool.or_true]
 have hcA:(Value.ref C::bm).contains (.type "AttributeError")=false:=by rw[List.contains_cons,Rw.a];rfl
 have hcN:(Value.ref C::bm).contains (.type "NameError")=false:=by rw[List.contains_cons,Rw.n];rfl
 refine codeAny_builtinAt F.entry ?_
 unfold Builtin.«BaseException.__new__»
 refine PySem.wpAt_bind ?_
 show PySem.wpAt _ _ _ (stack >>= _) _ _ _
 refine PySem.wpAt_bind (PySem.wpAt_stack fun p below=>PySem.wpAt_of_wpAny ?_)
 wp_walk
 refine PySem.wpAt_of_wpAny ?_
 rw[F.owner]
 repeat (first | with_reducible refine wpAny_madeHere_exc F.canon hC ?_ | with_reducible refine wpAny_loadPart_at hC ?_ | (with_reducible refine wpAny_isSubtype_exc hC ?_;first | rw[hcB] | rw[hcA] | rw[hcN]) | wp_step)
 show R _ _
 rw[Heap.size_push]
 exact hq
theorem rK{K:W.Frag}{rest:List Value}{fI:Addr}{Q:Fin→Shared→Prop}(X:K.In h)(Rw:eV bm)
  (hC:h.get? C=some (excClassObj nm q C N bs bm hdct sn sub ab col dd k0 k1 k2 k3 k5 "Exception.__new__")) (hi:W.findIn K (.ref C) "__init__" = some (some (.ref fI))) (hf:W.typeIn K (.ref fI)=some (.type "function"))
  (hq:∀ h' e,Heap.MadeExcOf h h' e (.ref C) rest→
   wpAny (model prog w) A (call (.ref fI) (.ref e::rest)) (fun r s'=>r=.none∧Q (.done (.ret (.ref e))) s') E ⟨h',g,d,t,os⟩) (hrest:rest.length≤J5:=by size_fits) :
  wpAny (model prog w) A (Builtin.«type.__call__» ⟨.ref C::rest,[]⟩) Q E ⟨h,g,d,t,os⟩:=by
 have F:=PySem.F.excBase_Exception
 repeat (first | with_reducible refine wpAny_loadPart_at hC ?_ | with_reducible refine wpAny_madeBy_exc hC ?_ | wp_step)
 refine codeAny_call_builtin_code (Code.quiet_builtin _ F.quiet) (rL Rw hC ?_)
 refine D0 Rw hC ?_ hrest
 show wpAny _ _ _ _ _ _
 have hC₁:=K3 { cls:=.ref C,data:=.fields #[.ref h.objs.size,.none,.none,.none,.bool false,.none]}
  (K3 { cls:=.type "tuple",data:=.seq rest.toArray} hC)
 have X₁:K.In ((h.push { cls:=.type "tuple",data:=.seq rest.toArray}).push { cls:=.ref C,data:=.fields #[.ref h.objs.size,.none,.none,.none,.bool false,.none]}):=
  X.keeps fun b o e=>K3 _ (K3 _ e)
 have hget:((h.push { cls:=.type "tuple",data:=.seq rest.toArray}).push
   { cls:=.ref C,data:=.fields #[.ref h.objs.size,.none,.none,.none,.bool false,.none]}).get? (h.objs.size+1)=some
   { cls:=.ref C,data:=.fields #[.ref h.objs.size,.none,.none,.none,.bool false,.none]}:=by heap_get
 have hcC:(Value.ref C::bm).contains (.ref C)=true:=by simp
 unfold isInstance
 repeat (first | with_reducible refine wpAny_loadPart_at hget ?_ | (with_reducible refine wpAny_isSubtype_exc hC₁ ?_;rw[hcC]) | wp_step)
 show wpAny _ _ (typeLookup (.ref C) _) _ _ _
 refine(W.looks_findIn X₁ hi).at ?_
 refine wpAny_holding (J1 ((W.bind_fn X₁ _ hf).at ?_))
 refine J1 (wpAny_mono (hq _ (h.objs.size+1) ⟨fun b o hb=>K3 _ (K3 _ hb),V3 (Nat.le_succ _),h.objs.size,hget,V3 (Nat.le_refl _),?_⟩) (fun r s' hr=>?_) fun _ _ e=>e)
 ·exact K3 _ (Heap.get?_push_at rfl rfl)
 obtain⟨rfl,hQ⟩:=hr
 wp_walk
 exact hQ
theorem Ca{K:W.Frag}{rest:List Value}{fI:Addr}{Q:Value→Shared→Prop}(X:K.In h)(Rw:eV bm)
  (hC:h.get? C=some (excClassObj nm q C N bs bm hdct sn sub ab col dd k0 k1 k2 k3 k5 "Exception.__new__")) (hi:W.findIn K (.ref C) "__init__" = some (some (.ref fI))) (hf:W.typeIn K (.ref fI)=some (.type "function"))
  (hq:∀ h' e,Heap.MadeExcOf h h' e (.ref C) rest→
   wpAny (model prog w) (A.under (.builtin "type.__call__" ⟨.ref C::rest,[]⟩)) (call (.ref fI) (.ref e::rest)) (fun r s'=>r=.none∧Q (.ref e) s') E ⟨h',g,d,t,os⟩) (hrest:rest.length≤J5:=by size_fits) :
  wpAny (model prog w) A (call (.ref C) rest) Q E ⟨h,g,d,t,os⟩:=by
 have f1:=tc_lookup
 have f2:=tc_bind (.ref C)
 have hT:(⟨h,g,d,t,os⟩:Shared).TypeIs (.ref C) "type":=⟨_,hC,rfl⟩
 refine wpAny_call (codeAny_of_tree ?_)
 show wpAny _ _ (callAny (.ref C) _) _ _ _
 repeat (any_goals (first | assumption | with_reducible refine wpAny_loadPart_at hC ?_ | wp_step))
 refine⟨rfl,?_⟩
 refine codeAny_call_builtin_at (Code.quiet_builtin _ (by decide +kernel)) entry_typeCall (wpAny_check_type_call_sub hC (rK (hrest:=hrest) X Rw hC hi hf fun h' e hm=>?_))
 exact hq h' e hm
end
theorem jN{h base:Heap}:∀ {l:List Env} {fr:List (Addr×Obj)},Frs l fr→(∀ p∈fr,base.get? p.1=none∧h.get? p.1=some p.2)→h.FunFrames base l
 | [],[],_,_=>trivial
 | env::l,p::fr,⟨h1,h2,⟨es,ep,h3⟩,h4⟩,hp=>⟨h1,⟨p.1,p.2,h2,(hp p (.head _)).1,(hp p (.head _)).2,fun vs e=>by rw[h3] at e;cases e⟩,jN h4 fun q hq=>hp q (.tail _ hq)⟩
 | [],_::_,h,_=>h.elim
 | _::_,[],h,_=>h.elim
theorem SameUp.fst:∀ {a b:List (Addr×Obj)},SameUp a b→b.map (·.1)=a.map (·.1)
 | [],[],_=>rfl
 | p::a,q::b,⟨h1,_,h3⟩=>by rw[List.map_cons,List.map_cons,h1,SameUp.fst h3]
 | [],_::_,h=>h.elim
 | _::_,[],h=>h.elim
section
variable {G:cq}{dd:Nat}{fn:bW}{ls ls' ls'':List (Str×V)}{H H' H₁ H₂ H₃:List O}{c:Cx}{ρ ρ':List Addr}{s:Shared}{m:Str→Option Value}{fr:List (Addr×Obj)}{os:List Obj}
theorem co.slots(W:co c ls ρ H m fr os s){h₁:Heap}(hs:Heap.SlotsOnly (c.L::fr.map (·.1)) s.heap h₁):∃ fr',fr'.map (·.1)=fr.map (·.1)∧co c ls ρ H m fr' os { s with heap:=h₁}:=by
 obtain⟨fr',u1,u2⟩:=sameUp_of (h':=h₁) (frs:=fr) fun p hp=>hs.2.2 _ _ (W.N p (by simp[hp])).1
 have hf:=SameUp.fst u1
 have nd:=List.nodup_append.mp W.nd
 have nd2:(fr.map (·.1)++c.kp.map (·.1)).Nodup:=by rw[←V0];exact nd.1
 have nd3:=List.nodup_append.mp nd2
 refine⟨fr',hf,W.gens,W.drawn,W.sos,⟨?_,fun b o e=>?_,W.F.above⟩,fun p hp=>?_,W.sls,W.sfr.trans u1,W.hos,W.len,?_,W.cs,W.pn⟩
 ·obtain⟨oL,es,ep,e1,e2,e3⟩:=W.F.ns
  obtain⟨sl,e⟩:=hs.2.2 _ _ e1
  exact⟨_,es,ep,e,e2,e3⟩
 ·refine(hs.2.1 b fun hb=>?_).trans (W.F.keep b o e)
  rcases K2.mp hb with rfl | hb
  ·rw[V3 W.F.above] at e;cases e
  obtain⟨p,hp,rfl⟩:=V9.mp hb
  rw[(W.N p (by simp[hp])).2.2] at e;cases e
 ·simp only[Q1] at hp
  have off:∀ q∈(fr++c.kp)++ρ.zip os,q.1∉c.L::fr.map (·.1)→h₁.get? q.1=some q.2∧q.1≠c.L∧c.base.get? q.1=none:=fun q hq hn=>⟨(hs.2.1 _ hn).trans (W.N q hq).1,(W.N q hq).2⟩
  rcases hp with(hp | hp) | hp
  ·have:p.1∈fr.map (·.1):=by rw[←hf];exact Q9 hp
   obtain⟨q,hq,e⟩:=V9.mp this
   have h1:=W.N q (by simp[hq])
   exact⟨u2 p hp,by rw[←e];exact h1.2.1,by rw[←e];exact h1.2.2⟩
  ·have h1:=W.N p (by simp[hp])
   refine off p (by simp[hp]) fun hm=>?_
   rcases K2.mp hm with e | hm
   ·exact h1.2.1 e
   exact nd3.2.2 p.1 hm p.1 (Q9 hp) rfl
  have h1:=W.N p (by simp[hp])
  refine off p (by simp[hp]) fun hm=>?_
  rcases K2.mp hm with e | hm
  ·exact h1.2.1 e
  refine nd.2.2 p.1 ?_ p.1 (List.of_mem_zip (a:=p.1) (b:=p.2) hp).1 rfl
  rw[V0];exact V4 _ hm
 rw[V0,hf,← V0];exact W.nd
theorem yZ(hm:c.cm=none):c.env=c.own:=by unfold Cx.env;rw[hm]
theorem wt(hm:c.cm=none):c.fenv=c.own:=by unfold Cx.fenv;rw[hm]
theorem wr(hm:c.cm=none):c.outs=c.outer:=by unfold Cx.outs;rw[hm]
theorem co.frames(W:co c ls ρ H m fr os s)(ok:c.Ok G dd)(hm:c.cm=none):s.heap.FunFrames c.base (c.own::c.outer)∧(c.own::c.outer).filterMap (·.frame)=c.L::fr.map (·.1):=by
 have h1:=ok.frs
 rw[wr hm] at h1
 have h2:=h1.up W.sfr
 obtain⟨oL,es,ep,e1,e2,e3⟩:=W.F.ns
 refine⟨⟨?_,⟨c.L,oL,rfl,V3 W.F.above,e1,fun vs e=>by rw[e2] at e;cases e⟩,jN h2 fun p hp=>⟨(W.N p (by simp[hp])).2.2,(W.N p (by simp[hp])).1⟩⟩,?_⟩
 ·show c.fn.sc.kind≠.module
  rw[ok.hk];decide
 show c.L::c.outer.filterMap (·.frame)=_
 rw[h2.addrs]
theorem co.fresh(W:co c ls ρ H m fr os s){a:Addr}(ha:s.heap.get? a=none):a∉(fr++c.kp).map (·.1)++ρ:=fun h=>by
 obtain⟨o,e⟩:=W.old h
 rw[ha] at e;cases e
theorem wT{i:Nat}{e:Addr}{C:Addr}{d:Option Nat}{ob:Obj}{vs:Array Value}{head:Value}{hadNext:Bool}{Q:Unit→Shared→Prop}{E:Value→Shared→Prop}(ok:c.Ok G dd)(hm:c.cm=none)(W:co c ls ρ H m fr os s)(ha:ρ[i]?=some e)
  (hi:i<H.length) (he:s.heap.get? e=some ob) (hd:ob.data=.fields vs) (h6:6≤vs.size) (hx:∀ ob' vs',ob'.cls=ob.cls→ob'.dict=ob.dict→ob'.slots=ob.slots→ob'.data=.fields vs'→6≤vs'.size→OR c.w.params ρ (.excT C d) ob')
  (hQ:∀ h' T oT ts oe vs',aC c [T] ls ρ (H.set i (.excT C d)) { s with heap:=h'}→h'.get? e=some oe→oe.data=.fields vs'→vs'[1]?=some (.ref T)→h'.get? T=some oT→oT.data=.fields ts→ts[3]?=some (rawInt c.L)→Q () { s with heap:=h'}) :
  wpAny (model G.prog c.w) c.A (do let a←frameOf c.own;let pl←entryPlaceOf c.L hadNext;let b←EntryCells.newEntry head a .none (rawInt c.L) .none pl;setField (.ref e) 1 b) Q E s:=by
 obtain⟨hl,hfs⟩:=W.frames ok hm
 have hfr:c.A.frames=some (c.own::c.outer):=by have:=ok.frames;rw[wt hm] at this;exact this
 refine J1 (wpAny_frameOf_fun hfr hl rfl fun h₁ hs₁=>?_)
 rw[hfs] at hs₁
 obtain⟨fr',hf',W₁⟩:=W.slots hs₁
 refine J1 (wpAny_entryPlaceOf fun pl hpl=>?_)
 unfold EntryCells.newEntry newFields
 refine J1 (wpAny_newObj_type ?_ (hpl.sizeOk5 _ _ _ _ _))
 have hmem:e∉c.L::fr.map (·.1):=fun hmm=>by
  have nd:=List.nodup_append.mp W.nd
  have he':e∈ρ:=V8 ha
  rcases K2.mp hmm with q | hmm
  ·obtain⟨o,ho⟩:=lj W.len he'
   exact(W.N _ (Q7 _ ho)).2.1 q
  exact nd.2.2 e (by rw[V0];exact V4 _ hmm) e he' rfl
 have he₁:h₁.get? e=some ob:=(hs₁.2.1 e hmem).trans he
 have he₂:=K3 (h:=h₁) { cls:=.type "traceback",dict:=none,data:=.fields ([head,.ref c.L,.none,rawInt c.L,.none]++(if pl.isEmpty then List.replicate 6 Value.none else pl)).toArray} he₁
 refine wpAny_setField he₂ hd (by lia) ?_
 have hTe:h₁.objs.size≠e:=W5 (Heap.lt_size he₁)
 have hd₃:=Obj.data_mapFields hd (·.setIfInBounds 1 (Value.ref h₁.objs.size))
 have he₃:=Heap.get?_update_self (Obj.mapFields (·.setIfInBounds 1 (Value.ref h₁.objs.size))) he₂ (Obj.isFreed_of_fields hd₃)
 have hT₃:=(W4 (h₁.push { cls:=.type "traceback",dict:=none,data:=.fields ([head,.ref c.L,.none,rawInt c.L,.none]++(if pl.isEmpty then List.replicate 6 Value.none else pl)).toArray})
  (Obj.mapFields (·.setIfInBounds 1 (Value.ref h₁.objs.size))) (Ne.symm hTe)).trans (Q5 h₁ rfl)
 have keep:∀ b o,b≠e→h₁.get? b=some o→
   ((h₁.push { cls:=.type "traceback",dict:=none,data:=.fields ([head,.ref c.L,.none,rawInt c.L,.none]++(if pl.isEmpty then List.replicate 6 Value.none else pl)).toArray}).update e (Obj.mapFields (·.setIfInBounds 1 (Value.ref h₁.objs.size)))).get? b=some o:=
  fun b o hbe hb=>by
   rw[W4 _ _ (Ne.symm hbe)]
   exact K3 _ hb
 have c1:(Obj.mapFields (·.setIfInBounds 1 (Value.ref h₁.objs.size)) ob).cls=ob.cls:=Obj.cls_mapFields _ _
 have c2:(Obj.mapFields (·.setIfInBounds 1 (Value.ref h₁.objs.size)) ob).dict=ob.dict:=by unfold Obj.mapFields;split <;> rfl
 have c3:(Obj.mapFields (·.setIfInBounds 1 (Value.ref h₁.objs.size)) ob).slots=ob.slots:=by unfold Obj.mapFields;split <;> rfl
 have W₂:=W₁.setAtW (t:=s.toks) ha hi keep he₃ (hx _ _ c1 c2 c3 hd₃ (by show 6≤(vs.setIfInBounds 1 _).size;rw[Array.size_setIfInBounds];exact h6))
 refine hQ _ h₁.objs.size _ _ _ _ ⟨m,fr',_,W₂,List.Pairwise.cons (fun _ h=>nomatch h) .nil,fun b hb=>?_⟩ he₃ hd₃ (by rw[Array.getElem?_setIfInBounds_self_of_lt (by lia)]) hT₃ rfl (by first | (simp;done) | (rcases hpl with rfl | ⟨_,_,_,_,_,_,_,rfl⟩ <;> simp))
 rw[J6.mp hb]
 refine⟨W5 W₁.F.ns.lt,next_is_new W₁.F,W₁.fresh (eX h₁)⟩
end
noncomputable def FI(c:Cx)(ls:List (Str×V))(ρ:List Addr)(H:List O)(i:Nat)(a:Addr)(s:Shared):Prop:=
 ρ[i]?=some a∧(∃ C d,H[i]?=some (.excT C d))∧∃ oe vs T oT ts,aC c [T] ls ρ H s∧s.heap.get? a=some oe∧oe.data=.fields vs∧vs[1]?=some (.ref T)∧s.heap.get? T=some oT∧oT.data=.fields ts∧ts[3]?=some (rawInt c.L)
section
variable {G:cq}{dd:Nat}{fn:bW}{ls ls' ls'':List (Str×V)}{H H' H₁ H₂ H₃:List O}{c:Cx}{ρ ρ':List Addr}{s:Shared}{m:Str→Option Value}{fr:List (Addr×Obj)}{os:List Obj}
theorem bP{α:Type}{l:List α}{i:Nat}{x:α}(h:l[i]?=some x):l.set i x=l:=by
 apply List.ext_getElem?
 intro j
 by_cases hj:i=j
 ·subst hj;rw[Q8 (J4.mp h).1,h]
 rw[V5 hj]
theorem Ba{P:Params}{C:Addr}{d:Option Nat}{ob ob':Obj}{vs':Array Value}(h:OR P ρ (.exc C d) ob∨OR P ρ (.excT C d) ob)(h1:ob'.cls=ob.cls)(h2:ob'.dict=ob.dict)(h3:ob'.slots=ob.slots)(h4:ob'.data=.fields vs')(h5:6≤vs'.size):OR P ρ (.excT C d) ob':=by
 cases d with
 | none=>rcases h with⟨_,a,b,c⟩ | ⟨_,a,b,c⟩ <;> exact⟨⟨vs',h4,h5⟩,h1.trans a,h3.trans b,h2.trans c⟩
 | some d=>rcases h with⟨_,a,b,x,e1,e2⟩ | ⟨_,a,b,x,e1,e2⟩ <;> exact⟨⟨vs',h4,h5⟩,h1.trans a,h3.trans b,x,e1,h2.trans e2⟩
theorem vj{i:Nat}{a C:Addr}{d:Option Nat}{Q:Unit→Shared→Prop}{E:Value→Shared→Prop}(ok:c.Ok G dd)(hm:c.cm=none)(R:kK c ls ρ H i a s)(hH:H[i]?=some (.exc C d)∨H[i]?=some (.excT C d))
  (hQ:∀ s',FI c ls ρ (H.set i (.excT C d)) i a s'→Q () s'):wpAny (model G.prog c.w) c.A (noteFrame (.ref a) c.env) Q E s:=by
 obtain⟨ha,hR⟩:=R
 rw[yZ hm]
 have hi:i<H.length:=by rcases hH with h | h <;> exact(J4.mp h).1
 have hset:(H.set i (.excT C d))[i]?=some (.excT C d):=Q8 hi
 unfold noteFrame
 show wpAny _ _ (do let head←field (.ref a) 1;_) _ _ _
 rcases hR with⟨⟨C',d',hE⟩,R⟩ | ⟨⟨C',d',hE⟩,oe,vs,T,oT,ts,hO,he,hd,h1,hT,hdT,h3⟩
 ·obtain⟨m,fr,os,W⟩:=R
  have hHe:H[i]?=some (.exc C d):=by rcases hH with h | h;exact h;rw[hE] at h;cases h
  obtain⟨ob,_,_,hr,he⟩:=W.mem ha hHe
  obtain⟨⟨vs,hd,h6,h0,h1⟩,_⟩:=id hr
  refine J1 (wpAny_field he hd h1 ?_)
  rw[if_neg (by decide)]
  refine wT (C:=C) (d:=d) ok hm W ha hi he hd h6 (fun ob' vs' a1 a2 a3 a4 a5=>Ba (.inl hr) a1 a2 a3 a4 a5) fun h' T oT ts oe vs' hO he' hd' h1' hT' hdT' h3'=>?_
  exact hQ _ ⟨ha,⟨C,d,hset⟩,oe,vs',T,oT,ts,hO,he',hd',h1',hT',hdT',h3'⟩
 have hHe:H[i]?=some (.excT C d):=by rcases hH with h | h;rw[hE] at h;cases h;exact h
 refine J1 (wpAny_field he hd h1 ?_)
 rw[if_pos (show(Value.ref T != Value.none)=true from by simp)]
 refine J1 (wpAny_field hT hdT h3 ?_)
 rw[if_neg (show ¬ ((Value.none==rawInt c.L)=true) from by simp[rawInt])]
 refine J1 (wpAny_setField hT hdT (Array.getElem?_eq_some_iff.mp h3).1 ?_)
 have other:∀ b,b≠T→(s.heap.update T (Obj.mapFields (·.setIfInBounds 3 Value.none))).get? b=s.heap.get? b:=fun b hb=>W4 _ _ (Ne.symm hb)
 have hO':=hO.but (t:=s.toks) (h:=s.heap.update T (Obj.mapFields (·.setIfInBounds 3 Value.none))) fun b o hb e=>(other b (by simpa using hb)).trans e
 obtain⟨m,fr,os,W,_,hT'⟩:=hO'
 obtain⟨ob,_,_,hr,hg⟩:=W.mem ha hHe
 have hTa:a≠T:=fun e=>(hT' T (.head _)).2.2 (e▸Q7 _ (V8 ha))
 have hoe:ob=oe:=by
  have:=(other a hTa).trans he
  rw[hg] at this;exact Option.some.inj this
 subst hoe
 obtain⟨⟨vs2,hd2,h6⟩,_⟩:=id hr
 refine wT (C:=C) (d:=d) ok hm W ha hi hg hd2 h6 (fun ob' vs' a1 a2 a3 a4 a5=>Ba (.inr hr) a1 a2 a3 a4 a5) fun h' T oT ts oe vs' hO he' hd' h1' hT' hdT' h3'=>?_
 exact hQ _ ⟨ha,⟨C,d,hset⟩,oe,vs',T,oT,ts,hO,he',hd',h1',hT',hdT',h3'⟩
theorem ou{i:Nat}{a:Addr}{Q:Unit→Shared→Prop}{E:Value→Shared→Prop}{M:Model}{A:Around}(R:FI c ls ρ H i a s)(hQ:∀ s',kK c ls ρ H i a s'→Q () s'):wpAny M A (setFlight (.ref a) none) Q E s:=by
 obtain⟨ha,hH,oe,vs,T,oT,ts,hO,he,hd,h1,hT,hdT,h3⟩:=R
 have hTa:a≠T:=by
  obtain⟨m,fr,os,W,_,hT'⟩:=hO
  exact fun e=>(hT' T (.head _)).2.2 (e▸Q7 _ (V8 ha))
 have hsz3:3<ts.size:=(Array.getElem?_eq_some_iff.mp h3).1
 have other:∀ b,b≠T→(s.heap.update T (Obj.mapFields (·.setIfInBounds 3 ((none:Option Addr).elim Value.none fun f=>rawInt f)))).get? b=s.heap.get? b:=fun b hb=>W4 _ _ (Ne.symm hb)
 unfold setFlight
 refine J1 (wpAny_field he hd h1 ?_)
 rw[if_pos (show(Value.ref T != Value.none)=true from by simp)]
 refine wpAny_setField hT hdT hsz3 (hQ _ ⟨ha,.inr ⟨hH,oe,vs,T,_,_,hO.but (t:=s.toks) fun b o hb e=>(other b (by simpa using hb)).trans e,(other a hTa).trans he,hd,h1,Heap.get?_update_self _ hT (Obj.isFreed_of_fields (Obj.data_mapFields hdT _)),Obj.data_mapFields hdT _,by simp[hsz3]⟩⟩)
theorem wK{i:Nat}{a C:Addr}{d:Option Nat}{Q:Unit→Shared→Prop}{E:Value→Shared→Prop}(ok:c.Ok G dd)(hm:c.cm=none)(R:kK c ls ρ H i a s)(hH:H[i]?=some (.exc C d)∨H[i]?=some (.excT C d))
  (hQ:∀ s',kK c ls ρ (H.set i (.excT C d)) i a s'→Q () s'):wpAny (model G.prog c.w) c.A (leaving c.env (.ref a)) Q E s:=by
 unfold leaving
 exact J1 (vj ok hm R hH fun s' R'=>ou R' hQ)
end
noncomputable def da(G:cq)(dd:Nat)(f:V)(args:List V)(H:List O)(i:Nat)(H':List O):Prop:=
 ∀ (c:Cx) (A:Around) (s:Shared) (ls:List (Str×V)) (ρ:List Addr) (f':Value) (vs:List Value) (R:Result→Shared→Prop),c.Ok G (dd+1)→c.cm=none→A.frames=some (c.fenv::c.outer)→A.handled=none→A.depth≤c.A₀.depth+2→A.units≤c.A₀.units+8→
  aY c ls ρ H s→VR ρ f f'→bq ρ args vs→(∀ ρ' s' a,ρ <+: ρ'→kK c ls ρ' H' i a s'→R (.error (.ref a)) s')→codeAny (model G.prog c.w) A (.call f' ⟨vs,[]⟩) R s
section
variable {G:cq}{dd:Nat}{fn:bW}{ls ls' ls'':List (Str×V)}{H H' H₁ H₂ H₃:List O}{v a b f:V}{vs first:List V}{d₁:Nat}{c:Cx}{ρ:List Addr}{s:Shared}{m:Str→Option Value}{fr:List (Addr×Obj)}{os:List Obj}
theorem da.cl{f:V}{args:List V}{i:Nat}(h:da G dd f args H i H'):DJ G dd f args H i H':=fun c s ls ρ f' vs Q E ok hm R rf ra hQ=>
 wpAny_call (h c c.A s ls ρ f' vs _ ok hm ok.frames ok.hh (by show c.A₀.depth+1≤_;lia) (by show c.A₀.units+3≤_;lia) R rf ra hQ)
theorem zL{oL:Obj}(k:pT c ls ρ m fr oL){A:Around}{L':Addr}{fn:bW}{cl:List (Str×Addr)}{ls':List (Str×V)}{ρ':List Addr}{s':Shared}{I:List Addr}(hm:c.cm=none)(hp:ρ <+: ρ')
  (R:aC (c.sub A fr oL L' fn cl) I ls' ρ' H' s'):aC c I ls ρ' H' s':=by
 obtain⟨m',fr',os',W,nd,hI⟩:=R
 have hs:SameUp (c.fr' fr oL) fr':=W.sfr
 obtain⟨fr₂,sl,e6,e7⟩:=oq hs
 have R1:aY c ls ρ' H' s':=fO k hp ⟨m',fr',os',W⟩
 have hfr':fr'=(c.L,{ oL with slots:=sl})::fr₂:=by rw[e7];unfold Cx.fr';rw[hm]
 have hkp:(c.sub A fr oL L' fn cl).kp=c.kp:=by show c.kp' oL=c.kp;unfold Cx.kp';rw[hm]
 obtain⟨⟨es,ep,e2,e3,e4⟩,ab,sls,sfr,cs⟩:=k
 rw[hkp] at hI
 have N:=W.N
 have ndw:=W.nd
 rw[hkp] at N ndw
 rw[hfr'] at N ndw
 have hq:=N (c.L,{ oL with slots:=sl}) (by simp)
 have ndw':(c.L::((fr₂++c.kp).map (·.1)++ρ')).Nodup:=ndw
 refine⟨m,fr₂,os',⟨W.gens,W.drawn,W.sos,⟨⟨_,es,ep,hq.1,e2,e3,e4⟩,W.F.keep,ab⟩,?_,sls.mono hp,sfr.trans e6,W.hos,W.len,(K9.mp ndw').2,fun x i hx=>let ⟨b,h1,h2⟩:=cs x i hx;⟨b,aH hp h1,h2⟩,W.pn⟩,nd,fun b hb=>?_⟩
 ·intro p hp
  have h3:=N p (by simp only[Q1,K2] at hp ⊢;grind)
  refine⟨h3.1,fun q=>?_,h3.2.2⟩
  refine(K9.mp ndw').1 ?_
  have e:(fr₂++c.kp).map (·.1)++ρ'=((fr₂++c.kp)++ρ'.zip os').map (·.1):=by rw[V0 (l₁:=fr₂++c.kp),eA W.len]
  rw[e,← q]
  exact Q9 hp
 have h1:=hI b hb
 rw[hfr'] at h1
 have h2:b∉c.L::((fr₂++c.kp).map (·.1)++ρ'):=h1.2.2
 exact⟨fun e=>h2 (by rw[e];exact .head _),h1.2.1,fun hm=>h2 (.tail _ hm)⟩
theorem s9{oL:Obj}(k:pT c ls ρ m fr oL){A:Around}{L':Addr}{fn:bW}{cl:List (Str×Addr)}{ls':List (Str×V)}{ρ':List Addr}{s':Shared}{i:Nat}{a:Addr}(hm:c.cm=none)(hp:ρ <+: ρ')
  (R:kK (c.sub A fr oL L' fn cl) ls' ρ' H' i a s'):kK c ls ρ' H' i a s':=by
 obtain⟨ha,hR⟩:=R
 refine⟨ha,?_⟩
 rcases hR with⟨hE,R⟩ | ⟨hE,oe,vs,T,oT,ts,hO,r⟩
 ·exact .inl ⟨hE,fO k hp R⟩
 exact .inr ⟨hE,oe,vs,T,oT,ts,zL k hm hp hO,r⟩
theorem De{f₀:Addr}{oc:Value}{od:Option Addr}{osl:Array (Option Value)}{name qual:Str}{params:Arguments}{body:List Stmt}{scope:Scope}{dV kV doc pm cdv ct:Value}{an:Option Addr}{args args':List V}{ns:List Str}{ls':List (Str×V)}{i:Nat}{C:Addr}{d:Option Nat}
  (ho:∀ P,(G.K P).lookup f₀=some ⟨oc,od,.func (fnOf name qual params body scope dV kV doc pm an cdv ct),osl⟩) (hcd:∀ P,codeIn (G.K P) cdv qual=true)
  (hb:d9 G (fnOf name qual params body scope dV kV doc pm an cdv ct) args ns args') (hloc:∀ x∈ns,scope.names.lookup x=some .local)
  (hk:scope.kind=.function) (hco:scope.isCoroutine=false) (hgen:scope.isGenerator=false) (hcell:∀ x∈scope.names,x.2≠.cell) (hS:bz ⟨qual,scope,f₀,cdv,[]⟩)
  (h:bz ⟨qual,scope,f₀,cdv,[]⟩→bv G dd ⟨qual,scope,f₀,cdv,[]⟩ body (ns.zip args') H i ls' H') (hH:H'[i]?=some (.exc C d)∨H'[i]?=some (.excT C d)):da G dd (.top f₀) args H i (H'.set i (.excT C d)):=by
 intro c A s ls ρ f' vs Rr ok hm hA hh hd hu R rf ra hQ
 obtain rfl:=rf
 refine sH ho hcd hb hloc hk hco hgen hcell ok hA hh hd hu R ra fun c' s' m fr oL hf ok' R' k e=>?_
 have hw:c'.w=c.w:=by rw[e];rfl
 have hm':c'.cm=none:=by rw[e];rfl
 rw[←hw]
 refine h hS c' s' ρ _ _ hf ok' hm' R' fun ρ'' s'' a hp' R''=>?_
 refine wK ok' hm' R'' hH fun s₃ R₃=>?_
 rw[e] at R₃
 exact hQ ρ'' s₃ a hp' (s9 k hm hp' R₃)
theorem bv.one{st rest}{i:Nat}(h₁:dl G dd fn st ls H i ls' H₁):bv G dd fn (st::rest) ls H i ls' H₁:=fun c s ρ Q E hc ok hm R hQ=>
 wpAny_execs_cons (h₁ c s ρ _ _ hc ok hm R hQ)
theorem bv.cons{st rest}{i:Nat}(h₁:Ex G dd fn st ls H .next ls' H₁)(h₂:bv G dd fn rest ls' H₁ i ls'' H₂):bv G dd fn (st::rest) ls H i ls'' H₂:=fun c s ρ Q E hc ok hm R hQ=>by
 refine wpAny_execs_cons (h₁ c s ρ _ _ hc ok R fun ρ' s' f' hp R' rf=>?_)
 obtain rfl:=rf
 exact h₂ c s' ρ' Q E hc ok hm R' fun ρ'' s'' a hp' R''=>hQ ρ'' s'' a (hp.trans hp') R''
theorem bA{test body orelse pos}{b:Bool}{i:Nat}(h:Te G dd fn test ls H b H₁)(h₂:bv G dd fn (if b then body else orelse) ls H₁ i ls' H₂):dl G dd fn (.If test body orelse pos) ls H i ls' H₂:=fun c s ρ Q E hc ok hm R hQ=>by
 refine wpAny_If (h c s ρ _ _ hc ok R fun ρ' s' hp R'=>?_)
 have z:=h₂ c s' ρ' Q E hc ok hm R' fun ρ'' s'' a hp' R''=>hQ ρ'' s'' a (hp.trans hp') R''
 cases b <;> exact z
theorem dl.ret{e pos}{i:Nat}(h:ej G dd fn e ls H i H₁):dl G dd fn (.Return (some e) pos) ls H i ls H₁:=fun c s ρ Q E hc ok hm R hQ=>
 wpAny_Return_some (h c s ρ _ _ hc ok hm R hQ)
theorem dl.name{x pos' e pos}{i:Nat}(h:ej G dd fn e ls H i H₁)(hs:∀ env,Y3 e (some (.Name x pos')) pos.line env=pure false:=by intro _;rfl):dl G dd fn (.Assign [.Name x pos'] e pos) ls H i ls H₁:=fun c s ρ Q E hc ok hm R hQ=>
 wpAny_Assign_Name (hs:=hs _) (h c s ρ _ _ hc ok hm R hQ)
theorem dl.tuple{elts k tpos value pos}{i:Nat}(h:ej G dd fn value ls H i H₁)
  (hs:∀ env,swapsWithSole [.Tuple elts k tpos] value pos.line env=pure false:=by intro _;rfl) (hw:∀ env:Env,env.scope=fn.sc→Y2 [.Tuple elts k tpos] value env=pure none:=by intro _ _;rfl) :
  dl G dd fn (.Assign [.Tuple elts k tpos] value pos) ls H i ls H₁:=fun c s ρ Q E hc ok hm R hQ=>
 Assign_Tuple (h c s ρ _ _ hc ok hm R hQ) (hs _) (hw _ (by rw[c.env_scope,hc]))
theorem dl.expr{e pos}{i:Nat}(h:ej G dd fn e ls H i H₁)(hs:∀ env,Y3 e none pos.line env=pure false:=by intro _;rfl):dl G dd fn (.Expr e pos) ls H i ls H₁:=fun c s ρ Q E hc ok hm R hQ=>by
 refine wpAny_Expr_any (h c s ρ _ _ hc ok hm R hQ) ?_ (hs _)
 exact fz ok.hk
noncomputable def gc(G:cq)(dd:Nat)(fn:bW)(es:List Expr)(ls:List (Str×V))(H:List O)(i:Nat)(H':List O):Prop:=
 bD es∧∀ (c:Cx) (s:Shared) (ρ:List Addr) (pos:Pos) (Q:List Value→Shared→Prop) (E:Value→Shared→Prop),c.fn=fn→c.Ok G dd→c.cm=none→aY c ls ρ H s→FK c ls ρ H' i E→
  wpAny (model G.prog c.w) c.A (spliced (backTo pos (K7 es c.env))) Q E s
theorem gc.here{e es}{i:Nat}(h:ej G dd fn e ls H i H₁)(h₂:bD es)(he:∀ env,K7 (e::es) env=(false,eval e env)::K7 es env:=by intro _;rfl):gc G dd fn (e::es) ls H i H₁:=
 ⟨h₂.cons he,fun c s ρ pos Q E hc ok hm R hQ=>args_cons (h c s ρ _ _ hc ok hm R hQ) (he _)⟩
theorem gc.cons{e es}{i:Nat}(h:Ev G dd fn e ls H v H₁)(h₂:gc G dd fn es ls H₁ i H₂)(he:∀ env,K7 (e::es) env=(false,eval e env)::K7 es env:=by intro _;rfl):gc G dd fn (e::es) ls H i H₂:=
 ⟨h₂.1.cons he,fun c s ρ pos Q E hc ok hm R hQ=>
  args_cons (h c s ρ _ _ hc ok R fun ρ₁ s₁ v' hp R₁ rv=>h₂.2 c s₁ ρ₁ pos (fun ws s₂=>Q (v'::ws) s₂) _ hc ok hm R₁ fun ρ₂ s₂ a hp₂ R₂=>hQ ρ₂ s₂ a (hp.trans hp₂) R₂) (he _)⟩
theorem ej.tup{elts k pos}{i:Nat}(h:gc G dd fn elts ls H i H₁):ej G dd fn (.Tuple elts k pos) ls H i H₁:=fun c s ρ Q E hc ok hm R hQ=>
 Tuple_ (h.2 c s ρ pos _ E hc ok hm R hQ)
theorem ej.item{value slice pos}{i:Nat}(hv:ej G dd fn value ls H i H₁):ej G dd fn (.Subscript value slice pos) ls H i H₁:=fun c s ρ Q E hc ok hm R hQ=>
 Subscript_ (hv c s ρ _ _ hc ok hm R hQ)
theorem ej.args{func args pos}{i:Nat}(hf:Ev G dd fn func ls H f H)(hk:ey G f)(hl:gc G dd fn args ls H i H₁)
  (he:∀ env,eval (.Call func args [] pos) env=(do callWith pos (←eval func env) [] (backTo pos (K7 args env)) (backToKw pos (keywordEach [] env))):=by intro _;rfl) (hne:args≠[]:=by simp):ej G dd fn (.Call func args [] pos) ls H i H₁:=fun c s ρ Q E hc ok hm R hQ=>by
 refine Call_ (hf c s ρ _ _ hc ok R fun ρ₁ s₁ f' hp R₁ rf=>?_) (he _)
 refine callWith_of (P:=(G.K c.w.params).In) (by rw[hl.1.1];rfl) (vx hk rf) ?_
 rcases hl.1.2 c.env pos with⟨_,e⟩ | ⟨t,r,e⟩
 ·exact absurd e hne
 rw[e]
 refine evalArgs_plain ?_
 rw[←e]
 exact hl.2 c s₁ ρ₁ pos _ E hc ok hm R₁ fun ρ₂ s₂ a hp₂ R₂=>hQ ρ₂ s₂ a (hp.trans hp₂) R₂
end
noncomputable def f9(pos:Pos):List (Pos×Nat)→Option Nat
 | []=>none
 | p::r=>if(p.1.line==pos.line && p.1.col==pos.col) then some p.2 else f9 pos r
theorem gr.ok{ρ:List Addr}:∀ {ps:List (Pos×Nat)} {vs:List Value},gr ρ ps vs→TriplesOk vs
 | [],[],_=>trivial
 | _::_,_::_::_::vs,⟨⟨a,b,_⟩,t⟩=>by rw[a,b];exact(gr.ok t:TriplesOk vs)
 | [],_::_,e=>e.elim
 | _::_,[],e=>e.elim
 | _::_,[_],e=>e.elim
 | _::_,[_,_],e=>e.elim
theorem eR(a b:Nat):(((a:Nat):Int)==((b:Nat):Int))=(a==b):=by
 cases h:a==b with
 | true=>rw[beq_iff_eq] at h;rw[h];simp
 | false=>simp at h ⊢;exact_mod_cast h
set_option tactic.hygienic true in
theorem gr.no{ρ:List Addr}{pos:Pos}:∀ {ps:List (Pos×Nat)} {vs:List Value},gr ρ ps vs→f9 pos ps=none→codeAmong pos vs=none
 | [],[],_,_=>rfl
 | p::_,_::_::_::_,⟨⟨a,b,_⟩,t⟩,h=>by
  rw[a,b]
  unfold f9 at h
  show(if(((p.1.line:Nat):Int)==((pos.line:Nat):Int) && ((p.1.col:Nat):Int)==((pos.col:Nat):Int))=true then _ else _)=Option.none
  rw[eR,eR]
  split at h
  ·cases h
  rename_i q
  rw[if_neg q];exact gr.no t h
 | [],_::_,e,_=>e.elim
 | _::_,[],e,_=>e.elim
 | _::_,[_],e,_=>e.elim
 | _::_,[_,_],e,_=>e.elim
set_option tactic.hygienic true in
theorem gr.yes{ρ:List Addr}{pos:Pos}{j:Nat}:∀ {ps:List (Pos×Nat)} {vs:List Value},gr ρ ps vs→f9 pos ps=some j→∃ a,ρ[j]?=some a∧codeAmong pos vs=Option.some (.ref a)
 | p::_,_::_::_::_,⟨⟨a,b,c,e1,e2⟩,t⟩,h=>by
  rw[a,b,e2]
  unfold f9 at h
  show ∃ a,_∧(if(((p.1.line:Nat):Int)==((pos.line:Nat):Int) && ((p.1.col:Nat):Int)==((pos.col:Nat):Int))=true then _ else _)=_
  rw[eR,eR]
  split at h
  ·rename_i q
   rw[if_pos q]
   cases h
   exact⟨c,e1,rfl⟩
  rename_i q
  rw[if_neg q];exact gr.yes t h
 | [],[],_,h=>by cases h
 | [],_::_,e,_=>e.elim
 | _::_,[],e,_=>e.elim
 | _::_,[_],e,_=>e.elim
 | _::_,[_,_],e,_=>e.elim
theorem qB{ρ:List Addr}{pos:Pos}{j:Nat}{a:Addr}(ha:ρ[j]?=some a):∀ {ps:List (Pos×Nat)} {vs:List Value},gr ρ ps vs→gr ρ (ps++[(pos,j)]) (vs++[rawInt pos.line,rawInt pos.col,.ref a])
 | [],[],_=>⟨⟨rfl,rfl,a,ha,rfl⟩,trivial⟩
 | _::_,_::_::_::_,⟨x,t⟩=>⟨x,qB ha t⟩
 | [],_::_,e=>e.elim
 | _::_,[],e=>e.elim
 | _::_,[_],e=>e.elim
 | _::_,[_,_],e=>e.elim
theorem y0.look{ρ:List Addr}:∀ {ce:List (Str×Nat)} {cl:List (Str×Addr)},y0 ρ ce cl→(ce.map (·.1)).Nodup→∀ x i,(x,i)∈ce→∃ a,ρ[i]?=some a∧cl.lookup x=some a
 | p::ps,q::qs,⟨⟨e1,e2⟩,t⟩,nd,x,i,h=>by
  rw[List.map_cons,K9] at nd
  rcases K2.mp h with e | h
  ·have ex:x=p.1:=congrArg Prod.fst e
   have ei:i=p.2:=congrArg Prod.snd e
   refine⟨q.2,ei▸e2,?_⟩
   obtain⟨q1,q2⟩:=q
   dsimp only at e1
   rw[ex,e1];simp
  obtain⟨a,h1,h2⟩:=y0.look t nd.2 x i h
  refine⟨a,h1,?_⟩
  have:x≠q.1:=fun e=>nd.1 (by rw[e1,← e];exact V9.mpr ⟨_,h,rfl⟩)
  obtain⟨q1,q2⟩:=q
  rw[List.lookup_cons,(beq_eq_false_iff_ne).mpr this];exact h2
 | [],[],_,_,_,_,h=>nomatch h
 | [],_::_,e,_,_,_,_=>e.elim
 | _::_,[],e,_,_,_,_=>e.elim
section
variable {G:cq}{dd:Nat}{fn fn':bW}{ls ls' ls'':List (Str×V)}{H H' H₁ H₂ H₃:List O}{v a b f ov iv:V}{vs first:List V}{d₁:Nat}{c:Cx}{ρ ρ':List Addr}{s:Shared}{own own':List (Addr×Obj)}{I Is:List Addr}{m:Str→Option Value}{fr:List (Addr×Obj)}{os:List Obj}
theorem Cx.Ok.cm0{k:Addr}(ok:c.Ok G dd)(h:c.fn.cdv=.ref k):c.cm=none:=by
 rcases ok.hq with e | e
 ·exact e
 rw[h] at e;cases e
theorem ui{k P:Addr}(ok:c.Ok G dd)(F:Fr c.base c.L s.heap m){ps:Array Value}(hP:s.heap.get? P=some (tabObj ps))(hb:c.base.get? P=none):J3≠P∧s.heap.BuiltinsAt c.mg P:=by
 have hgs:=ok.T.g.keeps F.keep
 obtain⟨bm,ob,b1,b2,b3,b4,b5,b6⟩:=ok.T.bmain
 have hgP:J3≠P:=fun q=>by
  obtain⟨o,es,ep,e,hd,_⟩:=hgs
  rw[q,hP] at e;cases e;cases hd
 have hbP:bm≠P:=fun q=>by rw[q,hb] at b3;cases b3
 have hbG:bm≠J3:=fun q=>by
  obtain⟨o,es,ep,e,hd,_⟩:=ok.T.g
  rw[q,e] at b3;cases b3;rw[hd] at b6;cases b6
 exact⟨hgP,⟨bm,ob,b1,b2,hbG,hbP,F.keep _ _ b3,b4,b5,b6⟩⟩
theorem co.freshT(W:co c ls ρ H m fr os s){T:Addr}(hT:s.heap.objs.size≤T):T≠c.L∧c.base.get? T=none∧T∉(fr++c.kp).map (·.1)++ρ:=by
 have hn:s.heap.get? T=none:=V3 hT
 refine⟨?_,?_,fun hm=>?_⟩
 ·obtain⟨oL,es,ep,e1,r⟩:=W.F.ns
  rintro rfl;rw[hn] at e1;cases e1
 ·cases q:c.base.get? T with
  | none=>rfl
  | some o=>have:=W.F.keep T o q;rw[hn] at this;cases this
 obtain⟨o,ho⟩:=W.old hm
 rw[hn] at ho;cases ho
theorem la{M:Model}{A:Around}{E:Value→Shared→Prop}{s:Shared}{Q:List Value→Shared→Prop}(h:Q [] s):wpAny M A (spliced []) Q E s:=args_nil (pos:=⟨0,0,0,0⟩) (env:=default) h
theorem yU{params:Arguments}{body:Expr}{scope:Scope}{pos:Pos}{ce:List (Str×Nat)}{t:Nat}{ps:List (Pos×Nat)}{k Pt:Addr}(hk:fn.cdv=.ref k)(hC:∀ P,codeHdIn (G.K P) k Pt=true)(hpn:G.pn[t]?=some Pt)(hcl:b8 fn scope ce)
  (hdef:∀ env,defaultsOf params env=([],[])) (ht:H[t]?=some (.tab ps)) (hn:f9 pos ps=none) :
  Ev G dd fn (.Lambda params body scope pos) ls H (.obj (H.length+1)) ((H.set t (.tab (ps++[(pos,H.length)]))++[.code (fn.qual++".<locals>."++"<lambda>")])++[.fn "<lambda>" (fn.qual++".<locals>."++"<lambda>") params (.expr body) scope ce H.length]):=fun c s ρ Q E hc ok R hQ=>by
 subst hc
 obtain⟨m,fr,os,W⟩:=R
 have hm:=ok.cm0 hk
 have henv:c.env=c.own:=by unfold Cx.env;rw[hm]
 obtain⟨cl,hclos,hclr,_⟩:=hcl c ρ rfl W.cs
 have hP:ρ[t]?=some Pt:=aH W.pn (by rw[ok.hp];exact hpn)
 obtain⟨ob,hob,hmem,⟨ws,rfl,htab⟩,hg⟩:=W.mem hP ht
 have hPn:=W.N _ hmem
 obtain⟨hgP,hbi⟩:=ui (k:=k) ok W.F hg hPn.2.2
 have C:CodeHd s.heap k Pt:=(codeHd_of_K ok.X (hC _)).keeps W.F.keep
 refine kla_eval (hdef _) ?_
 rw[henv] at hclos ⊢
 refine kla_makeFunction (mg:=c.mg) hclos rfl (ok.T.g.keeps W.F.keep) hk C hg htab.ok (htab.no hn) hgP hbi fun c' ctv h' tk hx hge hlt hrec htb=>?_
 obtain⟨c₂,oc,vs,tq,e2,hoc,hd,hv⟩:=hrec
 cases e2
 have hsz:s.heap.objs.size≤h'.objs.size:=J7 hge (Nat.le_of_lt hlt)
 have tlt:t<H.length:=(J4.mp ht).1
 have hlen:H.length=ρ.length:=W.hos.len.trans W.len.symm
 have W₂:=W.setAtW (t:=tk) (x:=.raw (tabObj (ws.toArray++#[rawInt pos.line,rawInt pos.col,.ref c']))) (h:=h'.push (kla_obj "<lambda>" (c.own.qual++"<lambda>") params body scope cl ((c.mg "__name__").getD .none) c' ctv)) hP tlt
  (fun b o hb e=>K3 _ (hx b o hb e)) (K3 _ htb) rfl
 have f1:=W.freshT hge
 have f2:=W.freshT hsz
 have hne:c'≠h'.objs.size:=W3 hlt
 have R₂:aC c [c',h'.objs.size] ls ρ _ { s with heap:=h'.push (kla_obj "<lambda>" (c.own.qual++"<lambda>") params body scope cl ((c.mg "__name__").getD .none) c' ctv),toks:=tk}:=
  ⟨_,_,_,W₂,by simp[hne],fun a ha=>by
   simp only[K2,J8,or_false] at ha
   rcases ha with rfl | rfl
   ·exact f1
   exact f2⟩
 have R₃:=R₂.adopt (x:=.code (c.fn.qual++".<locals>."++"<lambda>")) (ob:=oc) (K3 _ hoc) ⟨vs,tq,hd,hv⟩
 have hc':(ρ++[c'])[H.length]?=some c':=by rw[hlen];exact dW
 have R₄:=R₃.adopt (x:=.fn "<lambda>" (c.fn.qual++".<locals>."++"<lambda>") params (.expr body) scope ce H.length) (ob:=kla_obj "<lambda>" (c.own.qual++"<lambda>") params body scope cl ((c.mg "__name__").getD .none) c' ctv) (Q5 _ rfl)
  ⟨cl,c',.none,_,_,rfl,aH (K4 _ _) hc',(hclr.mono ((K4 ρ [c']).trans (K4 _ _)))⟩
 have R₅:=aY.relabel R₄.rep (i:=t) (x:=.raw (tabObj (ws.toArray++#[rawInt pos.line,rawInt pos.col,.ref c']))) (y:=.tab (ps++[(pos,H.length)])) ?_ ?_
 ·refine hQ _ _ _ ((K4 ρ [c']).trans (K4 _ [h'.objs.size])) ?_ ⟨h'.objs.size,?_,rfl⟩
  ·rw[List.set_append_left _ _ (by simp;lia),List.set_append_left _ _ (by simpa using tlt),List.set_set] at R₅
   exact R₅
  have:H.length+1=(ρ++[c']).length:=by simp[hlen]
  rw[this];exact dW
 ·rw[K0,Q0 (by simpa using tlt),Q8 tlt]
 intro ob a _ _ hr
 refine⟨ws++[rawInt pos.line,rawInt pos.col,.ref c'],?_,?_⟩
 ·show ob=_
  rw[show ob=_ from hr];simp
 exact qB (aH (K4 _ _) hc') (htab.mono ((K4 ρ [c']).trans (K4 _ _)))
theorem yV{params:Arguments}{body:Expr}{scope:Scope}{pos:Pos}{ce:List (Str×Nat)}{t j:Nat}{ps:List (Pos×Nat)}{k Pt:Addr}(hk:fn.cdv=.ref k)(hC:∀ P,codeHdIn (G.K P) k Pt=true)(hpn:G.pn[t]?=some Pt)(hcl:b8 fn scope ce)
  (hdef:∀ env,defaultsOf params env=([],[])) (ht:H[t]?=some (.tab ps)) (hn:f9 pos ps=some j) :
  Ev G dd fn (.Lambda params body scope pos) ls H (.obj H.length) (H++[.fn "<lambda>" (fn.qual++".<locals>."++"<lambda>") params (.expr body) scope ce j]):=fun c s ρ Q E hc ok R hQ=>by
 subst hc
 have R0:=R
 obtain⟨m,fr,os,W⟩:=R
 have hm:=ok.cm0 hk
 have henv:c.env=c.own:=by unfold Cx.env;rw[hm]
 obtain⟨cl,hclos,hclr,_⟩:=hcl c ρ rfl W.cs
 have hP:ρ[t]?=some Pt:=aH W.pn (by rw[ok.hp];exact hpn)
 obtain⟨ob,hob,hmem,⟨ws,rfl,htab⟩,hg⟩:=W.mem hP ht
 have hPn:=W.N _ hmem
 obtain⟨hgP,hbi⟩:=ui (k:=k) ok W.F hg hPn.2.2
 have C:CodeHd s.heap k Pt:=(codeHd_of_K ok.X (hC _)).keeps W.F.keep
 obtain⟨c',hc',hcode⟩:=htab.yes hn
 have hlen:H.length=ρ.length:=W.hos.len.trans W.len.symm
 refine kla_eval (hdef _) ?_
 rw[henv] at hclos ⊢
 refine kla_makeFunctionHit (mg:=c.mg) hclos rfl (ok.T.g.keeps W.F.keep) hk C hg htab.ok hcode hbi fun ctv h' tk hk' hsz=>?_
 have R₂:aC c [h'.objs.size] ls ρ H { s with heap:=h'.push { cls:=.type "function",data:=.func (kla_fn "<lambda>" (c.own.qual++"<lambda>") params body scope cl ((c.mg "__name__").getD .none) (.ref c') ctv)},toks:=tk}:=
  R0.off (fun b o e=>K3 _ (hk' b o e)) (by simp) (fun a ha=>by rw[J6.mp ha];exact V3 hsz) (fun a ha=>by rw[J6.mp ha];exact hsz)
 have R₃:=R₂.adopt (x:=.fn "<lambda>" (c.fn.qual++".<locals>."++"<lambda>") params (.expr body) scope ce j) (ob:=kla_obj "<lambda>" (c.own.qual++"<lambda>") params body scope cl ((c.mg "__name__").getD .none) c' ctv) (Q5 _ rfl)
  ⟨cl,c',.none,_,_,rfl,aH (K4 _ _) hc',hclr.mono (K4 _ _)⟩
 exact hQ _ _ _ (K4 _ _) R₃.rep ⟨h'.objs.size,by rw[hlen];exact dW,rfl⟩
theorem wP{nm q:Str}{params:Arguments}{body:FuncBody}{scope:Scope}{ce:List (Str×Nat)}{i cd:Nat}{a:Addr}(R:aY c ls ρ H s)(hi:H[i]?=some (.fn nm q params body scope ce cd))(ha:ρ[i]?=some a):FnAt a s.heap:=by
 obtain⟨m,fr,os,W⟩:=R
 obtain⟨ob,_,_,⟨clos,k,doc,pm,ctv,rfl,_⟩,hg⟩:=W.mem ha hi
 exact⟨_,_,_,_,hg⟩
theorem BA{func pos}{nm q:Str}{params:Arguments}{body:FuncBody}{scope:Scope}{ce:List (Str×Nat)}{i cd:Nat}(hf:Ev G dd fn func ls H (.obj i) H)(hi:H[i]?=some (.fn nm q params body scope ce cd))(h:Cl G d₁ (.obj i) [] H v H₂)(hd:d₁<dd:=by decide)
  (he:∀ env,eval (.Call func [] [] pos) env=(do callWith pos (←eval func env) [] (backTo pos (K7 [] env)) (backToKw pos (keywordEach [] env))):=by intro _;rfl):Ev G dd fn (.Call func [] [] pos) ls H v H₂:=fun c s ρ Q E hc ok R hQ=>by
 refine Call_ (hf c s ρ _ _ hc ok R fun ρ₁ s₁ f' hp R₁ rf=>?_) (he _)
 obtain⟨a,ha,rfl⟩:=rf
 refine callWith_of (P:=FnAt a) rfl (keeps_F (q:=a)) ?_
 refine f7 (la ⟨wP R₁ hi ha,?_⟩)
 exact h c s₁ ls ρ₁ (.ref a) [] Q E (ok.low hd) R₁ ⟨a,ha,rfl⟩ trivial fun ρ₃ s₃ v' hp₃ R₃ rv=>hQ ρ₃ s₃ v' (hp.trans hp₃) R₃ rv
theorem yT{func pos}{nm q:Str}{params:Arguments}{body:FuncBody}{scope:Scope}{ce:List (Str×Nat)}{i cd j:Nat}(hf:Ev G dd fn func ls H (.obj i) H)(hi:H[i]?=some (.fn nm q params body scope ce cd))(h:DJ G d₁ (.obj i) [] H j H₂)(hd:d₁<dd:=by decide)
  (he:∀ env,eval (.Call func [] [] pos) env=(do callWith pos (←eval func env) [] (backTo pos (K7 [] env)) (backToKw pos (keywordEach [] env))):=by intro _;rfl):ej G dd fn (.Call func [] [] pos) ls H j H₂:=fun c s ρ Q E hc ok hm R hQ=>by
 refine Call_ (hf c s ρ _ _ hc ok R fun ρ₁ s₁ f' hp R₁ rf=>?_) (he _)
 obtain⟨a,ha,rfl⟩:=rf
 refine callWith_of (P:=FnAt a) rfl (keeps_F (q:=a)) ?_
 refine f7 (la ⟨wP R₁ hi ha,?_⟩)
 exact h c s₁ ls ρ₁ (.ref a) [] Q E (ok.low hd) hm R₁ ⟨a,ha,rfl⟩ trivial fun ρ₃ s₃ v' hp₃ R₃=>hQ ρ₃ s₃ v' (hp.trans hp₃) R₃
end
section
variable {G:cq}{dd:Nat}{fn fn':bW}{ls ls' ls'':List (Str×V)}{H H' H₁ H₂ H₃:List O}{v a b f ov iv:V}{vs first:List V}{d₁:Nat}{c:Cx}{ρ ρ':List Addr}{s:Shared}{own own':List (Addr×Obj)}{I Is:List Addr}{m:Str→Option Value}{fr:List (Addr×Obj)}{os:List Obj}
theorem B2(W:co c ls ρ H m fr os s){oL:Obj}(hL:s.heap.get? c.L=some oL){A:Around}{h:Heap}{t:Nat}{fn:bW}{cl:List (Str×Addr)}{m':Str→Option Value}{ls':List (Str×V)}
  (ns:h.Ns s.heap.objs.size m') (keep:∀ b o,s.heap.get? b=some o→h.get? b=some o) (sls:sQ ρ ls' m') (cs:∀ x i,(x,i)∈fn.ce→∃ a,ρ[i]?=some a∧cl.lookup x=some a) :
  co (c.sub A fr oL s.heap.objs.size fn cl) ls' ρ H m' (c.fr' fr oL) os { s with heap:=h,toks:=t}∧∀ a,s.heap.objs.size<a→c.base.get? a=none∧a∉(c.fr' fr oL++c.kp' oL).map (·.1)++ρ:=by
 have hlt:c.L<s.heap.objs.size:=Heap.lt_size hL
 have nL:c.base.get? c.L=none:=V3 W.F.above
 refine⟨⟨W.gens,W.drawn,W.sos,⟨ns,fun b o e=>keep b o (W.F.keep b o e),J7 W.F.above (Nat.le_of_lt hlt)⟩,?_,sls,SameUp.refl _,W.hos,W.len,?_,cs,W.pn⟩,fun a ha=>⟨?_,fun hm=>?_⟩⟩
 ·intro p hp
  rcases Cx.sub_mem.mp hp with rfl | hp
  ·exact⟨keep _ _ hL,W3 hlt,nL⟩
  exact⟨keep _ _ (W.N p hp).1,W3 (Heap.lt_size (W.N p hp).1),(W.N p hp).2.2⟩
 ·refine(Cx.sub_perm.nodup_iff).mpr ?_
  refine K9.mpr ⟨fun hm=>?_,W.nd⟩
  have e:(fr++c.kp).map (·.1)++ρ=((fr++c.kp)++ρ.zip os).map (·.1):=by rw[V0 (l₁:=fr++c.kp),eA W.len]
  rw[e] at hm
  obtain⟨p,hp,q⟩:=V9.mp hm
  exact(W.N p hp).2.1 q
 ·cases q:c.base.get? a with
  | none=>rfl
  | some o=>exact absurd (Heap.lt_size (W.F.keep a o q)) (Nat.not_lt.mpr (Nat.le_of_lt ha))
 rw[Cx.sub_perm.mem_iff] at hm
 rcases K2.mp hm with e | hm
 ·exact absurd hlt (Nat.not_lt.mpr (Nat.le_of_lt (e▸ha)))
 obtain⟨o,ho⟩:=W.old hm
 exact absurd (Heap.lt_size ho) (Nat.not_lt.mpr (Nat.le_of_lt ha))
theorem ut(R:aY c ls ρ H s){fn:bW}(cs:∀ x i,(x,i)∈fn.ce→∃ a,ρ[i]?=some a∧c.cl.lookup x=some a):aY { c with fn:=fn} ls ρ H s:=by
 obtain⟨m,fr,os,W⟩:=R
 exact⟨m,fr,os,W.gens,W.drawn,W.sos,W.F,W.N,W.sls,W.sfr,W.hos,W.len,W.nd,cs,W.pn⟩
theorem Df{f₀:Addr}{oc:Value}{od:Option Addr}{osl:Array (Option Value)}{name qual:Str}{params:Arguments}{body:List Stmt}{scope:Scope}{dV kV doc pm cdv ct:Value}{an:Option Addr}{a₁ a₂:V}{x y:Str}{ls':List (Str×V)}
  (ho:∀ P,(G.K P).lookup f₀=some ⟨oc,od,.func (fnOf name qual params body scope dV kV doc pm an cdv ct),osl⟩) (hcd:∀ P,codeIn (G.K P) cdv qual=true)
  (hb:∀ v₁ v₂,bindArgs (fnOf name qual params body scope dV kV doc pm an cdv ct) ⟨[v₁,v₂],[]⟩=pure [(x,v₁),(y,v₂)]) (hx:scope.names.lookup x=some .cell) (hy:scope.names.lookup y=some .local) (hxy:x≠y)
  (hcf:∀ n,cellsFrom n scope.names []=[(x,n)])
  (hk:scope.kind=.function) (hco:scope.isCoroutine=false) (hgen:scope.isGenerator=false) (hS:bz ⟨qual,scope,f₀,cdv,[(x,H.length)]⟩)
  (h:bz ⟨qual,scope,f₀,cdv,[(x,H.length)]⟩→Es G dd ⟨qual,scope,f₀,cdv,[(x,H.length)]⟩ body [(y,a₂)] (H++[.cell (some a₁)]) (.ret v) ls' H'):Co G dd (.top f₀) [a₁,a₂] H v H':=by
 intro c A s ls ρ f' vs Rr ok hA hh hd hu R rf ra hQ
 obtain rfl:=rf
 obtain⟨v₁,v₂,rfl,r₁,r₂,_⟩:=bq.c2 ra
 ·obtain⟨m,fr,os,W⟩:=R
  have hX:(G.K c.w.params).In s.heap:=ok.X.keeps W.F.keep
  obtain⟨oL,hL,kp⟩:=W.split
  have hlen:H.length=ρ.length:=W.hos.len.trans W.len.symm
  refine codeAny_call_cells (body:=body) (binds:=[(x,v₁),(y,v₂)]) ?_ (hX _ _ (ho _)) rfl (ok.T.nolimit.keeps W.F.keep) (codeRec_of hX (hcd _)) rfl (hb v₁ v₂) rfl ?_ (fun s₁ IC=>?_) hco hgen hk
  ·have:=ok.hd;lia
  ·intro z hz
   simp only[K2,J8,or_false] at hz
   rcases hz with rfl | rfl
   ·right
    refine⟨hx,?_⟩
    rw[show(fnOf name qual params body scope dV kV doc pm an cdv ct).scope.names=scope.names from rfl,hcf]
    simp
   exact .inl hy
  have kx:(callEnvC (fnOf name qual params body scope dV kV doc pm an cdv ct) s.heap.objs.size f₀).kindOf x=some .cell:=hx
  have ky:(callEnvC (fnOf name qual params body scope dV kV doc pm an cdv ct) s.heap.objs.size f₀).kindOf y=some .local:=hy
  have hcells:(callEnvC (fnOf name qual params body scope dV kV doc pm an cdv ct) s.heap.objs.size f₀).cells=[(x,s.heap.objs.size+1)]:=hcf _
  obtain⟨IN,hcell,hap,habv⟩:=IC
  obtain⟨h₁,tk,rfl⟩:=IN.same
  have hcl:=hcell x (s.heap.objs.size+1) (by rw[hcells];simp)
  have hbc:bindC (callEnvC (fnOf name qual params body scope dV kV doc pm an cdv ct) s.heap.objs.size f₀).kindOf [(x,v₁),(y,v₂)] (fun _=>none) x=some v₁:=by
   simp only[bindC,kx,ky]
   simp
  rw[hbc] at hcl
  obtain⟨ocell,hoc,hdc⟩:=hcl
  have hns:h₁.Ns s.heap.objs.size (fun z=>if z=y then some v₂ else none):=by
   have z:=IN.ns
   have e:bindL (callEnvC (fnOf name qual params body scope dV kV doc pm an cdv ct) s.heap.objs.size f₀).kindOf [(x,v₁),(y,v₂)] (fun _=>none)=fun z=>if z=y then some v₂ else none:=by
    simp only[bindL,kx,ky]
    simp
   rw[e] at z
   exact z
  obtain⟨W₂,hfr⟩:=B2 (A:=A) (t:=tk) (fn:=⟨qual,scope,f₀,cdv,[]⟩) (cl:=[(x,s.heap.objs.size+1)]) (ls':=[(y,a₂)]) W hL hns IN.keep
   ⟨fun p hp=>by rw[J6.mp hp];exact⟨v₂,by simp,r₂⟩,by simp⟩ (fun x i hx=>nomatch hx)
  have hcn:=hfr (s.heap.objs.size+1) (by lia)
  have R₂:aC (c.sub A fr oL s.heap.objs.size ⟨qual,scope,f₀,cdv,[]⟩ [(x,s.heap.objs.size+1)]) [s.heap.objs.size+1] [(y,a₂)] ρ H { s with heap:=h₁,toks:=tk}:=
   ⟨_,_,_,W₂,by simp,fun b hb=>by
    rw[J6.mp hb]
    exact⟨by show s.heap.objs.size+1≠s.heap.objs.size;lia,hcn.1,hcn.2⟩⟩
  have R₃:=R₂.adopt (x:=.cell (some a₁)) hoc ⟨v₁,hdc,r₁.mono (K4 _ _)⟩
  have R₄:=ut R₃.rep (fn:=⟨qual,scope,f₀,cdv,[(x,H.length)]⟩) fun z i hz=>by
   have e:=J6.mp hz
   cases e
   exact⟨s.heap.objs.size+1,by rw[hlen];exact dW,by show List.lookup x [(x,s.heap.objs.size+1)]=_;simp⟩
  have ok':=rh ok W kp (A:=A) (L':=s.heap.objs.size) (fn:=⟨qual,scope,f₀,cdv,[(x,H.length)]⟩) (cl:=[(x,s.heap.objs.size+1)]) hA hh hd hu hk
  have henv:callEnvC (fnOf name qual params body scope dV kV doc pm an cdv ct) s.heap.objs.size f₀=(c.sub A fr oL s.heap.objs.size ⟨qual,scope,f₀,cdv,[(x,H.length)]⟩ [(x,s.heap.objs.size+1)]).env:=by
   show newEnv scope s.heap.objs.size J3 (cellsFrom (s.heap.objs.size+1) scope.names []) _ _ _ _ _=_
   rw[hcf];rfl
  rw[henv]
  refine h hS (c.sub A fr oL s.heap.objs.size ⟨qual,scope,f₀,cdv,[(x,H.length)]⟩ [(x,s.heap.objs.size+1)]) _ _ _ _ rfl ok' R₄ fun ρ'' s'' f'' hp' R'' rf=>?_
  obtain⟨v',rfl,rv⟩:=rf
  have hp'':=(K4 ρ [s.heap.objs.size+1]).trans hp'
  exact hQ ρ'' s'' _ hp'' (fO kp hp'' R'') rv
end
section
variable {G:cq}{dd:Nat}{fn:bW}{ls ls' ls'':List (Str×V)}{H H' H₁ H₂ H₃:List O}{v a b f:V}{vs first:List V}{d₁:Nat}{c:Cx}{ρ:List Addr}{s:Shared}{m:Str→Option Value}{fr:List (Addr×Obj)}{os:List Obj}
noncomputable def mL(K:Frag)(C fI:Addr):Bool:=findIn K (.ref C) "__init__" == some (some (.ref fI)) && typeIn K (.ref fI)==some (.type "function")
theorem uN{C fI:Addr}{args:List V}{nm q:Str}{N:Addr}{bs bm:List Value}{hdct:Bool}{sn:List Str}{sub:List Value}{ab:Bool}{col:Option Bool}{dt:Option Addr}{k0 k1 k2 k3 k5:Option Value}(hK:∀ P,(G.K P).lookup C=some (excClassObj nm q C N bs bm hdct sn sub ab col dt k0 k1 k2 k3 k5 "Exception.__new__"))(hR:eV bm)
  (hC:∀ P,mL (G.K P) C fI=true) (h:Co G dd (.top fI) (.obj H.length::args) (H++[.exc C none]) .none H₁) (hz:args.length≤1000:=by decide):Cl G dd (.top C) args H (.obj H.length) H₁:=fun c s ls ρ f' vs Q E ok R rf ra hQ=>by
 obtain rfl:=rf
 have hl:=R.hlen
 have hX:=R.inK ok
 have h1:=hC c.w.params
 unfold mL at h1
 simp only[V2,beq_iff_eq] at h1
 obtain⟨hh,g,d,t,os⟩:=s
 have hlen:=ra.len
 refine Ca (K:=G.K c.w.params) hX hR (hX _ _ (hK _)) h1.1 h1.2 (fun h' e hm=>?_) (by rw[J9];lia)
 obtain⟨m,fr,os',W⟩:=R
 obtain⟨t',he,_,_⟩:=hm.there
 obtain⟨oL,es,ep,e1,r⟩:=W.F.ns
 have hnew:∀ p∈(fr++c.kp)++ρ.zip os',p.1≠e:=fun p hp q=>by
  have:=(W.N p hp).1
  rw[q] at this
  have h2:=hm.new
  rw[this] at h2;cases h2
 have hb:c.base.get? e=none:=by
  cases q:c.base.get? e with
  | none=>rfl
  | some o=>have:=W.F.keep e o q;rw[show hh.get? e=none from hm.new] at this;cases this
 have R1:aY c ls (ρ++[e]) (H++[.exc C none]) ⟨h',g,d,t,os⟩:=by
  have hp:ρ <+: ρ++[e]:=K4 _ _
  refine⟨m,fr,os'++[_],W.gens,W.drawn,W.sos,⟨⟨oL,es,ep,hm.keeps _ _ e1,r⟩,fun b o q=>hm.keeps b o (W.F.keep b o q),W.F.above⟩,?_,W.sls.mono hp,W.sfr,(W.hos.mono hp).app (x:=.exc C none) (o:={ cls:=.ref C,data:=.fields #[.ref t',.none,.none,.none,.bool false,.none]}) ⟨⟨_,rfl,Nat.le_refl 6,⟨_,rfl⟩,rfl⟩,rfl,rfl,rfl⟩,by simp[W.len],?_,fun y i hy=>let ⟨b,q1,q2⟩:=W.cs y i hy;⟨b,aH hp q1,q2⟩,W.pn.trans hp⟩
  ·rw[jt _ _ W.len,← K0]
   intro p hp
   rcases Q1.mp hp with hp | hp
   ·exact⟨hm.keeps _ _ (W.N p hp).1,(W.N p hp).2⟩
   rw[J6.mp hp]
   refine⟨he,fun q=>?_,hb⟩
   have h2:hh.get? c.L=none:=(show e=c.L from q)▸hm.new
   rw[show hh.get? c.L=some oL from e1] at h2;cases h2
  rw[←K0]
  refine List.nodup_append.mpr ⟨W.nd,by simp,fun b hb' b' hb2 q=>?_⟩
  rw[J6.mp hb2] at q
  rw[q] at hb'
  obtain⟨o,ho⟩:=W.old hb'
  have h2:=hm.new
  rw[show hh.get? e=some o from ho] at h2;cases h2
 have hx:(ρ++[e])[H.length]?=some e:=by rw[hl];simp
 have hp:ρ <+: ρ++[e]:=K4 _ _
 refine wpAny_call (h c _ _ ls _ _ _ _ ok (by show Option.map _ _=_;first | exact ok.frames | rfl) ?_ ?_ ?_ R1 rfl ⟨⟨e,hx,rfl⟩,ra.mono hp⟩ fun ρ' s' v' hp' R' rv=>?_)
 ·exact ok.hh
 ·show(c.A.under _).depth≤_
  rw[depth_under_kw]
  show c.A₀.depth+1+1≤_
  lia
 ·show c.A₀.units+3+Code.cUnits _≤_
  have:Code.cUnits (.builtin "type.__call__" ⟨.ref C::vs,[]⟩)≤5:=by first | decide | (show(1:Nat)≤5;decide) | (show(3:Nat)≤5;decide) | (show(0:Nat)≤5;decide) | (show(2:Nat)≤5;decide)| (show(5:Nat)≤5;decide)
  lia
 obtain rfl:=rv
 exact⟨rfl,hQ ρ' s' _ (hp.trans hp') R' ⟨e,aH hp' hx,rfl⟩⟩
noncomputable def mI(K:Frag)(C:Addr):Bool:=mroIn K C (.type "BaseException")==some true && typeIn K (.ref C)==some (.type "type")
theorem bj{e pos}{i:Nat}{C:Addr}{d:Option Nat}(h:Ev G dd fn e ls H (.obj i) H₁)(hi:H₁[i]?=some (.exc C d))(hC:∀ P,mI (G.K P) C=true):dl G dd fn (.Raise (some e) none pos) ls H i ls H₁:=fun c s ρ Q E hc ok hm R hQ=>by
 show wpAny _ _ (do standAt pos;raiseStmt c.env (some (do let v←eval e c.env;standAt pos;pure v)) none) Q E s
 refine J1 (wpAny_standAt ?_)
 unfold raiseStmt
 dsimp only
 refine J1 (J1 (h c s ρ _ _ hc ok R fun ρ' s₁ v' hp R' rv=>J1 (wpAny_standAt (K1 ?_))))
 obtain⟨a,ha,rfl⟩:=rv
 have hX:=R'.inK ok
 have R0:=R'
 obtain⟨m,fr,os,W⟩:=R'
 obtain⟨ob,_,_,hr,hg⟩:=W.mem ha hi
 obtain⟨⟨ws,hd,h6,h0,h1⟩,hcls,_⟩:=id hr
 have k:=hC c.w.params
 unfold mI at k
 simp only[V2,beq_iff_eq] at k
 have hnt:∀ {Q':Bool→Shared→Prop},Q' false s₁→wpAny (model G.prog c.w) c.A (isType (.ref a)) Q' E s₁:=by
  intro Q' hq
  simp only[isType,loadHead]
  refine J1 (wpAny_loadPart hg ?_)
  rw[hd];exact K1 hq
 have T1:Looks (model G.prog c.w) s₁.heap (typeOf (.ref a)) (.ref C):=hcls▸(Looks.ld hg).andThen .now
 have T2:Looks (model G.prog c.w) s₁.heap (isInstance (.ref a) (.type "BaseException")) true:=T1.andThen (looks_mroIn hX k.1)
 refine J1 (K1 ?_)
 dsimp only
 refine J1 (wpAny_holding ?_)
 unfold excFromValue isExcClass
 refine J1 (J1 (hnt ?_))
 simp only[Bool.false_eq_true,if_false]
 refine K1 ?_
 simp only[Bool.false_eq_true,if_false]
 refine J1 (T2.here ?_)
 simp only[if_true]
 refine K1 ?_
 refine J1 (hnt ?_)
 simp only[Bool.false_eq_true,if_false]
 unfold raisedInstance
 refine J1 (J1 (T1.here (J1 ((looks_typeIn hX k.2).here ?_))))
 rw[if_pos (by rfl)]
 refine K1 ?_
 unfold setFlight
 refine J1 (J1 (wpAny_field hg hd h1 ?_))
 rw[if_neg (by decide)]
 refine K1 ?_
 unfold raiseNew
 refine J1 (wpAny_handled ?_)
 rw[show c.A.handled=none from ok.hA]
 refine J1 (K1 (wpAny_throw ?_))
 exact hQ ρ' s₁ a hp ⟨ha,.inl ⟨⟨C,d,hi⟩,R0⟩⟩
end
open Sem (wp)
section
variable {M:Model}{prog:Program}{w:World}{A:Around}{E:Value→Shared→Prop}{h:Heap}{g:Array GenState}{d:Drawn}{t:Nat}{os:OsState}{R:Result→Shared→Prop}
variable {nm q:Str}{C N:Addr}{bs bm:List Value}{hdct:Bool}{sn:List Str}{sub:List Value}{ab:Bool}{col:Option Bool}{dd:Option Addr}{k0 k1 k2 k3 k5:Option Value}{newId:String}
theorem pI(Rw:eV bm){e:Addr}{oe:Obj}{rest:List Value}{Q:Unit→Shared→Prop}
  (hC:h.get? C=some (excClassObj nm q C N bs bm hdct sn sub ab col dd k0 k1 k2 k3 k5 newId)) (he:h.get? e=some oe) (hcls:oe.cls=.ref C) (hq:Q () ⟨h,g,d,t,os⟩) :
  wpAny M A (checkBuiltinCall "Exception.__init__" ⟨.ref e::rest,[]⟩) Q E ⟨h,g,d,t,os⟩:=by
 have F:=PySem.F.excBase_Exception
 have hcB:(Value.ref C::bm).contains (.type "Exception")=true:=by rw[List.contains_cons,Rw.b,Bool.or_true]
 have hshort:=F.noStar
 simp only[checkBuiltinCall,F.initKind,F.initSplit,F.initRow]
 repeat (first | (with_reducible refine wpAny_loadPart_at he ?_;rw[hcls]) | with_reducible refine wpAny_loadPart_at hC ?_ | (with_reducible refine wpAny_isSubtype_exc hC ?_;rw[hcB]) | wp_step)
 refine wpAny_onRaise ?_
 rw[show ∀ (a b:String) (n:Nat),Bind.check ⟨.positional,"*","Exception",.self,[⟨"args",.varPos,false⟩]⟩ a b n (List.map (fun x=>x.fst) ({ pos:=Value.ref e::rest}:Args).kw)=pure () from
  fun a b n=>check_star_args _ _ _ _ _ _]
 exact K1 hq
theorem B9(Rw:eV bm){e:Addr}{oe:Obj}{vs:Array Value}{t0:Addr}{rest:List Value}{Q:Value→Shared→Prop}
  (hC:h.get? C=some (excClassObj nm q C N bs bm hdct sn sub ab col dd k0 k1 k2 k3 k5 newId)) (he:h.get? e=some oe) (hcls:oe.cls=.ref C) (hd:oe.data=.fields vs) (h0:vs[0]?=some (.ref t0))
  (hq:Q .none ⟨(h.push { cls:=.type "tuple",data:=.seq rest.toArray}).update e (Obj.mapFields (·.setIfInBounds 0 (.ref h.objs.size))),g,d,t,os⟩) (hrest:rest.length≤J5) :
  wpAny (model prog w) A (call (.builtin "Exception.__init__") (.ref e::rest)) Q E ⟨h,g,d,t,os⟩:=by
 have F:=PySem.F.excBase_Exception
 refine wpAny_call (codeAny_call_builtin F.init.plain F.initEntry (pI Rw hC he hcls ?_))
 unfold Builtin.«BaseException.__init__»
 dsimp only
 rw[if_neg (by simp)]
 unfold newTuple Builtin.BaseException.bexcPut
 have hsz:0<vs.size:=(Array.getElem?_eq_some_iff.mp h0).1
 have he₁:=K3 (h:=h) { cls:=.type "tuple",data:=.seq rest.toArray} he
 refine J1 (wpAny_newObj_type (J1 (J1 (wpAny_field he₁ hd h0 (J1 (wpAny_setField he₁ hd hsz ?_))))) (by show rest.toArray.size≤J5;rw[Q2];exact hrest))
 exact wpAny_letGo (K1 hq)
end
section
variable {G:cq}{dd:Nat}{fn:bW}{ls ls' ls'':List (Str×V)}{H H' H₁ H₂ H₃:List O}{v a b f:V}{vs first:List V}{d₁:Nat}{c:Cx}{ρ:List Addr}{s:Shared}{m:Str→Option Value}{fr:List (Addr×Obj)}{os:List Obj}
theorem u6{i d:Nat}{C:Addr}{x:Str}{o' v':Value}{refs:List Addr}{fs fs':List (Str×V)}{Q:Unit→Shared→Prop}{E:Value→Shared→Prop}(ok:c.Ok G dd)(R:aY c ls ρ H s)(ro:VR ρ (.obj i) o')(rv:VR ρ v v')
  (hi:H[i]?=some (.exc C (some d))) (hdd:H[d]?=some (.dict fs)) (hf:iz x v fs fs') (hC:∀ P,fD (G.K P) C refs x=true) (hz:fs'.length≤1000)
  (hQ:∀ s',aY c ls ρ (H.set d (.dict fs')) s'→Q () s'):wpAny (model G.prog c.w) c.A (setAttr o' x v') Q E s:=by
 obtain⟨a,ha,rfl⟩:=ro
 have hX:=R.inK ok
 obtain⟨m,fr,os,W⟩:=R
 obtain⟨ob,hob,hm,hr,hg⟩:=W.mem ha hi
 obtain⟨ws,od,rfl,h6⟩:=hr.excInst
 obtain⟨ad,had,hod⟩:=hr.2.2.2
 have hod':od=some ad:=hod
 subst hod'
 obtain⟨ob2,_,_,⟨es,n,rfl,hes⟩,hg2⟩:=W.mem had hdd
 have h1:=hC c.w.params
 unfold fD at h1
 simp only[V2,beq_iff_eq] at h1
 obtain⟨⟨⟨k1,k2⟩,k3⟩,k4⟩:=h1
 have I:InstAt s.heap a ⟨.ref C,some ad,.fields ws,#[]⟩ C (some (dictOf es n)):=⟨hg,rfl,rfl,hg2⟩
 have hp:=Bu (P:=c.w.params) (t:=s.toks+1) rv hf hes
 refine set_plain hX I k1 (xI (s:={ s with toks:=s.toks+1}) hX I rfl k2 k3 k4 hes.some (by rw[hp.len];exact hz) fun h' hk hd=>?_)
 exact hQ _ (W.setAt (t:=s.toks+2) had (J4.mp hdd).1 hk hd ⟨_,_,rfl,hp⟩)
theorem lF{o x pos' e pos}{i:Nat}{C:Addr}{refs:List Addr}(h:Ev G dd fn e ls H v H₁)(ho:Ev G dd fn o ls H₁ (.obj i) H₂)(hi:H₂[i]?=some (.exc C none))(hC:∀ P,fD (G.K P) C refs x=true)
  (hs:∀ env,Y3 e (some (.Attribute o x pos')) pos.line env=pure false:=by intro _;rfl):Ex G dd fn (.Assign [.Attribute o x pos'] e pos) ls H .next ls (H₂.set i (.exc C (some H₂.length))++[.dict [(x,v)]]):=fun c s ρ Q E hc ok R hQ=>by
 refine plainObj_wpAny_Assign_Attribute (two h ho hc ok R fun ρ' s' v' o' hp R' rv ro=>?_) (hs _)
 exact xA ok R' ro rv hi hC fun ρ'' s'' hp' R''=>hQ ρ'' s'' _ (hp.trans hp') R'' rfl
theorem gJ{o x pos' e pos}{i d:Nat}{C:Addr}{refs:List Addr}{fs fs':List (Str×V)}(h:Ev G dd fn e ls H v H₁)(ho:Ev G dd fn o ls H₁ (.obj i) H₂)(hi:H₂[i]?=some (.exc C (some d)))(hd:H₂[d]?=some (.dict fs))(hf:iz x v fs fs')(hC:∀ P,fD (G.K P) C refs x=true)(hz:fs'.length≤1000:=by decide)
  (hs:∀ env,Y3 e (some (.Attribute o x pos')) pos.line env=pure false:=by intro _;rfl):Ex G dd fn (.Assign [.Attribute o x pos'] e pos) ls H .next ls (H₂.set d (.dict fs')):=fun c s ρ Q E hc ok R hQ=>by
 refine plainObj_wpAny_Assign_Attribute (two h ho hc ok R fun ρ' s' v' o' hp R' rv ro=>?_) (hs _)
 exact u6 ok R' ro rv hi hd hf hC hz fun s'' R''=>hQ ρ' s'' _ hp R'' rfl
noncomputable def BJ(K:Frag)(C:Addr)(x:Str)(f:Addr):Bool:=specialIn K (.ref C) (J0 "__getattribute__")==some (some (.builtin "type.__getattribute__")) && readsIn K C (.type "type")
theorem Gm.cls{C g:Addr}{x:Str}(hC:∀ P,BJ (G.K P) C x g=true)(hf:∀ P,findCls (G.K P) (.ref C) (.type "type") x=some (.val (.ref g))):Gm G dd (.top C) x H (.top g) []:=fun c s ls ρ o' pl Q E ok R ro hQ=>by
 obtain rfl:=ro
 have h1:=hC c.w.params
 unfold BJ at h1
 simp only[V2,beq_iff_eq] at h1
 exact method_cls (R.inK ok) h1.1 (cls_value (R.inK ok) h1.2 (hf _) rfl (hQ _ _ _ R.tok rfl trivial))
theorem Bs{T n:String}{x:Str}(h1:typeOf (.type T)=pure (.type "type"))(h2:Manifest.isStub T=false)(hf:∀ P,findCls (G.K P) (.type T) (.type "type") x=some (.val (.builtin n)))(h3:handedIn (.builtin n)=true):Gm G dd (.ty T) x H (.bi n) []:=fun c s ls ρ o' pl Q E ok R ro hQ=>by
 obtain rfl:=ro
 have hX:=ok.X
 obtain⟨m,fr,os,W⟩:=R
 exact method_type W.F hX h1 h2 (hf _) h3 (hQ _ _ _ (aY.tok ⟨m,fr,os,W⟩) rfl trivial)
theorem oZ{i:Nat}{C:Addr}{d:Option Nat}{args:List V}{nm q:Str}{N:Addr}{bs bm:List Value}{hdct:Bool}{sn:List Str}{sub:List Value}{ab:Bool}{col:Option Bool}{dt:Option Addr}{k0 k1 k2 k3 k5:Option Value}{newId:String}(hi:H[i]?=some (.exc C d))
  (hK:∀ P,(G.K P).lookup C=some (excClassObj nm q C N bs bm hdct sn sub ab col dt k0 k1 k2 k3 k5 newId)) (hR:eV bm) (hz:args.length≤1000:=by decide):Cl G 0 (.bi "Exception.__init__") (.obj i::args) H .none H:=fun c s ls ρ f' vs Q E ok R rf ra hQ=>by
 obtain rfl:=rf
 obtain⟨x',rest,rfl,⟨a,ha,e⟩,rb⟩:=ra.cc
 clear ra
 have ra:=rb
 ·subst e
  have hX:=R.inK ok
  have hlen:=ra.len
  have hz':rest.length≤J5:=by rw[J9];lia
  obtain⟨hh,g,dr,t,os'⟩:=s
  obtain⟨m,fr,os,W⟩:=R
  obtain⟨ob,hob,hm,hr,hg⟩:=W.mem ha hi
  obtain⟨⟨ws,hd,h6,⟨t0,h0⟩,h1⟩,hcls,hsl,hdi⟩:=id hr
  refine B9 hR (hX _ _ (hK _)) hg hcls hd h0 ?_ hz'
  have hlt:i<H.length:=(J4.mp hi).1
  have he₁:=K3 (h:=hh) { cls:=.type "tuple",data:=.seq rest.toArray} hg
  have hd₃:=Obj.data_mapFields hd (·.setIfInBounds 0 (Value.ref hh.objs.size))
  have c1:(Obj.mapFields (·.setIfInBounds 0 (Value.ref hh.objs.size)) ob).cls=ob.cls:=Obj.cls_mapFields _ _
  have c2:(Obj.mapFields (·.setIfInBounds 0 (Value.ref hh.objs.size)) ob).dict=ob.dict:=by unfold Obj.mapFields;split <;> rfl
  have c3:(Obj.mapFields (·.setIfInBounds 0 (Value.ref hh.objs.size)) ob).slots=ob.slots:=by unfold Obj.mapFields;split <;> rfl
  have hx:OR c.w.params ρ (.exc C d) (Obj.mapFields (·.setIfInBounds 0 (Value.ref hh.objs.size)) ob):=by
   refine⟨⟨_,hd₃,?_,⟨hh.objs.size,?_⟩,?_⟩,c1.trans hcls,c3.trans hsl,?_⟩
   ·show 6≤(ws.setIfInBounds 0 _).size
    rw[Array.size_setIfInBounds];exact h6
   ·show(ws.setIfInBounds 0 _)[0]?=_
    rw[Array.getElem?_setIfInBounds_self_of_lt (by lia)]
   ·show(ws.setIfInBounds 0 _)[1]?=_
    rw[Array.getElem?_setIfInBounds_ne (by decide)];exact h1
   cases d with
   | none=>exact c2.trans hdi
   | some d=>obtain⟨x,e1,e2⟩:=hdi;exact⟨x,e1,c2.trans e2⟩
  have R1:=W.setAt (t:=t) (h:=(hh.push { cls:=.type "tuple",data:=.seq rest.toArray}).update a (Obj.mapFields (·.setIfInBounds 0 (.ref hh.objs.size)))) ha hlt (fun b o hb e=>(W4 _ _ (Ne.symm hb)).trans (K3 _ e)) (Heap.get?_update_self _ he₁ (Obj.isFreed_of_fields hd₃)) hx
  rw[bP hi] at R1
  exact hQ ρ _ _ (J2 _) R1 rfl
end
noncomputable def kQ(G:cq)(dd:Nat)(fn:bW)(e:Expr)(ls:List (Str×V))(H:List O)(v:V)(H':List O):Prop:=
 ∀ (c:Cx) (A:Around) (s:Shared) (ρ:List Addr) (Q E:Value→Shared→Prop),c.fn=fn→c.Ok G dd→aY c ls ρ H s→EQ c ls ρ H' v Q→wpAny (model G.prog c.w) A (eval e c.env) Q E s
noncomputable def jr(G:cq)(dd:Nat)(fn:bW)(es:List Expr)(ls:List (Str×V))(H:List O)(vs:List V)(H':List O):Prop:=
 ∀ (c:Cx) (A:Around) (s:Shared) (ρ:List Addr) (pos:Pos) (Q:List Value→Shared→Prop) (E:Value→Shared→Prop),c.fn=fn→c.Ok G dd→aY c ls ρ H s→(∀ ρ' s' vs',ρ <+: ρ'→aY c ls ρ' H' s'→bq ρ' vs vs'→Q vs' s')→
  wpAny (model G.prog c.w) A (spliced (backTo pos (K7 es c.env))) Q E s
section
variable {G:cq}{dd:Nat}{fn fn':bW}{ls ls' ls'':List (Str×V)}{H H' H₁ H₂ H₃:List O}{v a b f ov iv:V}{vs first:List V}{d₁:Nat}{c:Cx}{ρ ρ':List Addr}{s:Shared}{own own':List (Addr×Obj)}{I Is:List Addr}{m:Str→Option Value}{fr:List (Addr×Obj)}{os:List Obj}
theorem jr.nil:jr G dd fn [] ls H [] H:=fun c A s ρ pos Q E _ _ R hQ=>args_nil (hQ ρ s [] (J2 _) R trivial)
theorem jr.cons{e es}(h:kQ G dd fn e ls H v H₁)(h₂:jr G dd fn es ls H₁ vs H₂)(he:∀ env,K7 (e::es) env=(false,eval e env)::K7 es env:=by intro _;rfl):jr G dd fn (e::es) ls H (v::vs) H₂:=
 fun c A s ρ pos Q E hc ok R hQ=>
  args_cons (h c A s ρ _ _ hc ok R fun ρ₁ s₁ v' hp R₁ rv=>h₂ c A s₁ ρ₁ pos (fun ws s₂=>Q (v'::ws) s₂) _ hc ok R₁ fun ρ₂ s₂ vs' hp₂ R₂ rvs=>hQ ρ₂ s₂ (v'::vs') (hp.trans hp₂) R₂ ⟨rv.mono hp₂,rvs⟩) (he _)
theorem uC{x k pos}:kQ G dd fn (.Constant (.str x) k pos) ls H (.str x) H:=fun c A s ρ Q E _ _ R hQ=>
 wpAny_Constant_str (hQ ρ _ _ (J2 _) R.tok ⟨_,rfl⟩)
theorem kQ.loc(S:bz fn){x pos}(hm:(x,v)∈ls)(hk:(x,NameKind.local)∈fn.sc.names):kQ G dd fn (.Name x pos) ls H v H:=fun c A s ρ Q E hc ok R hQ=>by
 obtain⟨m,fr,os,W⟩:=R
 obtain⟨v',e,r⟩:=W.sls.all _ hm
 exact wH W.F e (hQ ρ _ _ (J2 _) ⟨m,fr,os,W⟩ r) ok.hk (S.kind hk c hc) (S.dbg hk)
theorem gy{x y pos xp}{i d:Nat}{C:Addr}{fs:List (Str×V)}(h:kQ G dd fn (.Name y xp) ls H (.obj i) H)(hi:H[i]?=some (.excT C (some d)))(hd:H[d]?=some (.dict fs))(hf:Fd x v fs)(hC:∀ P,iG (G.K P) C x=true)(hv:∀ n,v≠.bi n) :
  kQ G dd fn (.Attribute (.Name y xp) x pos) ls H v H:=fun c A s ρ Q E hc ok R hQ=>by
 refine Attribute_Name_ (h c A s ρ _ _ hc ok R fun ρ' s' o' hp R' ro=>?_)
 obtain⟨a,ha,rfl⟩:=ro
 have R0:=R'
 obtain⟨m,fr,os,W⟩:=R'
 obtain⟨ob,_,_,⟨⟨ws,hdt,h6⟩,hcls,hsl,ad,had,hdict⟩,hg⟩:=W.mem ha hi
 obtain⟨od,_,_,⟨es,n,rfl,hes⟩,hg2⟩:=W.mem had hd
 obtain⟨oc,odd,oda,osl⟩:=ob
 dsimp only at hdt hcls hsl hdict
 subst hdt hcls hsl hdict
 obtain⟨v',g,rv⟩:=hf.getL hes
 have I:InstAt s'.heap a ⟨.ref C,some ad,.fields ws,#[]⟩ C (some (dictOf es n)):=⟨hg,rfl,rfl,hg2⟩
 exact AG (R0.inK ok) I (hC _) g (qu rv hv) (hQ ρ' _ _ hp R0.tok rv)
theorem B6{A:Around}{c:Cx}{s:Shared}{ρ:List Addr}{ws:List Value}{Q E:Value→Shared→Prop}(R:aY c ls ρ H s)(rw:bq ρ vs ws)(hz:vs.length≤J5)(hQ:∀ ρ' s' v',ρ <+: ρ'→aY c ls ρ' (H++[.tup vs]) s'→VR ρ' (.obj H.length) v'→Q v' s') :
  wpAny (model G.prog c.w) A (newTuple ws) Q E s:=by
 obtain⟨m,fr,os,W⟩:=R
 have hlen:H.length=ρ.length:=W.hos.len.trans W.len.symm
 refine newTuple_N W.F W.N (fun h' F' N'=>?_) (by rw[←rw.len];exact hz)
 have R':=W.alloc (t:=s.toks) (x:=.tup vs) F' N' W.lt ⟨ws,rfl,rw⟩
 exact hQ (ρ++[s.heap.objs.size]) _ _ (K4 _ _) R' ⟨_,by rw[hlen];simp,rfl⟩
theorem kQ.tup{elts k pos}(h:jr G dd fn elts ls H vs H₁)(hz:vs.length≤J5):kQ G dd fn (.Tuple elts k pos) ls H (.obj H₁.length) (H₁++[.tup vs]):=fun c A s ρ Q E hc ok R hQ=>by
 refine Tuple_ (h c A s ρ pos _ E hc ok R fun ρ₁ s₁ ws hp R₁ rw=>?_)
 exact B6 R₁ rw hz fun ρ' s' v' hp' R' rv=>hQ ρ' s' v' (hp.trans hp') R' rv
theorem kK.rep{i:Nat}{a:Addr}(R:kK c ls ρ H i a s):aY c ls ρ H s:=by
 rcases R.2 with⟨_,R⟩ | ⟨_,_,_,_,_,_,hO,_⟩
 ·exact R
 exact hO.rep
theorem rZ{i:Nat}{a:Addr}{Q:Unit→Shared→Prop}{E:Value→Shared→Prop}{M:Model}{A:Around}{C:Addr}{d:Option Nat}(R:kK c ls ρ H i a s)(hH:H[i]?=some (.excT C d))(hQ:∀ s',aY c ls ρ H s'→Q () s'):wpAny M A (setFlight (.ref a) none) Q E s:=by
 obtain⟨ha,⟨⟨C',d',hE⟩,R⟩ | ⟨_,oe,vs,T,oT,ts,hO,he,hd,h1,hT,hdT,h3⟩⟩:=R
 ·rw[hE] at hH;cases hH
 have hsz3:3<ts.size:=(Array.getElem?_eq_some_iff.mp h3).1
 have other:∀ b,b≠T→(s.heap.update T (Obj.mapFields (·.setIfInBounds 3 ((none:Option Addr).elim Value.none fun f=>rawInt f)))).get? b=s.heap.get? b:=fun b hb=>W4 _ _ (Ne.symm hb)
 unfold setFlight
 refine J1 (wpAny_field he hd h1 ?_)
 rw[if_pos (show(Value.ref T != Value.none)=true from by simp)]
 exact wpAny_setField hT hdT hsz3 (hQ _ (hO.but (t:=s.toks) fun b o hb e=>(other b (by simpa using hb)).trans e).rep)
theorem zE{A:Around}{c:Cx}{s:Shared}{ρ:List Addr}{Q:Unit→Shared→Prop}{E:Value→Shared→Prop}{x:Str}{v':Value}(S:bz fn)(hk:(x,NameKind.local)∈fn.sc.names)(hst:iz x v ls ls')(hc:c.fn=fn)(ok:c.Ok G dd)(R:aY c ls ρ H s)(rv:VR ρ v v')
  (hQ:∀ s',aY c ls' ρ H s'→Q () s'):wpAny (model G.prog c.w) A (storeName c.env x v') Q E s:=by
 obtain⟨m,fr,os,W⟩:=R
 refine wpAny_storeName_local (S.kind hk c hc) (Cx.ns W.F.ns) (fun h' hn hs=>?_) ?_
 ·rw[c.env_locals] at hn hs
  exact hQ _ (W.store rv hst (W.F.set hn hs) (W.N.set hs))
 have:=ok.hk
 rw[c.env_scope,this];rfl
theorem xU{A:Around}{c:Cx}{s:Shared}{ρ:List Addr}{Q:Unit→Shared→Prop}{E:Value→Shared→Prop}{x:Str}{pos:Pos}(S:bz fn)(hk:(x,NameKind.local)∈fn.sc.names)(hc:c.fn=fn)(ok:c.Ok G dd)(R:aY c ls ρ H s)
  (hQ:∀ s',aY c [] ρ H s'→Q () s'):wpAny (model G.prog c.w) A (do bindName c.env x .none;unbindBehindTheSuite c.env x pos) Q E s:=by
 obtain⟨m,fr,os,W⟩:=R
 refine wpAny_nameGoes (S.kind hk c hc) (Cx.ns W.F.ns) ?_ fun h' m' hn hs=>?_
 ·have:=ok.hk
  rw[c.env_scope,this];rfl
 rw[c.env_locals] at hn hs
 exact hQ _ ⟨m',fr,os,W.gens,W.drawn,W.sos,⟨hn,fun b o e=>hs.extBut b o (fun q=>by rw[q,V3 W.F.above] at e;cases e) (W.F.keep b o e),W.F.above⟩,W.N.set hs,⟨fun p hp=>(nomatch hp),V7⟩,W.sfr,W.hos,W.len,W.nd,W.cs,W.pn⟩
theorem zo{i:Nat}{a C:Addr}{d:Option Nat}{M:Model}(R:aY c ls ρ H s)(hi:H[i]?=some (.excT C d))(ha:ρ[i]?=some a):Looks M s.heap (typeOf (.ref a)) (.ref C):=by
 obtain⟨m,fr,os,W⟩:=R
 obtain⟨ob,_,_,hr,hg⟩:=W.mem ha hi
 have hc:ob.cls=.ref C:=by cases d <;> exact hr.2.1
 exact hc▸(Looks.ld hg).andThen .now
theorem Cy{i:Nat}{a C D:Addr}{d:Option Nat}{tx:Str}{tp pos:Pos}{nm:Option Str}{body:List Stmt}{rest:List ExceptHandler}{Q:Flow→Shared→Prop}{E:Value→Shared→Prop}(S:bz fn)(hc:c.fn=fn)(ok:c.Ok G dd)(R:kK c ls ρ H i a s)(hH:H[i]?=some (.excT C d))
  (hn:∀ P,nsIn (G.K P) J3 tx=some (some (.ref D))) (hk:(tx,NameKind.globalImplicit)∈fn.sc.names) (hx:∀ P,exmOne (G.K P) (.ref C) (.ref D)=some false)
  (h:wpAny (model G.prog c.w) c.A (handleBy (.ref a) c.env rest) Q E s):wpAny (model G.prog c.w) c.A (handleBy (.ref a) c.env (.ExceptHandler (some (.Name tx tp)) nm body pos::rest)) Q E s:=by
 obtain⟨m,fr,os,W⟩:=R.rep
 refine wpAny_handleBy_cons (codeAny_handlers_test (jI W.F ok.X (topRead_of ok.T) (hn _) ?_ ok.hk (S.kind hk c hc) (S.dbg hk))) (by intro q;cases q)
 exact(exm_one (R.rep.inK ok) (zo R.rep hH R.1) (hx _)).here h
theorem AF{i:Nat}{a C D:Addr}{d:Option Nat}{tx n:Str}{tp pos rp:Pos}{e:Expr}{rest:List ExceptHandler}{Q:Flow→Shared→Prop}{E:Value→Shared→Prop}(S:bz fn)(hc:c.fn=fn)(ok:c.Ok G dd)(R:kK c ls ρ H i a s)(hH:H[i]?=some (.excT C d))
  (hn:∀ P,nsIn (G.K P) J3 tx=some (some (.ref D))) (hk:(tx,NameKind.globalImplicit)∈fn.sc.names) (hx:∀ P,exmOne (G.K P) (.ref C) (.ref D)=some true)
  (hl:(n,NameKind.local)∈fn.sc.names) (hst:iz n (.obj i) ls ls') (he:kQ G dd fn e ls' H v H')
  (hQ:FM c [] ρ H' (.ret v) Q):wpAny (model G.prog c.w) c.A (handleBy (.ref a) c.env (.ExceptHandler (some (.Name tx tp)) (some n) [.Return (some e) rp] pos::rest)) Q E s:=by
 obtain⟨m,fr,os,W⟩:=R.rep
 refine wpAny_handleBy_cons (codeAny_handlers_test (jI W.F ok.X (topRead_of ok.T) (hn _) ?_ ok.hk (S.kind hk c hc) (S.dbg hk))) (by intro q;cases q)
 refine(exm_one (R.rep.inK ok) (zo R.rep hH R.1) (hx _)).here ?_
 refine codeAny_handlers_suite_as ?_
 refine rZ R hH fun s₁ R₁=>?_
 refine zE S hl hst hc ok R₁ ⟨a,R.1,rfl⟩ fun s₂ R₂=>?_
 refine wpAny_execs_cons (wpAny_Return_some (he c _ s₂ ρ _ _ hc ok R₂ fun ρ' s₃ v' hp R₃ rv=>?_))
 refine xU S hl hc ok R₃ fun s₄ R₄=>?_
 exact hQ ρ' s₄ _ hp R₄ ⟨v',rfl,rv⟩
theorem EH{body:List Stmt}{h₀:ExceptHandler}{hs:List ExceptHandler}{pos:Pos}(h:Es G dd fn body ls H (.ret v) ls' H'):Ex G dd fn (.Try body (h₀::hs) [] [] pos) ls H (.ret v) ls' H':=fun c s ρ Q E hc ok R hQ=>by
 refine wpAny_Try_except (h c s ρ _ _ hc ok R fun ρ' s' f' hp R' rf=>?_)
 obtain⟨v',rfl,rv⟩:=rf
 exact hQ ρ' s' _ hp R' ⟨v',rfl,rv⟩
theorem C4{body:List Stmt}{hs:List ExceptHandler}{pos:Pos}{i:Nat}{C D:Addr}{d:Option Nat}{tx n:Str}{tp hpos rp:Pos}{e:Expr}{k:Addr}(S:bz fn)(hcm:fn.cdv=.ref k)(h:bv G dd fn body ls H i ls' H₁)(hH:H₁[i]?=some (.excT C d))
  (hn:∀ P,nsIn (G.K P) J3 tx=some (some (.ref D))) (hk:(tx,NameKind.globalImplicit)∈fn.sc.names) (hx:∀ P,exmOne (G.K P) (.ref C) (.ref D)=some true)
  (hl:(n,NameKind.local)∈fn.sc.names) (hst:iz n (.obj i) ls' ls'') (he:kQ G dd fn e ls'' H₁ v H') :
  Ex G dd fn (.Try body (.ExceptHandler (some (.Name tx tp)) (some n) [.Return (some e) rp] hpos::hs) [] [] pos) ls H (.ret v) [] H':=fun c s ρ Q E hc ok R hQ=>by
 have hm:=ok.cm0 (by rw[hc];exact hcm)
 refine wpAny_Try_except (h c s ρ _ _ hc ok hm R fun ρ' s' a hp R'=>?_)
 refine vj ok hm R' (.inr hH) fun s₂ R₂=>?_
 rw[bP hH] at R₂
 refine ou R₂ fun s₃ R₃=>?_
 exact AF S hc ok R₃ hH hn hk hx hl hst he fun ρ'' s'' f hp'' R'' rf=>hQ ρ'' s'' f (hp.trans hp'') R'' rf
theorem C3{body:List Stmt}{hs:List ExceptHandler}{pos:Pos}{i:Nat}{C D D':Addr}{d:Option Nat}{tx tx' n:Str}{nm:Option Str}{b':List Stmt}{tp tp' hpos hpos' rp:Pos}{e:Expr}{k:Addr}(S:bz fn)(hcm:fn.cdv=.ref k)(h:bv G dd fn body ls H i ls' H₁)(hH:H₁[i]?=some (.excT C d))
  (hn':∀ P,nsIn (G.K P) J3 tx'=some (some (.ref D'))) (hk':(tx',NameKind.globalImplicit)∈fn.sc.names) (hx':∀ P,exmOne (G.K P) (.ref C) (.ref D')=some false)
  (hn:∀ P,nsIn (G.K P) J3 tx=some (some (.ref D))) (hk:(tx,NameKind.globalImplicit)∈fn.sc.names) (hx:∀ P,exmOne (G.K P) (.ref C) (.ref D)=some true)
  (hl:(n,NameKind.local)∈fn.sc.names) (hst:iz n (.obj i) ls' ls'') (he:kQ G dd fn e ls'' H₁ v H') :
  Ex G dd fn (.Try body (.ExceptHandler (some (.Name tx' tp')) nm b' hpos'::.ExceptHandler (some (.Name tx tp)) (some n) [.Return (some e) rp] hpos::hs) [] [] pos) ls H (.ret v) [] H':=fun c s ρ Q E hc ok R hQ=>by
 have hm:=ok.cm0 (by rw[hc];exact hcm)
 refine wpAny_Try_except (h c s ρ _ _ hc ok hm R fun ρ' s' a hp R'=>?_)
 refine vj ok hm R' (.inr hH) fun s₂ R₂=>?_
 rw[bP hH] at R₂
 refine ou R₂ fun s₃ R₃=>?_
 refine Cy S hc ok R₃ hH hn' hk' hx' ?_
 exact AF S hc ok R₃ hH hn hk hx hl hst he fun ρ'' s'' f hp'' R'' rf=>hQ ρ'' s'' f (hp.trans hp'') R'' rf
end
noncomputable def jl:Code→Bool
 | .builtin id _=>Builtin.Bytes.decodersThatHold.contains id
 | _=>false
noncomputable def wY(l:List (Code×Pos)):Prop:=∀ x∈l,jl x.1=false
noncomputable def bB{α:Type}(M:Model)(A:Around)(t:Sem α)(Q:α→Shared→Prop)(s:Shared):Prop:=
 ∀ Γ p,Γ.In A→jl Γ.code=false→wY Γ.below→Sem.wp M Γ t (fun a _ s'=>Q a s') (fun _ _ _=>False) p s
noncomputable def cr(M:Model)(A:Around)(c:Code)(R:Flow→Shared→Prop)(s:Shared):Prop:=
 ∀ Γ p,Γ.code=c→Γ.Below A→wY Γ.below→wpCode M Γ (fun r s'=>match r with | .ok f=>R f s' | .error _=>False) p s
section
variable {α β:Type}{M:Model}{A:Around}{s:Shared}
theorem bB.any{t:Sem α}{Q:α→Shared→Prop}(h:wpAny M A t Q (fun _ _=>False) s):bB M A t Q s:=fun Γ p hΓ _ _=>h Γ p hΓ
theorem cr.any{c:Code}{R:Flow→Shared→Prop}(h:codeAny M A c (fun r s'=>match r with | .ok f=>R f s' | .error _=>False) s):cr M A c R s:=fun Γ p hc hΓ _=>h Γ p hc hΓ
theorem bH{t:Sem α}{Q Q':α→Shared→Prop}(h:bB M A t Q s)(hQ:∀ a s,Q a s→Q' a s):bB M A t Q' s:=
 fun Γ p hΓ h1 h2=>Sem.wp_mono M Γ t (fun a _ s=>hQ a s) (fun _ _ _ x=>x) p s (h Γ p hΓ h1 h2)
theorem vQ{c:Code}{R R':Flow→Shared→Prop}(h:cr M A c R s)(hR:∀ f s,R f s→R' f s):cr M A c R' s:=
 fun Γ p hc hΓ hn=>wpCode_mono (fun r s' x=>by cases r with | ok f=>exact hR f s' x | error e=>exact x) (h Γ p hc hΓ hn)
theorem al{m:Sem α}{f:α→Sem β}{Q:β→Shared→Prop}(h:bB M A m (fun a s'=>bB M A (f a) Q s') s):bB M A (m >>= f) Q s:=fun Γ p hΓ h1 h2=>by
 rw[Sem.wp_bind']
 exact Sem.wp_mono M Γ m (fun a p' s' h'=>h' Γ p' hΓ h1 h2) (fun _ _ _ h'=>h'.elim) p s (h Γ p hΓ h1 h2)
theorem ax{a:α}{Q:α→Shared→Prop}(h:Q a s):bB M A (pure a) Q s:=fun _ _ _ _ _=>h
theorem cL{t t':Sem α}{Q:α→Shared→Prop}(e:t=t')(h:bB M A t' Q s):bB M A t Q s:=e▸h
theorem bp{pos:Pos}{Q:Unit→Shared→Prop}(h:Q () s):bB M A (standAt pos) Q s:=fun _ _ _ _ _=>h
theorem pV{Q:Unit→Shared→Prop}(h:Q () s):bB M A point Q s:=fun _ _ _ _ _=>h
theorem bO{vs:List Value}{m:Sem α}{Q:α→Shared→Prop}(h:bB M A m Q s):bB M A (holding vs m) Q s:=
 fun Γ p hΓ h1 h2=>by rw[Sem.wp_holding];exact h Γ p hΓ h1 h2
theorem db{m:Sem α}{k:Value→Sem Unit}{Q:α→Shared→Prop}(h:bB M A m Q s):bB M A (m.onRaise k) Q s:=fun Γ p hΓ h1 h2=>by
 rw[Sem.wp_onRaise]
 exact Sem.wp_mono M Γ m (fun _ _ _ h'=>h') (fun _ _ _ h'=>h'.elim) p s (h Γ p hΓ h1 h2)
theorem y8{vs:List Value}{m:Sem α}{Q:α→Shared→Prop}(h:bB M A m Q s):bB M A (m.keep vs) Q s:=
 fun Γ p hΓ h1 h2=>by rw[Sem.wp_keep];exact h Γ p hΓ h1 h2
theorem bV{m:Sem α}{f:α→Sem β}{Q:β→Shared→Prop}(h:wpAny M A m (fun a s'=>bB M A (f a) Q s') (fun _ _=>False) s):bB M A (m >>= f) Q s:=al (bB.any h)
theorem lg{Γ:PySem.Ctx}{c:Code}{h:Option Value}{p:Pos}(h1:jl Γ.code=false)(h2:wY Γ.below):wY (Γ.enter c h p).below:=fun x hx=>by
 rcases K2.mp hx with rfl | hx
 ·exact h1
 exact h2 x hx
theorem qV{c:Code}{Q:Flow→Shared→Prop}(hc:cr M A c Q s):bB M A (run c none) Q s:=
 fun Γ p hΓ h1 h2=>by
  rw[Sem.wp_run]
  refine wpCode_mono (fun r s' x=>?_) (hc _ p rfl (hΓ.enter c none p (by intro x;cases x)) (lg h1 h2))
  cases r with
  | ok f=>exact x
  | error e=>exact x.elim
theorem ju{f:Value}{pos:List Value}{kw:List (Str×Value)}{Q:Value→Shared→Prop}(hc:cr M A (.call f ⟨pos,kw⟩) (fun r s'=>match r with | .ret v=>Q v s' | _=>False) s):bB M A (call f pos kw) Q s:=
 fun Γ p hΓ h1 h2=>by
  show Sem.wp M Γ (runValue (.call f ⟨pos,kw⟩)) _ _ p s
  rw[Sem.wp_runValue]
  refine wpCode_mono (fun r s' x=>?_) (hc _ p rfl (hΓ.enter _ none p (by intro x;cases x)) (lg h1 h2))
  cases r with
  | ok f=>cases f <;> first | exact x | exact x.elim
  | error e=>exact x.elim
theorem cf{c:Code}{R:Flow→Shared→Prop}(hb:jl c=false)
  (h:bB M (A.under c) (M.den c) (fun fin s'=>match fin with | .done f=>R f s' | .again c'=>c'.quiet=true∧cr M A c' R s') s):cr M A c R s:=fun Γ p hc hΓ hn=>by
 rw[wpCode_iff_wp,hc]
 refine Sem.wp_mono M Γ _ (fun fin p' s' h'=>?_) (fun _ _ _ h'=>h'.elim) p s (h Γ p (hc▸hΓ.in) (hc▸hb) hn)
 cases fin with
 | done f=>exact h'
 | again c'=>exact⟨h'.1,h'.2 (Γ.goto c') p' rfl (hΓ.goto c') hn⟩
theorem t9{c:Code}{R:Flow→Shared→Prop}(hq:c.quiet=true)(hb:jl c=false)(I:Nat→Shared→Prop)
  (turn:∀ n s,I n s→bB M (A.under c) (M.den c) (fun fin s'=>match fin with | .done f=>R f s' | .again c'=>(c'=c∧∃ m,m<n∧I m s')∨(c'.quiet=true∧cr M A c' R s')) s)
  (n:Nat) (h:I n s):cr M A c R s:=by
 induction n using Nat.strongRecOn generalizing s with
 | ind n ih=>
 refine cf hb (bH (turn n s h) fun fin s' hf=>?_)
 cases fin with
 | done f=>exact hf
 | again c'=>
 rcases hf with⟨rfl,m,hm,hI⟩ | hf
 ·exact⟨hq,ih m hm hI⟩
 exact hf
theorem vR{c:Code}{R:Flow→Shared→Prop}(hq:c.quiet=true)(hb:jl c=false)(I:Nat→Shared→Prop)
  (turn:∀ n s,I n s→bB M (A.under c) (M.den c) (fun fin s'=>match fin with | .done f=>R f s' | .again c'=>c'=c∧∃ m,m<n∧I m s') s)
  (n:Nat) (h:I n s):cr M A c R s:=by
 induction n using Nat.strongRecOn generalizing s with
 | ind n ih=>
 refine cf hb (bH (turn n s h) fun fin s' hf=>?_)
 cases fin with
 | done f=>exact hf
 | again c'=>obtain⟨rfl,m,hm,hI⟩:=hf;exact⟨hq,ih m hm hI⟩
end
section
variable {prog:Program}{w:World}{A:Around}{s:Shared}{R:Flow→Shared→Prop}{env:Env}{Q:Flow→Shared→Prop}
theorem oB{body:List Stmt}(h:bB (model prog w) (A.deeper env) (execs body env) (fun f s'=>R (.ret (match f with | .ret v=>v | _=>.none)) s') s):cr (model prog w) A (.func body env) R s:=by
 refine cf rfl ?_
 show bB _ (A.deeper env) (do point;match←(execs body env).onRaise (leaving env) with | .ret v=>ret v | _=>ret .none) _ s
 refine al (pV (al (db (bH h fun f s' h'=>?_))))
 cases f <;> exact ax h'
theorem iu{a:Addr}{args:Args}{o:Obj}{fd:FuncData}{body:List Stmt}(hroom:A.depth<recursionLimit)(ho:s.heap.get? a=some o)
  (hd':o.data=.func fd) (hco:fd.scope.isCoroutine=false) (hgen:fd.scope.isGenerator=false) (hbody:fd.body=.stmts body) (hcd:s.heap.CodeRec fd.code fd.qualname)
  (h:wpAny (model prog w) A.in1 (bindArgs fd args) (fun binds s₁=>
   wpAny (model prog w) A.in1 (newFunctionEnv fd.scope fd.globals fd.closure binds (fd.qualname++".<locals>.") (some a) fd.code none fd.builtins)
    (fun env s₂=>s₂.heap.NoLimit∧cr (model prog w) A (.func body env) R s₂) (fun _ _=>False) s₁) (fun _ _=>False) s) :
  cr (model prog w) A (.call (.ref a) args) R s:=by
 refine cf rfl (bB.any ?_)
 show wpAny _ A.in1 (callAny (.ref a) args) _ _ s
 simp only[callAny]
 refine J1 (wpAny_load ho ?_)
 obtain⟨c,oc,vs,tq,hc,hoc,hdc,hq⟩:=hcd
 simp only[hd',callFunction,hco,hgen,hbody,hc]
 rw[hc] at h
 refine J1 (m:=field (.ref c) 1) (wpAny_field hoc hdc hq (J1 (K1 ?_)))
 exact J1 (wpAny_mono h (fun binds s₁ h₁=>J1 (wpAny_mono h₁ (fun env s₂ h₂=>J1 (wpAny_enterFrame h₂.1 hroom
  (K1 (And.intro rfl h₂.2)))) fun _ _ h'=>h')) fun _ _ h'=>h')
theorem fh{st:Stmt}{rest:List Stmt}(h:bB (model prog w) A (exec st env) (fun f s'=>match f with | .next=>bB (model prog w) A (execs rest env) Q s' | f=>Q f s') s):bB (model prog w) A (execs (st::rest) env) Q s:=by
 rw[execs_cons]
 refine al (bH h fun f s' h'=>?_)
 cases f <;> first | exact h' | exact ax h'
theorem DM{test:Expr}{body orelse:List Stmt}{pos:Pos}(h:wpAny (model prog w) A (isTrue test env (eval test env)) (fun b s₂=>if b then bB (model prog w) A (execs body env) Q s₂ else bB (model prog w) A (execs orelse env) Q s₂) (fun _ _=>False) s) :
  bB (model prog w) A (exec (.If test body orelse pos) env) Q s:=by
 rw[exec_If]
 refine al (bp (bV (wpAny_mono h (fun b s₂ h₂=>?_) fun _ _ x=>x)))
 cases b <;> exact h₂
theorem y9{e:Expr}{pos:Pos}(hi:interactive env=false)(hs:Y3 e none pos.line env=pure false)(h:bB (model prog w) A (eval e env) (fun _=>Q .next) s):bB (model prog w) A (exec (.Expr e pos) env) Q s:=by
 rw[exec_Expr env e pos hi hs]
 exact al (bp (al (bH h fun v s' h'=>bB.any (wpAny_dropValue h'))))
theorem uR{e:Expr}{pos:Pos}(h:bB (model prog w) A (eval e env) (fun v=>Q (.ret v)) s):bB (model prog w) A (exec (.Return (some e) pos) env) Q s:=by
 rw[exec_Return_some]
 exact al (bp (al (bH h fun v s' h'=>ax h')))
theorem gV{x:Str}{pos' pos:Pos}{value:Expr}(hs:Y3 value (some (.Name x pos')) pos.line env=pure false)
  (h:bB (model prog w) A (eval value env) (fun v s₁=>wpAny (model prog w) A (storeName env x v) (fun _=>Q .next) (fun _ _=>False) s₁) s):bB (model prog w) A (exec (.Assign [.Name x pos'] value pos) env) Q s:=by
 rw[exec_Assign_Name env x pos' value pos hs]
 refine al (bp (al (bH h fun v s₁ h₁=>?_)))
 exact bB.any (J1 (wpAny_standAt (J1 (wpAny_bindName (wpAny_mono h₁ (fun _ _ q=>K1 q) fun _ _ x=>x)))))
theorem xj{test:Expr}{body:List Stmt}{pos:Pos}(h:cr (model prog w) A (.whileLoop test body [] env) Q s):bB (model prog w) A (exec (.While test body [] pos) env) Q s:=by
 rw[exec_While]
 refine al (bp ?_)
 unfold runOwn
 exact db (qV h)
theorem tZ{test:Expr}{body:List Stmt}(I:Nat→Shared→Prop)
  (turn:∀ n s,I n s→wpAny (model prog w) A (isTrue test env (eval test env)) (fun b s₂=>
    if b then bB (model prog w) A (execs body env) (fun f s₃=>match f with
      | .next | .cont=>∃ m,m<n∧I m s₃
      | .brk=>R .next s₃
      | .ret v=>R (.ret v) s₃) s₂
    else R .next s₂) (fun _ _=>False) s)
  (n:Nat) (h:I n s):cr (model prog w) A (.whileLoop test body [] env) R s:=by
 refine vR rfl rfl I (fun n s hI=>?_) n h
 show bB _ A ((whileTurn test body [] env).onRaise (fun x=>do noteFrame x env;theTreesLotGoes x)) _ s
 refine db ?_
 simp only[whileTurn]
 refine bV (wpAny_mono (turn n s hI) (fun b s₂ h₂=>?_) fun _ _ h'=>h')
 cases b with
 | false=>
  simp only[Bool.false_eq_true,if_false] at h₂ ⊢
  exact bB.any (J1 (wpAny_execs_nil (K1 h₂)))
 | true=>
 simp only[if_true] at h₂ ⊢
 refine al (bH h₂ fun f s₃ h₃=>?_)
 cases f with
 | next=>exact ax ⟨rfl,h₃⟩
 | cont=>exact ax ⟨rfl,h₃⟩
 | brk=>exact ax h₃
 | ret v=>exact ax h₃
theorem BQ{target iter:Expr}{body:List Stmt}{pos:Pos}(hs:∀ x,V1 iter env x=pure x)
  (h:bB (model prog w) A (eval iter env) (fun x s₁=>wpAny (model prog w) A (pyIter x) (fun it s₂=>cr (model prog w) A (.forLoop target it body [] env) Q s₂) (fun _ _=>False) s₁) s):bB (model prog w) A (exec (.For target iter body [] pos) env) Q s:=by
 rw[exec_For]
 refine al (bp (al (bH h fun x s₁ h₁=>al (cL (hs x) (ax (al (bp (al (bO (bB.any (wpAny_mono h₁ (fun it s₂ h₂=>?_) fun _ _ x=>x)))))))))))
 unfold runOwn
 exact db (qV h₂)
theorem yr{target:Expr}{it:Value}{body:List Stmt}(I:Nat→Shared→Prop)
  (turn:∀ n s,I n s→wpAny (model prog w) A (pyNext it) (fun r s₁=>match r with
   | none=>R .next s₁
   | some v=>wpAny (model prog w) A (letOwnedTupleGo target it v) (fun _ s₁'=>wpAny (model prog w) A (assign target env v) (fun _ s₂=>bB (model prog w) A (execs body env) (fun f s₃=>match f with
      | .next | .cont=>∃ m,m<n∧I m s₃
      | .brk=>R .next s₃
      | .ret v=>R (.ret v) s₃) s₂) (fun _ _=>False) s₁') (fun _ _=>False) s₁) (fun _ _=>False) s)
  (n:Nat) (h:I n s):cr (model prog w) A (.forLoop target it body [] env) R s:=by
 refine t9 rfl rfl I (fun n s hI=>?_) n h
 show bB _ A ((forTurn target it body [] env).onRaise (fun x=>do noteFrame x env;theTreesLotGoes x)) _ s
 refine db ?_
 simp only[forTurn]
 refine al (bp (al (db (bB.any (wpAny_mono (turn n s hI) (fun r s₁ h₁=>?_) fun _ _ h'=>h')))))
 cases r with
 | none=>exact ax (.inr ⟨rfl,cr.any (codeAny_block (wpAny_execs_nil h₁))⟩)
 | some v=>
 refine bV (wpAny_mono h₁ (fun _ s₁' h₁'=>?_) fun _ _ h'=>h')
 refine bV (wpAny_mono h₁' (fun _ s₂ h₂=>al (bH h₂ fun f s₃ h₃=>?_)) fun _ _ h'=>h')
 cases f with
 | next=>exact ax (.inl ⟨rfl,h₃⟩)
 | cont=>exact ax (.inl ⟨rfl,h₃⟩)
 | brk=>exact ax h₃
 | ret v=>exact ax h₃
end
end Internal
section
open Internal
theorem yA{prog:Program}{w:World}{t:Sem PySem.Fin}{s:Shared}{R:Result→Shared→Prop}
  (h:bB (model prog w) callerA t (fun fin s'=>∃ f,fin=.done f∧R (.ok f) s') s) :
  Sem.wp (model prog w) ⟨.builtin "claim.caller" {},none,none,[],none⟩ t (Sem.finPost (model prog w) ⟨.builtin "claim.caller" {},none,none,[],none⟩ R) (fun e _ s'=>R (.error e) s') default s:=by
 refine Sem.wp_mono _ _ _ (fun fin p' s' h'=>?_) (fun _ _ _ x=>x.elim) _ _ (h _ default caller_in (by decide +kernel) fun _ hx=>nomatch hx)
 obtain⟨f,rfl,hf⟩:=h'
 exact hf
theorem Eh{prog:Program}{w:World}{t:Sem PySem.Fin}{s:Shared}{R:Result→Shared→Prop}(hreg:s.asleep)
  (h:bB (model prog w) callerA t (fun fin s'=>∃ f,fin=.done f∧(R (.ok f) s'∧leftWithCleanup s'.gens=false)) s) :
  ∃ n r s' s'',runN (denote table) prog w n s ⟨t,.builtin "claim.caller" {},default,[]⟩=.halted (outcomeOf r) s'∧
   schedN (denote table) prog w n (.single s ⟨t,.builtin "claim.caller" {},default,[]⟩)=.halted (outcomeOf r) s'∧s'.forget=s''.forget∧R r s'':=by
 obtain⟨n,r,s₁,s₂,hs,hn,hfo,hR⟩:=wp_halts_full (M:=model prog w) (R:=R) hreg (yA (R:=fun r s'=>R r s'∧leftWithCleanup s'.gens=false) h)
 exact⟨n,r,s₂,s₁,hn,hs,hfo,hR⟩
theorem CS{c:ClaimW}{tree:List Value→Sem PySem.Fin}{w:World}{s:Shared}{free:Addr→Prop}{gens:Prop}{kept:Heap→Prop}(hz:s.asleep)(hgens:s.gens=#[])
  (hspec:∀ args,c.pre args=true→WData.layableAll args=true→∀ ord:List DictEntry→List DictEntry,(∀ l,(ord l).Perm l)→
   ∃ vs s₁,layAllW c.records (classAt s.heap) w.params ord args s=some (vs,s₁)∧
    bB (model c.prog w) callerA (tree vs) (fun fin s'=>∃ f,fin=.done f∧(c.Ends s args vs s₁ (.ok f) s'∧s'.os=s.os∧AllBare s'.gens∧kept s'.heap)) s₁) :
  c.CallFrom (fun vs=>⟨tree vs,.builtin "claim.caller" {},default,[]⟩) w free gens kept s:=fun args hpre hlay ord hord=>by
 refine Dt fun P hP=>?_
 obtain⟨vs,s₁,hlaid,hcode⟩:=hspec args hpre hlay ord hord
 have hal:=layAllW_rest _ _ _ hlaid
 have hends:=Eh (prog:=c.prog) (w:=w) (t:=tree vs) (s:=s₁) (R:=fun r s'=>c.Ends s args vs s₁ r s'∧s'.os=s.os∧kept s'.heap) (Shared.asleep_of_life hal.2.2.2 hz)
  (bH hcode fun fin s' h=>h.imp fun f h=>⟨h.1,⟨h.2.1,h.2.2.1,h.2.2.2.2⟩,leftWithCleanup_false_of_bare h.2.2.2.1⟩)
 obtain⟨k,r,s',s'',hrun,hsched,hfo,hr⟩:=hends
 have eh:=(Shared.forget_eq hfo).1
 have eo:=(Shared.forget_eq hfo).2.2.2.1
 have hc:=ClaimW.Ends.congr eh hr.1
 refine hP ⟨vs,s₁,hlaid,k,outcomeOf r,s',hsched,Or.imp (fun h=>h.imp fun v h=>⟨congrArg outcomeOf h.1,h.2.1,h.2.2.1,h.2.2.2.1,fun b o y _=>h.2.2.2.2.1 b o y,h.2.2.2.2.2⟩) (fun h=>h.imp fun e h=>h.imp fun ob h=>h.imp fun cls h=>⟨congrArg outcomeOf h.1,h.2.1,h.2.2.1,h.2.2.2.1,h.2.2.2.2.1,fun b o y _=>h.2.2.2.2.2 b o y⟩) hc,fun _ i x hx=>?_,by rw[eh];exact hr.2.2,?_,Shared.rest_eq (eo.trans hr.2.1)⟩
 ·rw[hgens] at hx;simp at hx
 rw[(runN_life _ _ _ hrun).trans hal.2.2.2]
noncomputable abbrev En(q:Program)(loose:List Str)(XP:(Str→Option Value)→Heap→Prop)(YP:World→Heap→Prop)(r:RowW)(d:DefRec)(kwd:List (Str×Expr)):Prop:=
 ∀ (w:World) (s₀ s₁:Shared) (mg mb:Str→Option Value),Ground q loose r.records XP w s₀ mg mb s₁.heap→YP w s₁.heap→∀ (a:Addr) (o:Obj) (pm cd doc dV kV:Value),s₁.heap.get? a=some o→
  o.data=.func { docDef d.name d.params d.body d.scope pm cd doc with defaults:=dV,kwdefaults:=kV}→s₁.heap.CodeRec cd d.name→Dflts mg s₁.heap d.params kwd dV kV→mg d.name=some (.ref a)→s₁.gens=#[]→
  ∀ (args:List WData) (vals:List Value) (as:List Addr),r.claim.pre args=true→WData.layableAll args=true→ReadsAllW r.records (classAt s₀.heap) s₁.heap vals args as→WellAll w.params s₁.heap vals args→(∀ a∈as,(a==sysModules)=false)→
   bB (model r.prog w) callerA (PySem.call (.ref a) vals) (fun v s'=>GoodWG r.claim (classAt s₀.heap) (ExcName.means s₀.heap) args s₁ (.ok (.ret v)) s') s₁
theorem PySem.W.holds_open{r:OpenRow}{q:Program}{loose:List Str}{Xt:Shared→Bool}{XP:(Str→Option Value)→Heap→Prop}{α:Type}{Yf:Shared→α}{Ya:World→α}{YP:World→Heap→Prop}{d:DefRec}{kwd:List (Str×Expr)}{N:Nat}
  (left:LeftO r.prog q loose Xt Yf Ya N) (hY:∀ w s,Yf s=Ya w→YP w s.heap) (hYk:∀ w h h',YP w h→(∀ b o,h.get? b=some o→h'.get? b=some o)→YP w h')
  (hX:∀ s,Xt s=true→XP (s.heap.nsMap J3) s.heap) (hXk:∀ mg h h',XP mg h→(∀ b o,h.get? b=some o→h'.get? b=some o)→XP mg h')
  (hdef:defOf q r.name=some (d,kwd)) (hp:r.prog.theDef r.name=some (d.params,d.body,d.scope)) (hk:kwWritten? d.params.kwonlyargs d.params.kw_defaults=some kwd) (hRf:∀ s,Xt s=true→RecFacts r.records s.heap) (hwr:(!r.writes || r.records.isEmpty)=true)
  (k1:r.wellSaid=true) (ok:(chainsOk q && opensWell r.prog && (frees r.toRowW && r.within.isEmpty))=true) (hb:r.prog.bare) (hw:r.toRowW.promised)
  (call:En q loose XP YP r.toRowW d kwd):r.Holds:=by
 refine Dt fun P hP=>?_
 obtain⟨ok,k5⟩:=Bool.and_eq_true_iff.mp ok
 obtain⟨hch,o1⟩:=Bool.and_eq_true_iff.mp ok
 obtain⟨k5,k6⟩:=Bool.and_eq_true_iff.mp k5
 obtain⟨hsame,hu,ha,hap,hm⟩:=frees_parts k5
 refine hP ⟨k1,hw,⟨hb,o1,?_⟩,hw.witness,fun w=>⟨(left.behind hX hch w).1,fun s' hs'=>?_⟩⟩
 ·show r.toRowW.makers.map _=[]
  rw[hm];rfl
 clear hP
 clear P
 refine Dt fun P hP=>?_
 obtain⟨s₀,hf,hg0,s,hT,hz,hgens,hg,G00,y⟩:=(left.behind (XP:=fun mg h=>XP mg h∧RecFacts r.records h) (fun s hs=>⟨hX s hs,hRf s hs⟩) hch w).2 s' hs'
 have G0:Ground q loose [] XP w s (s.heap.nsMap J3) (s.heap.nsMap builtinsNs) s.heap:=⟨G00.T,G00.B,G00.D,G00.TE,G00.TD,G00.W,G00.X.1,G00.cls,G00.has,G00.apart,G00.once,G00.K⟩
 have RF:=G00.X.2
 have hgens:s.gens=#[]:=Array.eq_empty_of_size_eq_zero (beq_iff_eq.mp hgens)
 have G:Ground q loose r.records XP w s _ _ s.heap:=RF.ground G0
 refine hP ⟨s₀,hf,hg0,s,hT,fun n hn=>?_,RF.1,RF.2.1,?_⟩
 ·obtain rfl:n=r.name:=by split at hn <;> simp_all
  exact pinned_of_view hg G0 hdef hp hk
 refine CS (c:=r.toRowW.claim) (tree:=fun vs=>do match←nsGet mainNs r.name with
   | some f=>do ret (←PySem.call f vs)
   | none=>unsupported "claim.caller:no-such-global") hz hgens fun args hpre hlay ord hord=>?_
 clear hP
 clear P
 refine Dt fun P hP=>?_
 obtain⟨⟨vs,s₁⟩,hlaid⟩:=Option.isSome_iff_exists.mp (layAllW_isSome (P:=w.params) (ord:=ord) G.has args r.toRowW.args s (pre_splitW hpre).1)
 have keeps:=layAllW_keeps _ _ _ hlaid
 have hal:=layAllW_rest _ _ _ hlaid
 obtain⟨as,hrd,hin,hold⟩:=reads_layAllW hord _ _ _ hlaid hlay s₁.heap (fun _ _ e=>e)
 have L:Laid r.records w s s₁ args vs as:=⟨⟨ord,hord,hlaid⟩,hrd,hin,hold,keeps,hal.1.trans hgens,hal.2.2.1⟩
 have G₁:=G.keeps hXk keeps
 obtain⟨a,o,pm,cd,doc,dV,kV,h1,h2,h3,h4,h5⟩:=G₁.fn hdef
 have key:=call w s s₁ _ _ G₁ (hYk _ _ _ (hY w s y) keeps) a o pm cd doc dV kV h2 h3 h4 h5 (defOf_name hdef▸h1) L.gens args vs as hpre hlay L.reads L.well (L.low G.low)
 refine hP ⟨vs,s₁,hlaid,bV (wpAny_nsGet G₁.T.g ?_)⟩
 rw[h1]
 refine al (bH key fun v s₂ g=>ax ⟨.ret v,rfl,?_⟩)
 have z:=GoodWG.laid (c:=r.toRowW.claim) hsame (List.isEmpty_iff.mp k6) (ident_freeW hu ha hap) L g
 exact⟨z.1,z.2.1,z.2.2,fun q=>⟨namesKept_of hT hg _ keeps g.2.1.old,noTable hwr q⟩⟩
end
namespace Internal
end Internal
section
open Internal
section
open PySem.W.S renaming findZ → Y4, findZ_eq → Y5
name_quick tw1947388381943904843 for Y4 by Y5
name_quick tw8075568018651887793 for Y4 by Y5
name_quick tw14325701944645716230 for Y4 by Y5
name_quick tw13674904513147759565 for Y4 by Y5
name_quick tw14979626087600564940 for Y4 by Y5
name_quick tw16222631027787168861 for Y4 by Y5
name_quick tw6176516700144440145 for Y4 by Y5
name_quick tw2611554752454338464 for Y4 by Y5
name_quick tw17016373728026468306 for Y4 by Y5
name_quick tw6523098627680743467 for Y4 by Y5
name_quick tw13261706936674628187 for Y4 by Y5
name_quick tw986269853026090849 for Y4 by Y5
name_quick tw11493714872258299598 for Y4 by Y5
name_quick tw5068434257544371817 for Y4 by Y5
name_quick tw2922074901204462755 for Y4 by Y5
name_quick tw4565691546616451037 for Y4 by Y5
name_quick tw10804646723710106361 for Y4 by Y5
name_quick tw16432479971616331241 for Y4 by Y5
name_quick tw9676229304581654039 for Y4 by Y5
name_quick tw7505897509792200422 for Y4 by Y5
name_quick tw7035115661146626270 for Y4 by Y5
name_quick tw13912434898499826684 for Y4 by Y5
name_quick tw9274575747777397700 for Y4 by Y5
name_quick tw227664154600733314 for Y4 by Y5
name_quick tw8713075359548859761 for Y4 by Y5
name_quick tw5200128776193632040 for Y4 by Y5
name_quick tw1320183511955256522 for Y4 by Y5
name_quick tw682011567655089306 for Y4 by Y5
name_quick tw10500077913531017323 for Y4 by Y5
name_quick tw5294650391894551176 for Y4 by Y5
name_quick tw4558998842232669794 for Y4 by Y5
name_quick tw1333364371103165705 for Y4 by Y5
name_quick tw12700139031502230420 for Y4 by Y5
name_quick tw5248340912204065574 for Y4 by Y5
name_quick tw15766043655864335149 for Y4 by Y5
name_quick tw16406328271908756883 for Y4 by Y5
name_quick tw9458956999447867950 for Y4 by Y5
name_quick tw6125931036764729998 for Y4 by Y5
name_quick tw15663404670287596823 for Y4 by Y5
name_quick tw9787463984185863102 for Y4 by Y5
name_quick tw3442601649717412197 for Y4 by Y5
name_quick tw14778209649434054790 for Y4 by Y5
name_quick tw6550987210724342151 for Y4 by Y5
name_quick tw16437185098154296904 for Y4 by Y5
name_quick tw8902219603052485911 for Y4 by Y5
name_quick tw15450981722951097364 for Y4 by Y5
name_quick tw607167704815816724 for Y4 by Y5
name_quick tw12981051755390344553 for Y4 by Y5
name_quick tw4224760802259116069 for Y4 by Y5
name_quick tw9529234661008812162 for Y4 by Y5
name_quick tw10323183001455561277 for Y4 by Y5
name_quick tw3315324234476444515 for Y4 by Y5
name_quick tw11790162104776037713 for Y4 by Y5
name_quick tw17134893352704234603 for Y4 by Y5
name_quick tw15560500314895047343 for Y4 by Y5
name_quick tw8450942572126056277 for Y4 by Y5
name_quick tw7401281599722004195 for Y4 by Y5
name_quick tw3698559305507148144 for Y4 by Y5
name_quick tw10029231156530900338 for Y4 by Y5
name_quick tw1041845030581493396 for Y4 by Y5
name_quick tw5135500740108067664 for Y4 by Y5
name_quick tw17244072584429378644 for Y4 by Y5
name_quick tw2460228577881660442 for Y4 by Y5
name_quick tw8693227569615203950 for Y4 by Y5
name_quick tw16966814322356759819 for Y4 by Y5
name_quick tw8620020772036689432 for Y4 by Y5
name_quick tw11566699232636054958 for Y4 by Y5
name_quick tw4011157648589011858 for Y4 by Y5
name_quick tw11939915149646268982 for Y4 by Y5
name_quick tw13789449189825218787 for Y4 by Y5
name_quick tw11306939235166856333 for Y4 by Y5
name_quick tw1574873078441994576 for Y4 by Y5
name_quick tw8796240567053077481 for Y4 by Y5
name_quick tw8595292554425487202 for Y4 by Y5
name_quick tw8642067239939848140 for Y4 by Y5
name_quick tw2711585505577850959 for Y4 by Y5
name_quick tw11994158751524154303 for Y4 by Y5
name_quick tw8989982439271903415 for Y4 by Y5
name_quick tw13314330512976039754 for Y4 by Y5
name_quick tw43969757491396457 for Y4 by Y5
name_quick tw5706481520468235054 for Y4 by Y5
name_quick tw5396446701170858492 for Y4 by Y5
name_quick tw5131478536388391638 for Y4 by Y5
name_quick tw10346894026039390216 for Y4 by Y5
name_quick tw1706496860858754268 for Y4 by Y5
name_quick tw932993149863042379 for Y4 by Y5
name_quick tw14210447440969649564 for Y4 by Y5
name_quick tw17394056326795013819 for Y4 by Y5
name_quick tw4775785305629353868 for Y4 by Y5
name_quick tw5565278806992967083 for Y4 by Y5
name_quick tw1735497430108182060 for Y4 by Y5
name_quick tw7299951869573292228 for Y4 by Y5
name_quick tw17279654841073493023 for Y4 by Y5
name_quick tw11788150170368784547 for Y4 by Y5
name_quick tw10670733350059645105 for Y4 by Y5
name_quick tw14112274594779413971 for Y4 by Y5
name_quick tw4075660801711882420 for Y4 by Y5
name_quick tw4933834842325187142 for Y4 by Y5
name_quick tw17111948838632640456 for Y4 by Y5
name_quick tw704327219915372674 for Y4 by Y5
name_quick tw7009043117176579089 for Y4 by Y5
name_quick tw14289078867681016318 for Y4 by Y5
name_quick tw16349216596472256690 for Y4 by Y5
name_quick tw8719427161674164953 for Y4 by Y5
name_quick tw13145125596335152023 for Y4 by Y5
name_quick tw4527066259768149269 for Y4 by Y5
name_quick tw17954471519018878134 for Y4 by Y5
name_quick tw4681523508651956083 for Y4 by Y5
name_quick tw17000458434675057986 for Y4 by Y5
name_quick tw7392212959928792091 for Y4 by Y5
name_quick tw6363645014702824404 for Y4 by Y5
name_quick tw5345256250457102556 for Y4 by Y5
name_quick tw11277716924127702174 for Y4 by Y5
name_quick tw15542503528162795033 for Y4 by Y5
name_quick tw13480552361792772618 for Y4 by Y5
name_quick tw15823609455315575823 for Y4 by Y5
name_quick tw4292500188555128830 for Y4 by Y5
name_quick tw3972328310683599613 for Y4 by Y5
name_quick tw13759679279233594173 for Y4 by Y5
name_quick tw10996506086634736982 for Y4 by Y5
name_quick tw12635297910168745909 for Y4 by Y5
name_quick tw13335737130258781183 for Y4 by Y5
name_quick tw8017206721242287953 for Y4 by Y5
name_quick tw6587116730350146372 for Y4 by Y5
name_quick tw11519604305632133818 for Y4 by Y5
name_quick tw7397068168572129948 for Y4 by Y5
name_quick tw6662432510661729299 for Y4 by Y5
name_quick tw10314498396905981064 for Y4 by Y5
name_quick tw9674257727999782656 for Y4 by Y5
name_quick tw3118938333895590913 for Y4 by Y5
name_quick tw17828083071136270317 for Y4 by Y5
name_quick tw1962928258387122110 for Y4 by Y5
name_quick tw9759809726879904816 for Y4 by Y5
name_quick tw3988873048329089060 for Y4 by Y5
name_quick tw17434858337260393937 for Y4 by Y5
name_quick tw13254397897704925713 for Y4 by Y5
name_quick tw15742981410569661332 for Y4 by Y5
name_quick tw12268644228514654432 for Y4 by Y5
name_quick tw4921902886906138986 for Y4 by Y5
name_quick tw3764465048917985505 for Y4 by Y5
name_quick tw7504490480230193789 for Y4 by Y5
name_quick tw15376083050721069600 for Y4 by Y5
name_quick tw1749818173716722547 for Y4 by Y5
name_quick tw16817318245366136608 for Y4 by Y5
name_quick tw17517737089405305841 for Y4 by Y5
name_quick tw11013792430000457035 for Y4 by Y5
name_quick tw13559156169165276386 for Y4 by Y5
name_quick tw1537898542681612871 for Y4 by Y5
name_quick tw11625766737575182897 for Y4 by Y5
name_quick tw4658958612460137192 for Y4 by Y5
name_quick tw13607416678640721797 for Y4 by Y5
name_quick tw6135381517318000843 for Y4 by Y5
name_quick tw4407734736301137906 for Y4 by Y5
name_quick tw10007627690174824804 for Y4 by Y5
name_quick tw8424611434330503625 for Y4 by Y5
name_quick tw6380047634161181297 for Y4 by Y5
name_quick tw16916688483869632129 for Y4 by Y5
name_quick tw5268983451555188008 for Y4 by Y5
name_quick tw16414604833108395602 for Y4 by Y5
name_quick tw4525517667737911620 for Y4 by Y5
name_quick tw9862997608875712007 for Y4 by Y5
name_quick tw7275051467321613617 for Y4 by Y5
name_quick tw16494616584097029746 for Y4 by Y5
name_quick tw12659028871203227004 for Y4 by Y5
name_quick tw16241802466949684156 for Y4 by Y5
name_quick tw7269565832213808900 for Y4 by Y5
name_quick tw11420187438672877268 for Y4 by Y5
name_quick tw3152983702415266003 for Y4 by Y5
name_quick tw12172078356533094185 for Y4 by Y5
name_quick tw1055568401681811165 for Y4 by Y5
name_quick tw1204117194425446250 for Y4 by Y5
name_quick tw17730428716208468724 for Y4 by Y5
name_quick tw14223099787259518943 for Y4 by Y5
name_quick tw18263319221461684349 for Y4 by Y5
name_quick tw9396933662098498411 for Y4 by Y5
name_quick tw6654550962395885724 for Y4 by Y5
name_quick tw7276740287692124622 for Y4 by Y5
name_quick tw4039474712603431140 for Y4 by Y5
name_quick tw17497748084772794779 for Y4 by Y5
name_quick tw8703263022893421829 for Y4 by Y5
name_quick tw16531745337717519161 for Y4 by Y5
name_quick tw3105397867545767578 for Y4 by Y5
name_quick tw10948738476641704880 for Y4 by Y5
name_quick tw18056578402003937789 for Y4 by Y5
name_quick tw4797165386629745026 for Y4 by Y5
name_quick tw8603108125212654177 for Y4 by Y5
name_quick tw8206430501311747189 for Y4 by Y5
name_quick tw2905824091091238844 for Y4 by Y5
name_quick tw17552769576498331613 for Y4 by Y5
name_quick tw9315938663221665524 for Y4 by Y5
name_quick tw2660918139993853925 for Y4 by Y5
name_quick tw18345786424863182364 for Y4 by Y5
name_quick tw2422670821966735624 for Y4 by Y5
name_quick tw16593013826814733010 for Y4 by Y5
name_quick tw11445135464325071761 for Y4 by Y5
name_quick tw15475462885187679331 for Y4 by Y5
name_quick tw4748654258956052638 for Y4 by Y5
name_quick tw1355338860687761863 for Y4 by Y5
name_quick tw17846936440860909165 for Y4 by Y5
name_quick tw4434333111790514575 for Y4 by Y5
name_quick tw2719445374943340272 for Y4 by Y5
name_quick tw18340240734955500558 for Y4 by Y5
name_quick tw13640514254501968386 for Y4 by Y5
name_quick tw14884601019740666482 for Y4 by Y5
name_quick tw3093977132361051618 for Y4 by Y5
name_quick tw16752143609539240740 for Y4 by Y5
name_quick tw5518745428033880147 for Y4 by Y5
name_quick tw10706342367453228570 for Y4 by Y5
name_quick tw9501820088010722379 for Y4 by Y5
name_quick tw7250012664060256230 for Y4 by Y5
name_quick tw1184552218554016812 for Y4 by Y5
name_quick tw15919542637913265678 for Y4 by Y5
name_quick tw5111356299099525756 for Y4 by Y5
name_quick tw8459811325457737761 for Y4 by Y5
name_quick tw2951486255847992690 for Y4 by Y5
name_quick tw6967401301877209104 for Y4 by Y5
name_quick tw16644606511662114574 for Y4 by Y5
name_quick tw9300948228871686676 for Y4 by Y5
name_quick tw2039238271031011813 for Y4 by Y5
name_quick tw17804436615005485693 for Y4 by Y5
name_quick tw15195428891847259777 for Y4 by Y5
name_quick tw15034313371233782410 for Y4 by Y5
name_quick tw11838138170533393997 for Y4 by Y5
name_quick tw7581816359482902497 for Y4 by Y5
name_quick tw5697894365363955025 for Y4 by Y5
name_quick tw10317580896714288900 for Y4 by Y5
name_quick tw11333186260410459676 for Y4 by Y5
name_quick tw17532718790514356516 for Y4 by Y5
name_quick tw2948108419219029167 for Y4 by Y5
name_quick tw11310463157757771331 for Y4 by Y5
name_quick tw13809362725867891129 for Y4 by Y5
name_quick tw6122645084068987007 for Y4 by Y5
name_quick tw11462045893675790159 for Y4 by Y5
name_quick tw6426273055680023932 for Y4 by Y5
name_quick tw7198390536060210744 for Y4 by Y5
name_quick tw12945451867199242903 for Y4 by Y5
name_quick tw7094674258960923220 for Y4 by Y5
name_quick tw12734952128020822468 for Y4 by Y5
name_quick tw6245536207120538393 for Y4 by Y5
name_quick tw5701610774189311196 for Y4 by Y5
name_quick tw12233582284571471492 for Y4 by Y5
name_quick tw12832477231654346042 for Y4 by Y5
name_quick tw7232422423428716515 for Y4 by Y5
name_quick tw15323854079317868165 for Y4 by Y5
name_quick tw11707371222683016368 for Y4 by Y5
name_quick tw15806122291839087668 for Y4 by Y5
name_quick tw14023627001141898710 for Y4 by Y5
name_quick tw13141144453892091621 for Y4 by Y5
name_quick tw10833955939284561965 for Y4 by Y5
name_quick tw12177639751122801600 for Y4 by Y5
name_quick tw3264259588550801142 for Y4 by Y5
name_quick tw1638017585896720355 for Y4 by Y5
name_quick tw117213463901210413 for Y4 by Y5
name_quick tw16697116713213952808 for Y4 by Y5
name_quick tw392140993173905013 for Y4 by Y5
name_quick tw5349121933718820234 for Y4 by Y5
name_quick tw4978915544186085027 for Y4 by Y5
name_quick tw8579058602437062094 for Y4 by Y5
name_quick tw16350708796919097252 for Y4 by Y5
name_quick tw11985326045990495214 for Y4 by Y5
name_quick tw505943868828395459 for Y4 by Y5
name_quick tw4904739604578439355 for Y4 by Y5
name_quick tw3636048126100218174 for Y4 by Y5
name_quick tw8860024209350480642 for Y4 by Y5
name_quick tw11588390666370768167 for Y4 by Y5
name_quick tw2447775223705975068 for Y4 by Y5
name_quick tw18260038339965228139 for Y4 by Y5
name_quick tw7783732958741208154 for Y4 by Y5
name_quick tw3362959441861295915 for Y4 by Y5
name_quick tw1377046205977697930 for Y4 by Y5
name_quick tw12635813782599140982 for Y4 by Y5
name_quick tw9931943479562821362 for Y4 by Y5
name_quick tw13642483538084851733 for Y4 by Y5
name_quick tw4275521005467322725 for Y4 by Y5
name_quick tw17532440430192770315 for Y4 by Y5
name_quick tw10073347824450446311 for Y4 by Y5
name_quick tw1772237422875290029 for Y4 by Y5
name_quick tw7581352650102555174 for Y4 by Y5
name_quick tw15278061642289888581 for Y4 by Y5
name_quick tw10015664371746657536 for Y4 by Y5
name_quick tw14326252917377295143 for Y4 by Y5
name_quick tw17476080006546285661 for Y4 by Y5
name_quick tw17988542015724977305 for Y4 by Y5
name_quick tw10227693086864044499 for Y4 by Y5
name_quick tw5032809538720368765 for Y4 by Y5
name_quick tw1092655722715705105 for Y4 by Y5
name_quick tw13776390136698705113 for Y4 by Y5
name_quick tw6711915476519705758 for Y4 by Y5
name_quick tw10010936943081839664 for Y4 by Y5
name_quick tw17100903815162463580 for Y4 by Y5
name_quick tw13236226663087606529 for Y4 by Y5
name_quick tw17672482021469178181 for Y4 by Y5
name_quick tw6059929106960060952 for Y4 by Y5
name_quick tw17300597898927385350 for Y4 by Y5
name_quick tw10470071008263537045 for Y4 by Y5
name_quick tw757081541053455785 for Y4 by Y5
name_quick tw4549333791460862111 for Y4 by Y5
name_quick tw11853533878840232495 for Y4 by Y5
name_quick tw12898947447245864913 for Y4 by Y5
name_quick tw14168537005229113720 for Y4 by Y5
name_quick tw16846860572762119324 for Y4 by Y5
name_quick tw17069979004554194336 for Y4 by Y5
name_quick tw2611137233208623240 for Y4 by Y5
name_quick tw3577408171920636059 for Y4 by Y5
name_quick tw9763268239775435451 for Y4 by Y5
name_quick tw6434265647005701932 for Y4 by Y5
name_quick tw11636919720809706868 for Y4 by Y5
name_quick tw2627984346626558326 for Y4 by Y5
name_quick tw13016732220969518872 for Y4 by Y5
name_quick tw10938465397075749097 for Y4 by Y5
name_quick tw5076957145309523181 for Y4 by Y5
name_quick tw17352973434858128600 for Y4 by Y5
name_quick tw7323676302269181137 for Y4 by Y5
name_quick tw11729385059970357855 for Y4 by Y5
name_quick tw9979284746773624096 for Y4 by Y5
name_quick tw8727135674562949291 for Y4 by Y5
name_quick tw5925582254088234700 for Y4 by Y5
name_quick tw9049566647045795076 for Y4 by Y5
name_quick tw9948023125614773506 for Y4 by Y5
name_quick tw17018628822417861297 for Y4 by Y5
name_quick tw13215998728584607739 for Y4 by Y5
name_quick tw5823794197072137003 for Y4 by Y5
name_quick tw3039592710220408265 for Y4 by Y5
name_quick tw8537084889766193716 for Y4 by Y5
name_quick tw3424931102881643321 for Y4 by Y5
name_quick tw13987355940573415152 for Y4 by Y5
name_quick tw11108263761283441063 for Y4 by Y5
name_quick tw12488000419048109807 for Y4 by Y5
name_quick tw11452132507678324671 for Y4 by Y5
name_quick tw17000155066101142889 for Y4 by Y5
name_quick tw7299303143086499733 for Y4 by Y5
name_quick tw9151444980202551346 for Y4 by Y5
name_quick tw8098380416015320538 for Y4 by Y5
name_quick tw1503297043503765363 for Y4 by Y5
name_quick tw14834023430324568649 for Y4 by Y5
name_quick tw16643706677886111943 for Y4 by Y5
name_quick tw1702518465993881591 for Y4 by Y5
name_quick tw2283851925072248500 for Y4 by Y5
name_quick tw4302124980754421698 for Y4 by Y5
name_quick tw5732905514179830355 for Y4 by Y5
name_quick tw5978237884098788730 for Y4 by Y5
name_quick tw9564595351457756722 for Y4 by Y5
name_quick tw10424941004445345732 for Y4 by Y5
name_quick tw6448080314894763839 for Y4 by Y5
end
open_top hd for PySem.Challenge.rw_nm0146_01
end
namespace Internal
open Mine.hd renaming heap_39 → Y6
section
variable (G:cq)(dd:Nat)(fn:bW)
noncomputable def g9(e:Expr)(ls:List (Str×V))(H:List O)(v:V)(H':List O):Prop:=
 ∀ (c:Cx) (s:Shared) (ρ:List Addr) (Q:Value→Shared→Prop),c.fn=fn→c.Ok G dd→c.A₀.guards=some []→aY c ls ρ H s→EQ c ls ρ H' v Q→bB (model G.prog c.w) c.A (eval e c.env) Q s
noncomputable def dz(st:Stmt)(ls:List (Str×V))(H:List O)(f:Fl)(ls':List (Str×V))(H':List O):Prop:=
 ∀ (c:Cx) (s:Shared) (ρ:List Addr) (Q:Flow→Shared→Prop),c.fn=fn→c.Ok G dd→c.A₀.guards=some []→aY c ls ρ H s→FM c ls' ρ H' f Q→bB (model G.prog c.w) c.A (exec st c.env) Q s
noncomputable def be(st:List Stmt)(ls:List (Str×V))(H:List O)(f:Fl)(ls':List (Str×V))(H':List O):Prop:=
 ∀ (c:Cx) (s:Shared) (ρ:List Addr) (Q:Flow→Shared→Prop),c.fn=fn→c.Ok G dd→c.A₀.guards=some []→aY c ls ρ H s→FM c ls' ρ H' f Q→bB (model G.prog c.w) c.A (execs st c.env) Q s
noncomputable def dK(es:List Expr)(ls:List (Str×V))(H:List O)(vs:List V)(H':List O):Prop:=
 bD es∧∀ (c:Cx) (s:Shared) (ρ:List Addr) (pos:Pos) (Q:List Value→Shared→Prop),c.fn=fn→c.Ok G dd→c.A₀.guards=some []→aY c ls ρ H s→(∀ ρ' s' vs',ρ <+: ρ'→aY c ls ρ' H' s'→bq ρ' vs vs'→Q vs' s')→
  bB (model G.prog c.w) c.A (spliced (backTo pos (K7 es c.env))) Q s
end
noncomputable def we(G:cq)(dd:Nat)(f:V)(args:List V)(H:List O)(v:V)(H':List O):Prop:=
 ∀ (c:Cx) (s:Shared) (ls:List (Str×V)) (ρ:List Addr) (f':Value) (vs:List Value) (Q:Value→Shared→Prop),c.Ok G (dd+1)→c.A₀.guards=some []→aY c ls ρ H s→VR ρ f f'→bq ρ args vs→EQ c ls ρ H' v Q→
  bB (model G.prog c.w) c.A (call f' vs) Q s
noncomputable def i8(G:cq)(dd:Nat)(f:V)(args:List V)(H:List O)(v:V)(H':List O):Prop:=
 ∀ (c:Cx) (s:Shared) (ls:List (Str×V)) (ρ:List Addr) (f':Value) (vs:List Value) (R:Flow→Shared→Prop),c.Ok G (dd+1)→c.A₀.guards=some []→aY c ls ρ H s→VR ρ f f'→bq ρ args vs→
  (∀ ρ' s' v',ρ <+: ρ'→aY c ls ρ' H' s'→VR ρ' v v'→R (.ret v') s')→cr (model G.prog c.w) c.A (.call f' ⟨vs,[]⟩) R s
inductive Er(G:cq)(dd:Nat)(fn:bW)(test:Expr)(body:List Stmt):Nat→List (Str×V)→List O→List (Str×V)→List O→Prop
 | done {ls H H₁}:Te G dd fn test ls H false H₁→Er G dd fn test body 0 ls H ls H₁
 | step {n ls H H₁ l₂ H₂ l₃ H₃}:Te G dd fn test ls H true H₁→be G dd fn body ls H₁ .next l₂ H₂→Er G dd fn test body n l₂ H₂ l₃ H₃→Er G dd fn test body (n+1) ls H l₃ H₃
inductive FQ(G:cq)(dd:Nat)(fn:bW)(target:Expr)(body:List Stmt)(Good:List O→Prop):List hM→List (Str×V)→List O→List (Str×V)→List O→Prop
 | nil {l h}:Good h→FQ G dd fn target body Good [] l h l h
 | cons {w ws l h l₁ h₁ l₂ h₂ l₃ h₃}:Good h→Tn fn target w l h l₁ h₁→be G dd fn body l₁ h₁ .next l₂ h₂→FQ G dd fn target body Good ws l₂ h₂ l₃ h₃→FQ G dd fn target body Good (w::ws) l h l₃ h₃
section
variable {G:cq}{dd:Nat}{fn:bW}{ls ls' ls'':List (Str×V)}{H H' H₁ H₂ H₃:List O}{v a b f ov iv:V}{vs first args:List V}{d₁:Nat}{c:Cx}{ρ ρ':List Addr}{s:Shared}{Good:List O→Prop}{fl:Fl}
theorem g9.of{e:Expr}(h:Ev G dd fn e ls H v H'):g9 G dd fn e ls H v H':=fun c s ρ Q hc ok _ R hQ=>bB.any (h c s ρ Q _ hc ok R hQ)
theorem dz.of{e:Stmt}(h:Ex G dd fn e ls H fl ls' H'):dz G dd fn e ls H fl ls' H':=fun c s ρ Q hc ok _ R hQ=>bB.any (h c s ρ Q _ hc ok R hQ)
theorem be.of{e:List Stmt}(h:Es G dd fn e ls H fl ls' H'):be G dd fn e ls H fl ls' H':=fun c s ρ Q hc ok _ R hQ=>bB.any (h c s ρ Q _ hc ok R hQ)
theorem we.of(h:Cl G dd f args H v H'):we G dd f args H v H':=fun c s ls ρ f' vs Q ok _ R rf ra hQ=>bB.any (h c s ls ρ f' vs Q _ ok R rf ra hQ)
theorem i8.cl(h:i8 G dd f args H v H'):we G dd f args H v H':=fun c s ls ρ f' vs Q ok hg R rf ra hQ=>ju (h c s ls ρ f' vs _ ok hg R rf ra hQ)
theorem Ew(h:i8 G dd f args H v H₁)(e:H₁=H'):i8 G dd f args H v H':=e▸h
theorem be.nil:be G dd fn [] ls H .next ls H:=be.of Es.nil
theorem be.cons{st rest}(h₁:dz G dd fn st ls H .next ls' H₁)(h₂:be G dd fn rest ls' H₁ fl ls'' H₂):be G dd fn (st::rest) ls H fl ls'' H₂:=fun c s ρ Q hc ok hg R hQ=>by
 refine fh (h₁ c s ρ _ hc ok hg R fun ρ' s' f' hp R' rf=>?_)
 obtain rfl:=rf
 exact h₂ c s' ρ' Q hc ok hg R' fun ρ'' s'' f'' hp' R'' rf=>hQ ρ'' s'' f'' (hp.trans hp') R'' rf
theorem be.ret{st rest}(h₁:dz G dd fn st ls H (.ret v) ls' H₁):be G dd fn (st::rest) ls H (.ret v) ls' H₁:=fun c s ρ Q hc ok hg R hQ=>by
 refine fh (h₁ c s ρ _ hc ok hg R fun ρ' s' f' hp R' rf=>?_)
 obtain⟨v',rfl,rv⟩:=rf
 exact hQ ρ' s' _ hp R' ⟨v',rfl,rv⟩
theorem eU{test body orelse pos}{b:Bool}(h:Te G dd fn test ls H b H₁)(h₂:be G dd fn (if b then body else orelse) ls H₁ fl ls' H₂):dz G dd fn (.If test body orelse pos) ls H fl ls' H₂:=fun c s ρ Q hc ok hg R hQ=>by
 refine DM (h c s ρ _ _ hc ok R fun ρ' s' hp R'=>?_)
 have z:=h₂ c s' ρ' Q hc ok hg R' fun ρ'' s'' f'' hp' R'' rf=>hQ ρ'' s'' f'' (hp.trans hp') R'' rf
 cases b <;> exact z
theorem dz.expr{e pos}(h:g9 G dd fn e ls H v H₁)(hs:∀ env,Y3 e none pos.line env=pure false:=by intro _;rfl):dz G dd fn (.Expr e pos) ls H .next ls H₁:=fun c s ρ Q hc ok hg R hQ=>
 y9 (fz ok.hk) (hs _) (h c s ρ _ hc ok hg R fun ρ' s' v' hp R' _=>hQ ρ' s' _ hp R' rfl)
theorem dz.ret{e pos}(h:g9 G dd fn e ls H v H₁):dz G dd fn (.Return (some e) pos) ls H (.ret v) ls H₁:=fun c s ρ Q hc ok hg R hQ=>
 uR (h c s ρ _ hc ok hg R fun ρ' s' v' hp R' rv=>hQ ρ' s' _ hp R' ⟨v',rfl,rv⟩)
theorem dz.name(S:bz fn){x pos' e pos}(h:g9 G dd fn e ls H v H₁)(hk:(x,NameKind.local)∈fn.sc.names)(hst:iz x v ls ls')(hs:∀ env,Y3 e (some (.Name x pos')) pos.line env=pure false:=by intro _;rfl) :
  dz G dd fn (.Assign [.Name x pos'] e pos) ls H .next ls' H₁:=fun c s ρ Q hc ok hg R hQ=>
 gV (hs _) (h c s ρ _ hc ok hg R fun ρ' s' v' hp R' rv=>store S hk hst hc ok R' rv fun s' R'=>hQ ρ' s' _ hp R' rfl)
theorem oS(S:bz fn){elts k tpos value pos}{names:List Str}{i:Nat}(h:g9 G dd fn value ls H (.obj i) H₁)(hi:H₁[i]?=some (.tup vs))(ha:y7 fn names.reverse vs.reverse ls H₁ ls' H₂)(hn:names.length=vs.length)
  (hs:∀ env,swapsWithSole [.Tuple elts k tpos] value pos.line env=pure false:=by intro _;rfl) (hw:∀ env:Env,env.scope=fn.sc→Y2 [.Tuple elts k tpos] value env=pure (some names)) :
  dz G dd fn (.Assign [.Tuple elts k tpos] value pos) ls H .next ls' H₂:=fun c s ρ Q hc ok hg R hQ=>by
 rw[exec_Assign]
 refine al (bp ?_)
 rw[hs]
 refine al (ax ?_)
 rw[if_neg (by decide)]
 refine al (h c s ρ _ hc ok hg R fun ρ' s' v' hp R' rv=>?_)
 rw[hw _ (by rw[c.env_scope,hc])]
 refine al (ax ?_)
 show bB (model G.prog c.w) c.A (do rule "assign.swapped-stores";let items←unpackItems v' names.length none;assignInOrder (names.reverse.map fun n=>bindName c.env n) items.reverse;pure .next) Q s'
 obtain⟨a,ea,rfl⟩:=rv
 obtain⟨ws,ht,rw⟩:=R'.tupAt ea hi
 have hz:names.length=ws.toArray.size:=by rw[Q2,← rw.len];exact hn
 rw[hz]
 refine bB.any (J1 (wpAny_rule (J1 (unpackItems_tuple ok.hh ht fun h' he=>J1 (ha.run S hc ok (R'.extBut (t:=s'.toks) he) rw.rev fun s'' R''=>K1 (hQ ρ' s'' _ hp R'' rfl))))))
theorem dK.nil:dK G dd fn [] ls H [] H:=⟨.nil,fun c s ρ pos Q _ _ _ R hQ=>bB.any (args_nil (hQ ρ s [] (J2 _) R trivial))⟩
theorem dK.of{es:List Expr}(h:ap G dd fn es ls H vs H'):dK G dd fn es ls H vs H':=⟨h.1,fun c s ρ pos Q hc ok _ R hQ=>bB.any (h.2 c s ρ pos Q _ hc ok R hQ)⟩
theorem o5{M:Model}{A:Around}{x:Sem Value}{rest:List (Bool×Sem Value)}{Q:List Value→Shared→Prop}(h:bB M A x (fun v s₁=>bB M A (spliced rest) (fun vs s₂=>Q (v::vs) s₂) s₁) s):bB M A (spliced ((false,x)::rest)) Q s:=by
 show bB M A (do let v←x;let here←pure [v];return here++(←holding here (spliced rest))) Q s
 exact al (bH h fun v s₁ h₁=>al (ax (al (bO (bH h₁ fun vs s₂ h₂=>ax h₂)))))
theorem dK.cons{e es}(h:g9 G dd fn e ls H v H₁)(h₂:dK G dd fn es ls H₁ vs H₂)(he:∀ env,K7 (e::es) env=(false,eval e env)::K7 es env:=by intro _;rfl):dK G dd fn (e::es) ls H (v::vs) H₂:=
 ⟨h₂.1.cons he,fun c s ρ pos Q hc ok hg R hQ=>by
  rw[he]
  show bB _ _ (spliced ((false,if(false:Bool)=true then _ else eval e c.env)::backTo pos (K7 es c.env))) _ _
  rw[if_neg (by decide)]
  refine o5 (h c s ρ _ hc ok hg R fun ρ₁ s₁ v' hp R₁ rv=>?_)
  exact h₂.2 c s₁ ρ₁ pos (fun ws s₂=>Q (v'::ws) s₂) hc ok hg R₁ fun ρ₂ s₂ vs' hp₂ R₂ rvs=>hQ ρ₂ s₂ (v'::vs') (hp.trans hp₂) R₂ ⟨rv.mono hp₂,rvs⟩⟩
theorem g9.tup{elts k pos}(h:dK G dd fn elts ls H vs H₁)(hz:vs.length≤J5):g9 G dd fn (.Tuple elts k pos) ls H (.obj H₁.length) (H₁++[.tup vs]):=fun c s ρ Q hc ok hg R hQ=>by
 show bB (model G.prog c.w) c.A (do standAt pos;newTuple (←spliced (backTo pos (K7 elts c.env)))) Q s
 refine al (bp (al (h.2 c s ρ pos _ hc ok hg R fun ρ₁ s₁ ws hp R₁ rw'=>?_)))
 exact bB.any (zY R₁ rw' hz fun ρ' s' v' hp' R' rv=>hQ ρ' s' v' (hp.trans hp') R' rv)
theorem yo{M:Model}{A:Around}{f:Value}{es:List Expr}{pos:Pos}{env:Env}{Q:Args→Shared→Prop}(hn:(∀ env pos,(backTo pos (K7 es env)=[]∧es=[])∨∃ t r,backTo pos (K7 es env)=(false,t)::r))(h:bB M A (spliced (backTo pos (K7 es env))) (fun vs s'=>Q ⟨vs,[]⟩ s') s):bB M A (evalArgs f true (backTo pos (K7 es env)) []) Q s:=by
 have e0:∀ l:List (Bool×Sem Value),(l=[]∨∃ t r,l=(false,t)::r)→bB M A (spliced l) (fun vs s'=>Q ⟨vs,[]⟩ s') s→bB M A (evalArgs f true l []) Q s:=by
  intro l hl h
  rcases hl with rfl | ⟨t,r,rfl⟩
  ·unfold evalArgs
   show bB M A (spliced [] >>= _) Q s
   refine al (bH h fun vs s' h'=>al (ax ?_))
   refine bO ?_
   exact al (ax (al (ax (ax h'))))
  unfold evalArgs
  show bB M A (spliced ((false,t)::r) >>= _) Q s
  refine al (bH h fun vs s' h'=>al (ax ?_))
  refine bO ?_
  exact al (ax (al (ax (ax h'))))
 refine e0 _ ?_ h
 rcases hn env pos with⟨e,rfl⟩ | ⟨t,r,e⟩
 ·exact .inl e
 exact .inr ⟨t,r,e⟩
theorem qz{es:List Expr}{pos:Pos}{c:Cx}{s:Shared}{ρ:List Addr}{f':Value}{fs:List Value}{Q:Value→Shared→Prop}(hl:dK G dd fn es ls H args H₁)(hk:ey G f)(hc:c.fn=fn)(ok:c.Ok G dd)(hg:c.A₀.guards=some [])(R:aY c ls ρ H s)(rf:VR ρ f f')(rfs:bq ρ first fs)
  (h:∀ ρ' s' as,ρ <+: ρ'→aY c ls ρ' H₁ s'→VR ρ' f f'→bq ρ' (first++args) as→bB (model G.prog c.w) c.A (call f' as) Q s') :
  bB (model G.prog c.w) c.A (callWith pos f' fs (backTo pos (K7 es c.env)) []) Q s:=by
 unfold callWith
 refine al (bO (yo hl.1.2 (hl.2 c s ρ pos _ hc ok hg R fun ρ' s' vs' hp R' rvs=>al (bp ?_))))
 have hc':=h ρ' s' _ hp R' (rf.mono hp) ((rfs.mono hp).app rvs)
 obtain⟨k,hk',L⟩:=vx (c:=c) (ρ:=ρ) hk rf s'.heap (R'.inK ok)
 have hplain:((backTo pos (K7 es c.env)).any (·.1) || ([]:List (Option Str×Sem Value)).any (·.1.isNone))=false:=by rw[hl.1.1];rfl
 simp only[hplain]
 refine al (bB.any (L.here ?_))
 have tail:∀ {t:Sem Value},bB (model G.prog c.w) c.A t Q s'→bB (model G.prog c.w) c.A (t >>= fun r=>holding [r] point >>= fun _=>pure r) Q s':=
  fun ht=>al (bH ht fun r s₂ hr=>al (bO (pV (ax hr))))
 have marked (mk:Value):bB (model G.prog c.w) c.A (callMarked mk f' (fs++vs') []) Q s':=by unfold callMarked;exact y8 hc'
 rcases hk' with rfl | rfl | rfl <;> dsimp only <;> first | exact tail hc' | (split <;> first | exact tail hc' | exact tail (marked _))
theorem g9.call{func:Expr}{as:List Expr}{pos}(hf:Ev G dd fn func ls H f H)(hk:ey G f)(hl:dK G dd fn as ls H args H₁)(h:we G d₁ f args H₁ v H₂)(hd:d₁<dd:=by decide)
  (he:∀ env,eval (.Call func as [] pos) env=(do callWith pos (←eval func env) [] (backTo pos (K7 as env)) (backToKw pos (keywordEach [] env))):=by intro _;rfl):g9 G dd fn (.Call func as [] pos) ls H v H₂:=fun c s ρ Q hc ok hg R hQ=>by
 rw[he]
 refine bV (hf c s ρ _ _ hc ok R fun ρ₁ s₁ f' hp R₁ rf=>?_)
 refine qz (first:=[]) hl hk hc ok hg R₁ rf bq.nil fun ρ₂ s₂ as hp₂ R₂ rf₂ ra=>?_
 exact h c s₂ ls ρ₂ f' as Q (ok.low hd) hg R₂ rf₂ ra fun ρ₃ s₃ v' hp₃ R₃ rv=>hQ ρ₃ s₃ v' ((hp.trans hp₂).trans hp₃) R₃ rv
theorem iD{o:Expr}{name:Str}{apos:Pos}{as:List Expr}{pos:Pos}{ov:V}{pl:Env→Sem Bool}(ho:g9 G dd fn o ls H ov H₁)(hgm:Gm G dd ov name H₁ f first)(hk:ey G f)(hl:dK G dd fn as ls H₁ args H₂)(h:we G d₁ f (first++args) H₂ v H₃)(hd:d₁<dd:=by decide)
  (he:∀ env,eval (.Call (.Attribute o name apos) as [] pos) env=(do
   let ov←eval o env
   standAt apos.atName
   let (f,first)←holding [ov] (getMethod ov name (pl env))
   callWith pos f first (backTo pos (K7 as env)) (backToKw pos (keywordEach [] env))):=by intro _;rfl):g9 G dd fn (.Call (.Attribute o name apos) as [] pos) ls H v H₃:=fun c s ρ Q hc ok hg R hQ=>by
 rw[he]
 refine al (ho c s ρ _ hc ok hg R fun ρ₁ s₁ o' hp R₁ ro=>al (bp (al (bO (bB.any (hgm c s₁ ls ρ₁ o' _ _ _ ok R₁ ro fun s₂ f' fs R₂ rf rfs=>?_))))))
 show bB (model G.prog c.w) c.A (callWith pos f' fs (backTo pos (K7 as c.env)) []) Q s₂
 refine qz hl hk hc ok hg R₂ rf rfs fun ρ₂ s₂ as hp₂ R₂ rf₂ ra=>?_
 exact h c s₂ ls ρ₂ f' as Q (ok.low hd) hg R₂ rf₂ ra fun ρ₃ s₃ v' hp₃ R₃ rv=>hQ ρ₃ s₃ v' ((hp.trans hp₂).trans hp₃) R₃ rv
theorem kL{test body pos}{n:Nat}(h:Er G dd fn test body n ls H ls' H'):dz G dd fn (.While test body [] pos) ls H .next ls' H':=fun c s ρ Q hc ok hg R hQ=>by
 refine xj ?_
 refine tZ (fun n s=>∃ l₁ H₁ ρ₁,ρ <+: ρ₁∧aY c l₁ ρ₁ H₁ s∧Er G dd fn test body n l₁ H₁ ls' H') (fun n s₁ hI=>?_) n ⟨ls,H,ρ,J2 _,R,h⟩
 obtain⟨l₁,H₁,ρ₁,hp,R₁,hW⟩:=hI
 clear h
 induction hW with
 | done ht=>
  refine ht c s₁ ρ₁ _ _ hc ok R₁ fun ρ₂ s₂ hp₂ R₂=>?_
  rw[if_neg (by decide)]
  exact hQ ρ₂ s₂ _ (hp.trans hp₂) R₂ rfl
 | step ht hb hw=>
 refine ht c s₁ ρ₁ _ _ hc ok R₁ fun ρ₂ s₂ hp₂ R₂=>?_
 rw[if_pos rfl]
 refine hb c s₂ ρ₂ _ hc ok hg R₂ fun ρ₃ s₃ f' hp₃ R₃ rf=>?_
 obtain rfl:=rf
 exact⟨_,Nat.lt_succ_self _,_,_,ρ₃,(hp.trans hp₂).trans hp₃,R₃,hw⟩
theorem C1(S:bz fn){target:Expr}{iter:Expr}{body:List Stmt}{pos:Pos}{xs:List hM}(hi:js G dd fn iter ls H xs Good H₁)(h:FQ G dd fn target body Good xs ls H₁ ls' H')
  (hs:∀ env x,V1 iter env x=pure x:=by intro _ _;rfl):dz G dd fn (.For target iter body [] pos) ls H .next ls' H':=fun c s ρ Q hc ok hg R hQ=>by
 rw[exec_For]
 refine al (bp ?_)
 have key:wpAny (model G.prog c.w) c.A (eval iter c.env) (fun x s₁=>wpAny (model G.prog c.w) c.A (pyIter x) (fun it s₂=>cr (model G.prog c.w) c.A (.forLoop target it body [] c.env) Q s₂) (fun _ _=>False) s₁) (fun _ _=>False) s:=by
  refine hi c s ρ _ _ hc ok R fun ρ₀ s₀ I Is St own hp₀ R₀ hI ho hst=>?_
  refine yr (fun n s=>LJ xs ρ₀ (fun l ρ H=>aC c Is l ρ H s) (fun o=>qD o s) St (fun ys l H=>FQ G dd fn target body Good ys l H ls' H') n)
   (fun n s₁ hJ=>?_) xs.length ⟨0,ls,H₁,ρ₀,own,xs,J2 _,R₀,ho,hst,jR,h⟩
  obtain⟨i,l₁,K₁,ρ₁,own₁,ys,hp₁,R₁,ho₁,hst₁,pt,hF⟩:=hJ
  clear h
  induction hF with
  | nil g=>
   cases pt.fin
   exact hI.done dd c _ _ ρ₁ s₁ own₁ _ _ ok g hp₁ R₁ hst₁ ho₁ fun s₂ R₂=>hQ ρ₁ _ _ (hp₀.trans hp₁) R₂.rep rfl
  | cons g sn es hF'=>
  refine hI.item dd fn c target i _ _ _ ρ₁ s₁ own₁ _ _ _ _ _ S hc ok pt.get g hp₁ R₁ hst₁ ho₁ sn fun ρ₂ s₂ own₂ hp₂ R₂ hst₂ ho₂=>?_
  have e₂:=hI.st _ _ hst₂
  have R₃:aC (c.keep own₂) [] _ ρ₂ _ s₂:=dI (by rw[e₂,List.append_nil];exact R₂) ho₂
  refine es (c.keep own₂) s₂ ρ₂ _ hc ok.keep hg R₃.rep fun ρ₅ s₅ f₅ hp₅ R₅ rf₅=>?_
  obtain rfl:=rf₅
  obtain⟨R₆,ho₆⟩:=dJ (aC.nil R₅)
  rw[e₂,List.append_nil] at R₆
  exact⟨_,pt.lt,i+1,_,_,ρ₅,own₂,_,(hp₁.trans hp₂).trans hp₅,R₆,ho₆,hst₂,pt.next,hF'⟩
 refine bV (wpAny_mono key (fun x s₁ h₁=>al (cL (hs _ x) (ax (al (bp (al (bO (bB.any (wpAny_mono h₁ (fun it s₂ h₂=>?_) fun _ _ x=>x))))))))) fun _ _ x=>x)
 unfold runOwn
 exact db (qV h₂)
theorem Bd(S:bz fn){target:Expr}{iter:Expr}{body:List Stmt}{pos:Pos}{xs:List V}{l:Nat}(hi:g9 G dd fn iter ls H (.obj l) H₁)(hl:H₁[l]?=some (.list xs))(h:oV G dd fn target body (fun h=>h[l]?=some (.list xs)) (bT xs) ls H₁ .next ls' H')
  (hs:∀ env x,V1 iter env x=pure x:=by intro _ _;rfl):dz G dd fn (.For target iter body [] pos) ls H .next ls' H':=fun c s ρ Q hc ok hg R hQ=>by
 refine BQ (hs _) (hi c s ρ _ hc ok hg R fun ρ' s' v' hp R' rv=>?_)
 obtain⟨a,ea,rfl⟩:=rv
 obtain⟨ws,ha,_⟩:=R'.listAt ea hl
 refine wpAny_pyIter_list ha ?_
 refine cr.any ?_
 have R₀:=R'.offPush (t:=s'.toks) { cls:=.type "list_iterator",data:=.fields #[.ref a,.int 0 0]}
 exact qv S (wi.list ea) hc ok h R₀ (own:=[(s'.heap.objs.size,_)]) (fun p hp=>by rw[J6.mp hp];exact Q5 _ rfl) ⟨_,rfl,rfl,rfl⟩ fun ρ'' s'' f'' hp'' R'' rf=>hQ ρ'' s'' f'' (hp.trans hp'') R'' rf
end
section
variable {G:cq}{dd:Nat}{fn:bW}{ls ls' ls'':List (Str×V)}{H H' H₁ H₂ H₃:List O}{v a b f ov iv:V}{vs first:List V}{d₁:Nat}{c:Cx}{ρ ρ':List Addr}{s:Shared}{Good:List O→Prop}{fl:Fl}
theorem uy{f₀:Addr}{oc:Value}{od:Option Addr}{osl:Array (Option Value)}{name qual:Str}{params:Arguments}{body:List Stmt}{scope:Scope}{dV kV doc pm cdv ct:Value}{an:Option Addr}{args args':List V}{ns:List Str}{f:Fl}{ls':List (Str×V)}
  (ho:∀ P,(G.K P).lookup f₀=some ⟨oc,od,.func (fnOf name qual params body scope dV kV doc pm an cdv ct),osl⟩) (hcd:∀ P,codeIn (G.K P) cdv qual=true)
  (hb:d9 G (fnOf name qual params body scope dV kV doc pm an cdv ct) args ns args') (hloc:∀ x∈ns,scope.names.lookup x=some .local)
  (hk:scope.kind=.function) (hco:scope.isCoroutine=false) (hgen:scope.isGenerator=false) (hcell:∀ x∈scope.names,x.2≠.cell) (hS:bz ⟨qual,scope,f₀,cdv,[]⟩)
  (h:bz ⟨qual,scope,f₀,cdv,[]⟩→be G dd ⟨qual,scope,f₀,cdv,[]⟩ body (ns.zip args') H f ls' H'):i8 G dd (.top f₀) args H (match f with | .ret v=>v | .next=>.none) H':=by
 intro c s ls ρ f' vs R ok hg Rp rf ra hQ
 obtain rfl:=rf
 obtain⟨m,fr,os,W⟩:=Rp
 have hX:(G.K c.w.params).In s.heap:=ok.X.keeps W.F.keep
 obtain⟨hl,nd,hb⟩:=hb
 obtain⟨vs',hbd,ra'⟩:=hb c.w.params s ρ vs hX ra
 obtain⟨oL,hL,k⟩:=W.split
 have hd:c.A.depth≤c.A₀.depth+2:=by show c.A₀.depth+1≤_;lia
 have hu:c.A.units≤c.A₀.units+8:=by show c.A₀.units+3≤_;lia
 refine iu (body:=body) ?_ (hX _ _ (ho _)) rfl hco hgen rfl (codeRec_of hX (hcd _)) (hbd _ _ _ _ ?_)
 ·have:=ok.hd;lia
 refine wpAny_newFunctionEnv hcell ?_ (fun h₀ hns hsb=>⟨(ok.T.nolimit.keeps W.F.keep).fresh _ hsb,?_⟩) hk
 ·intro x hx
  exact hloc _ (List.of_mem_zip (a:=x.1) (b:=x.2) hx).1
 have hk₁:∀ b o,s.heap.get? b=some o→h₀.get? b=some o:=fun b o e=>hsb.extBut b o (W3 (Heap.lt_size e)) (K3 _ e)
 have ok':=rh ok W k (A:=c.A) (L':=s.heap.objs.size) (fn:=⟨qual,scope,f₀,cdv,[]⟩) (cl:=[]) ok.frames ok.hh hd hu hk
 have R':=u8 (A:=c.A) (t:=s.toks+(ns.zip vs').length) (fn:=⟨qual,scope,f₀,cdv,[]⟩) (cl:=[]) W hL hns hk₁ (tJ ra' hl nd) (fun x i hx=>nomatch hx)
 refine oB ?_
 refine h hS (c.sub c.A fr oL s.heap.objs.size ⟨qual,scope,f₀,cdv,[]⟩ []) _ ρ _ rfl ok' hg R' fun ρ'' s'' f'' hp' R'' rf=>?_
 cases f with
 | next=>
  obtain rfl:=rf
  exact hQ ρ'' s'' _ hp' (fO k hp' R'') rfl
 | ret v=>
 obtain⟨v',rfl,rv⟩:=rf
 exact hQ ρ'' s'' _ hp' (fO k hp' R'') rv
theorem w7{f₀:Addr}{oc:Value}{od:Option Addr}{osl:Array (Option Value)}{name qual:Str}{params:Arguments}{body:List Stmt}{scope:Scope}{dV kV doc pm cdv ct:Value}{an:Option Addr}{args args':List V}{ns:List Str}{ls':List (Str×V)}
  (ho:∀ P,(G.K P).lookup f₀=some ⟨oc,od,.func (fnOf name qual params body scope dV kV doc pm an cdv ct),osl⟩) (hcd:∀ P,codeIn (G.K P) cdv qual=true)
  (hb:d9 G (fnOf name qual params body scope dV kV doc pm an cdv ct) args ns args') (hloc:∀ x∈ns,scope.names.lookup x=some .local)
  (hk:scope.kind=.function) (hco:scope.isCoroutine=false) (hgen:scope.isGenerator=false) (hcell:∀ x∈scope.names,x.2≠.cell) (hS:bz ⟨qual,scope,f₀,cdv,[]⟩)
  (h:bz ⟨qual,scope,f₀,cdv,[]⟩→be G dd ⟨qual,scope,f₀,cdv,[]⟩ body (ns.zip args') H (.ret v) ls' H'):i8 G dd (.top f₀) args H v H':=uy ho hcd hb hloc hk hco hgen hcell hS h
theorem Bh{f₀:Addr}{oc:Value}{od:Option Addr}{osl:Array (Option Value)}{name qual:Str}{params:Arguments}{body:List Stmt}{scope:Scope}{dV kV doc pm cdv ct:Value}{an:Option Addr}{args args':List V}{ns:List Str}{ls':List (Str×V)}
  (ho:∀ P,(G.K P).lookup f₀=some ⟨oc,od,.func (fnOf name qual params body scope dV kV doc pm an cdv ct),osl⟩) (hcd:∀ P,codeIn (G.K P) cdv qual=true)
  (hb:d9 G (fnOf name qual params body scope dV kV doc pm an cdv ct) args ns args') (hloc:∀ x∈ns,scope.names.lookup x=some .local)
  (hk:scope.kind=.function) (hco:scope.isCoroutine=false) (hgen:scope.isGenerator=false) (hcell:∀ x∈scope.names,x.2≠.cell) (hS:bz ⟨qual,scope,f₀,cdv,[]⟩)
  (h:bz ⟨qual,scope,f₀,cdv,[]⟩→be G dd ⟨qual,scope,f₀,cdv,[]⟩ body (ns.zip args') H .next ls' H'):i8 G dd (.top f₀) args H .none H':=uy (f:=.next) ho hcd hb hloc hk hco hgen hcell hS h
theorem wi.str{I:Addr}{ρ₀:List Addr}{x:Str}{t:Tok}:wi G I [I] ρ₀ (bT (dm x)) (fun i own=>∃ o:Obj,own=[(I,o)]∧o.cls=.type "str_ascii_iterator"∧o.data=.fields #[.str x t,.int i 0]) (fun _=>True) where
 st:=fun i own ⟨o,e,_⟩=>by rw[e];rfl
 self:=fun i c s own Q E ⟨o,e,st⟩ ho hQ=>by
  subst e
  exact wpAny_pyIter_striter_ascii ⟨o,ho _ (.head _),st⟩ hQ
 item:=fun dd fn c target i w ls H ρ s own ls' H' Q E B S hc ok hx hg hp R st ho tn hQ=>by
  obtain⟨o,rfl,st⟩:=st
  have hoI:=ho _ (.head _)
  unfold bT dm at hx
  rw[List.map_map,List.getElem?_map,Option.map_eq_some_iff] at hx
  obtain⟨k,hk,rfl⟩:=hx
  cases tn with
  | one sn=>
  refine wpAny_pyNext_ascii_item ⟨o,hoI,st⟩ (by simpa using hk) fun h' hit' hs=>?_
  obtain⟨o',ho',st'⟩:=hit'
  have R₂:=R.but (t:=s.toks+1) (h:=h') fun b o hb e=>hs.extBut b o (by simpa using hb) e
  have R₃:=aC.keep (own:=[(I,o')]) R₂ fun p hp=>by rw[J6.mp hp];exact ho'
  show wpAny _ _ (pure ()) _ _ _
  refine K1 ?_
  refine wpAny_assign_Name ?_
  refine sn.run (c:=c.keep [(I,o')]) S hc ok.keep R₃ ⟨_,rfl⟩ fun s₄ R₄=>?_
  obtain⟨R₆,hk⟩:=aY.drop R₄
  exact hQ ρ s₄ [(I,o')] (J2 _) R₆ ⟨o',rfl,st'⟩ hk
 done:=fun dd c ls H ρ s own Q E ok hg hp R st ho hQ=>by
  obtain⟨o,rfl,st⟩:=st
  have hoI:=ho _ (.head _)
  refine wpAny_pyNext_ascii_end ok.hh ⟨o,hoI,st⟩ ?_ fun h' he=>hQ _ (R.but (t:=s.toks) fun b o hb e=>he b o (by simpa using hb) e)
  have:(bT (dm x)).length=x.cps.size:=by simp[dm,bT]
  rw[this];simp
theorem js.str{e:Expr}{x:Str}(h:Ev G dd fn e ls H (.str x) H₁)(hx:x.cps.all (· < 128)=true):js G dd fn e ls H (bT (dm x)) (fun _=>True) H₁:=fun c s ρ Q E hc ok R hQ=>by
 refine h c s ρ _ _ hc ok R fun ρ' s' v' hp R' rv=>?_
 obtain⟨t,rfl⟩:=rv
 refine wpAny_pyIter_ascii hx ?_
 exact hQ ρ' _ _ _ _ [(s'.heap.objs.size,_)] hp (R'.offPush (t:=s'.toks) _) wi.str (fun p hp=>by rw[J6.mp hp];exact Q5 _ rfl) ⟨_,rfl,rfl,rfl⟩
end
section
open PySem.Builtin.Bytes
section
variable {prog:Program}{w:World}{A:Around}{s:Shared}{R:Flow→Shared→Prop}
theorem kF{id:String}{args:Args}{b:Builtin}(hd:decodersThatHold.contains id=false)(hb:entryFor table id=some b)
  (h:bB (model prog w) (A.under (.builtin id args)) (b args) (fun fin s'=>match fin with | .done f=>R f s' | .again c'=>c'.quiet=true∧cr (model prog w) A c' R s') s):cr (model prog w) A (.builtin id args) R s:=by
 refine cf hd ?_
 show bB _ _ (match entryFor table id with | some b=>b args | none=>unsupported ((withoutEnding? id "#data").getD id)) _ s
 rw[hb];exact h
theorem pL{id:String}{args:Args}{b:Builtin}(hq:plainId id=true)(hd:decodersThatHold.contains id=false)(hb:entryFor table id=some b)
  (h:bB (model prog w) A.in1 (b args) (fun fin s'=>match fin with | .done f=>R f s' | .again c'=>c'.quiet=true∧cr (model prog w) A c' R s') s):cr (model prog w) A (.builtin id args) R s:=by
 refine cf hd ?_
 rw[Around.under_plainId hq args]
 show bB _ _ (match entryFor table id with | some b=>b args | none=>unsupported ((withoutEnding? id "#data").getD id)) _ s
 rw[hb];exact h
theorem jm{id:String}{args:Args}{b:Builtin}(hq:plainId id=true)(hd:decodersThatHold.contains id=false)(hb:entryFor table id=some b)
  (h:wpAny (model prog w) A.in1 (checkBuiltinCall id args) (fun _ s₁=>bB (model prog w) A.in1 (b args) (fun fin s'=>match fin with | .done f=>R f s' | .again c'=>c'.quiet=true∧cr (model prog w) A c' R s') s₁) (fun _ _=>False) s) :
  cr (model prog w) A (.call (.builtin id) args) R s:=by
 refine cf rfl ?_
 show bB _ A.in1 (do checkBuiltinCall id args;again (.builtin id args)) _ s
 exact bV (wpAny_mono h (fun _ s₁ h₁=>ax ⟨plainId_quiet hq args,pL hq hd hb h₁⟩) fun _ _ x=>x)
theorem fi{T:String}{name:Str}{id:String}{b:Builtin}{self:Value}{rest:List Value}{Q:Value→Shared→Prop}(h:Slot T name id)(hT:s.TypeIs self T)(hd:decodersThatHold.contains id=false)
  (hb:entryFor table id=some b) (hc:bB (model prog w) A.in1 (b ⟨self::rest,[]⟩) (fun fin s'=>∃ v,fin=.done (.ret v)∧Q v s') s) (ha:argsOk id ⟨self::rest,[]⟩) :
  bB (model prog w) A (call (.builtin id) (self::rest)) Q s:=by
 refine ju (jm h.plain hd hb (h.check _ _ _ _ _ _ _ _ hT ha (bH hc fun fin s' h'=>?_)))
 obtain⟨v,rfl,hv⟩:=h';exact hv
theorem yB{α:Type}{f:α→Bool}{l:List α}(h:∀ x∈l,f x=false):l.any f=false:=by
 induction l with
 | nil=>rfl
 | cons x l ih=>rw[List.any_cons,h x (.head _),ih fun y hy=>h y (.tail _ hy)];rfl
set_option tactic.hygienic true in
theorem oy{self:Value}{Q:Bool→Shared→Prop}(hg:A.guards=some [])(h:Q false s):bB (model prog w) A (exported self) Q s:=fun Γ p hΓ h1 h2=>by
 have hgs:∀ x∈(Γ.code,p)::Γ.below,x.1.isGuard=false:=by
  have h3:=hΓ.2.2.2.1 [] hg
  rw[List.append_eq_nil_iff] at h3
  intro x hx
  rcases K2.mp hx with rfl | hx
  ·have:=h3.1
   unfold Code.guards at this
   cases q:Γ.code.isGuard with
   | false=>rfl
   | true=>rw[q,if_pos rfl] at this;cases this
  have:=h3.2
  unfold guardsOf at this
  rw[List.filter_eq_nil_iff] at this
  have z:=this x.1 (Q9 hx)
  simpa using z
 have hds:∀ x∈(Γ.code,p)::Γ.below,jl x.1=false:=by
  intro x hx
  rcases K2.mp hx with rfl | hx
  ·exact h1
  exact h2 x hx
 unfold exported
 show Sem.wp _ Γ (stack >>= _) _ _ p s
 rw[Sem.wp_bind']
 unfold stack
 rw[Sem.wp_stack]
 show Q (List.any ((Γ.code,p)::Γ.below) _) s
 refine Eq.mpr (congrArg (fun b=>Q b s) (yB ?_)) h
 intro x hx
 have g1:=hgs x hx
 have g2:=hds x hx
 obtain⟨cd,p⟩:=x
 have ne:∀ w:String,guardIds.contains w=true→∀ args,cd≠.builtin w args:=fun w hw args e=>by
  subst e;exact absurd (g1.symm.trans (show Code.isGuard _=true from hw)) (by decide)
 cases cd <;> first | rfl | skip
 case builtin id args=>
 have n1:id≠"bytearray.__contains__":=fun e=>ne _ (by decide) args (congrArg (Code.builtin · args) e)
 have n2:id≠"bytearray.__mod__":=fun e=>ne _ (by decide) args (congrArg (Code.builtin · args) e)
 have n3:id≠"bytearray.__rmod__":=fun e=>ne _ (by decide) args (congrArg (Code.builtin · args) e)
 have n4:id≠"_struct.pack_into.held":=fun e=>ne _ (by decide) args (congrArg (Code.builtin · args) e)
 have n5:id≠"bytearray.find.held":=fun e=>ne _ (by decide) args (congrArg (Code.builtin · args) e)
 clear ne g1 hgs hds h1 h2 hΓ hx
 obtain⟨pos,kw⟩:=args
 have g3:decodersThatHold.contains id=false:=g2
 delta PySem.Builtin.Bytes.exported.match_1
 refine Eq.trans (dif_neg n1) ?_
 refine Eq.trans (dif_neg n2) ?_
 refine Eq.trans (dif_neg n3) ?_
 refine Eq.trans (dif_neg n4) ?_
 refine Eq.trans (dif_neg n5) ?_
 cases pos with
 | nil=>rfl
 | cons v r=>exact(congrArg (Builtin.Bytes.sameRef v self && ·) g3).trans (Bool.and_false _)
end
end
section
open PySem.Builtin.Bytes
theorem nq:Manifest.owners.lookup (String.ofList ['y','a','r','r','a','e','t','y','b'].reverse)=some Manifest.sig_bytearray:=by kernel_rfl
theorem ie:Slot "bytearray" "append" "bytearray.append":=
 .of (owner:="bytearray") (n:="append") (by rw[typeLookup_type,builtinLookup_eq_fast];kernel_rfl) (by decide +kernel) (by decide +kernel) (by decide +kernel)
  (by first | exact .inl (by decide +kernel) | exact .inr (by decide +kernel)) (by rw[isSubtype_type];kernel_rfl)
theorem mU:typeOf (.builtin "bytearray.append")=pure (.type "method_descriptor"):=by show builtinType _=_;rw[builtinType_eq_fast];kernel_rfl
theorem mw:entryFor table "bytearray.append" = some Builtin.«bytearray.append»:=by first | exact entryFor_of_fast (by kernel_rfl) | exact entryFor_of_tree (by kernel_rfl)
theorem oK(a b:Value):argsOk "bytearray.append" ⟨[a,b],[]⟩:=by
 unfold argsOk;rw[signature?_of (id:="bytearray.append") (n:=['d','n','e','p','p','a']) (o:=['y','a','r','r','a','e','t','y','b']) (by kernel_rfl) nq];kernel_rfl
theorem ib:Slot "bytearray" "extend" "bytearray.extend":=
 .of (owner:="bytearray") (n:="extend") (by rw[typeLookup_type,builtinLookup_eq_fast];kernel_rfl) (by decide +kernel) (by decide +kernel) (by decide +kernel)
  (by first | exact .inl (by decide +kernel) | exact .inr (by decide +kernel)) (by rw[isSubtype_type];kernel_rfl)
theorem mT:typeOf (.builtin "bytearray.extend")=pure (.type "method_descriptor"):=by show builtinType _=_;rw[builtinType_eq_fast];kernel_rfl
theorem mu:entryFor table "bytearray.extend" = some Builtin.«bytearray.extend»:=by first | exact entryFor_of_fast (by kernel_rfl) | exact entryFor_of_tree (by kernel_rfl)
theorem oJ(a b:Value):argsOk "bytearray.extend" ⟨[a,b],[]⟩:=by
 unfold argsOk;rw[signature?_of (id:="bytearray.extend") (n:=['d','n','e','t','x','e']) (o:=['y','a','r','r','a','e','t','y','b']) (by kernel_rfl) nq];kernel_rfl
theorem eP:Slot "bytearray" "__init__" "bytearray.__init__":=
 .of (owner:="bytearray") (n:="__init__") (by rw[typeLookup_type,builtinLookup_eq_fast];kernel_rfl) (by decide +kernel) (by decide +kernel) (by decide +kernel)
  (by first | exact .inl (by decide +kernel) | exact .inr (by decide +kernel)) (by rw[isSubtype_type];kernel_rfl)
theorem pK:entryFor table "bytearray.__init__" = some Builtin.«bytearray.__init__»:=by first | exact entryFor_of_fast (by kernel_rfl) | exact entryFor_of_tree (by kernel_rfl)
theorem sf(a:Value):argsOk "bytearray.__init__" ⟨[a],[]⟩:=by
 unfold argsOk;rw[signature?_of (id:="bytearray.__init__") (n:=['_','_','t','i','n','i','_','_']) (o:=['y','a','r','r','a','e','t','y','b']) (by kernel_rfl) nq];kernel_rfl
theorem vW:mroOf (.type "bytearray")=pure [.type "bytearray",.type "object"]:=by rw[mroOf_type];kernel_rfl
theorem pN:typeLookup (.type "bytearray") "__new__" = pure (some (.builtin "bytearray.__new__")):=by rw[typeLookup_type,builtinLookup_eq_fast];kernel_rfl
theorem qA:TypeCalled "bytearray" "bytearray.__new__" "bytearray.__init__":=
 ⟨by decide +kernel,by decide +kernel,⟨_,_,vW⟩,madeBy_type vW pN (by decide +kernel),by decide +kernel,by rw[isSubtype_type];kernel_rfl,eP⟩
theorem uj:checkTypeCall "bytearray" ⟨[],[]⟩=pure ():=by kernel_rfl
theorem vV:checkBuiltinCall "bytearray.__new__" ⟨[.type "bytearray"],[]⟩=pure ():=by kernel_rfl
theorem jQ:plainId "bytearray.__new__" = true:=by decide +kernel
theorem sd:isSubtype (.type "bytearray") (.type "bytearray")=pure true:=by rw[isSubtype_type];kernel_rfl
theorem ul:typeLookup (.type "bytearray") "__bytes__" = pure none:=by rw[typeLookup_type,builtinLookup_eq_fast];kernel_rfl
theorem uk:typeLookup (.type "bytearray") "__index__" = pure none:=by rw[typeLookup_type,builtinLookup_eq_fast];kernel_rfl
theorem kH:typeLookup (.type "bytearray") "__buffer__" = pure (some (.builtin "bytearray.__buffer__")):=by rw[typeLookup_type,builtinLookup_eq_fast];kernel_rfl
theorem vU:typeLookup (.type "bytearray") "__release_buffer__" = pure (some (.builtin "bytearray.__release_buffer__")):=by rw[typeLookup_type,builtinLookup_eq_fast];kernel_rfl
theorem fb:typeLookup (.type "bytes") "__buffer__" = pure (some (.builtin "bytes.__buffer__")):=by rw[typeLookup_type,builtinLookup_eq_fast];kernel_rfl
theorem vT:typeLookup (.type "bytes") "__release_buffer__" = pure none:=by rw[typeLookup_type,builtinLookup_eq_fast];kernel_rfl
theorem o7:PlainAttrs "bytearray":=
 ⟨⟨"bytearray.__getattribute__",by rw[typeLookup_type,builtinLookup_eq_fast];kernel_rfl,by decide +kernel⟩,by rw[typeLookup_type,builtinLookup_eq_fast];kernel_rfl⟩
end
section
open PySem.Builtin.Bytes
theorem rg:("bytearray.__new__".splitOn ".__new__").headD "" = "bytearray":=by simp +decide [String.splitOn,String.splitOnAux]
theorem r8:entryFor table "bytearray.__new__" = some Builtin.«list.__new__»:=entryFor_alias (id':="list.__new__") (by kernel_rfl) rfl (by decide +kernel) (by kernel_rfl)
theorem r9:("bytearray.__release_buffer__".endsWith ("."++"__release_buffer__"))=true:=by decide +kernel
theorem sa:("bytearray.__release_buffer__".dropRight ("__release_buffer__".length+1))="bytearray":=by decide +kernel
theorem sb:Builtin.Bytes.bindOptional "bytearray.__init__" "bytearray" ["source","encoding","errors"] [] []=pure [none,none,none]:=by kernel_rfl
section
variable {prog:Program}{w:World}{A:Around}{s:Shared}{Q:Value→Shared→Prop}{E:Value→Shared→Prop}
noncomputable abbrev oH(b:Array UInt8):Obj:={ cls:=.type "bytearray",data:=.bytearray b}
theorem eM{α:Type}{M:Model}{c:Bool}{a b:Sem α}{Q:α→Shared→Prop}(hc:c=false)(h:bB M A b Q s):bB M A (if c=true then a else b) Q s:=by
 subst hc;exact h
theorem qW{α:Type}{M:Model}{c:Bool}{a b:Sem α}{Q:α→Shared→Prop}(hc:c=true)(h:bB M A a Q s):bB M A (if c=true then a else b) Q s:=by
 subst hc;exact h
theorem tY(h:Q (.ref s.heap.objs.size) { s with heap:=s.heap.push (oH #[])}):codeAny (model prog w) A (.call (.builtin "bytearray.__new__") ⟨[.type "bytearray"],[]⟩) (wants Q E) s:=by
 refine codeAny_of_tree ?_
 show wpAny _ A.in1 (do checkBuiltinCall "bytearray.__new__" ⟨[.type "bytearray"],[]⟩;again (.builtin "bytearray.__new__" ⟨[.type "bytearray"],[]⟩)) _ _ s
 refine J1 (wpAny_of_eq vV (K1 ⟨plainId_quiet jQ _,codeAny_builtin_stack r8 rfl fun p st=>?_⟩))
 rw[Around.under_plainId jQ _]
 have hsub:=sd
 have hown:=rg
 obtain⟨hp,g,d,tk,os⟩:=s
 simp only[hown]
 wp_walk
 exact h
theorem nf{a:Addr}{b:Array UInt8}{Q:Bool→Shared→Prop}(ho:s.heap.get? a=some (oH b))(h:Q false s):wpAny (model prog w) A (ownRelease (.ref a)) Q E s:=by
 have hT:s.TypeIs (.ref a) "bytearray":=⟨_,ho,rfl⟩
 unfold ownRelease slotIsOwn
 refine J1 (J1 (W7 hT vU ?_))
 dsimp only
 rw[if_neg (by rw[r9];decide),sa]
 exact wpAny_isInstance hT sd (K1 h)
theorem qb{a:Addr}{b:Array UInt8}{Q:Unit→Shared→Prop}(hg:A.guards=some [])(ho:s.heap.get? a=some (oH b))(h:Q () s):bB (model prog w) A (checkResize (.ref a)) Q s:=by
 unfold checkResize
 refine al ?_
 show bB _ _ (exported (.ref a) >>= _) _ s
 refine al (oy hg ?_)
 show bB _ _ (do let x←exportsOf (.ref a);pure (decide (x > 0))) _ s
 refine bB.any (J1 ?_)
 show wpAny _ _ (load a >>= _) _ _ s
 refine J1 (wpAny_load ho (K1 (K1 ?_)))
 exact ax h
theorem mR{a:Addr}{b:Array UInt8}{f:Array UInt8→Array UInt8}{Q:Unit→Shared→Prop}(ho:s.heap.get? a=some (oH b))(hz:(f b).size≤J5)
  (h:∀ h',h'.get? a=some (oH (f b))→Heap.SameBut a s.heap h'→Q () { s with heap:=h'}):wpAny (model prog w) A (Builtin.Bytes.write (.ref a) f) Q E s:=by
 show wpAny _ _ (updateBytearray a f) _ _ _
 unfold updateBytearray
 refine J1 (wpAny_load ho ?_)
 show wpAny _ _ (update a (Obj.mapBytearray f) >>= fun _=>lookBehind a) _ _ _
 refine J1 (wpAny_update ho ?_)
 have h2:(s.heap.update a (Obj.mapBytearray f)).get? a=some (oH (f b)):=Heap.get?_update_self (Obj.mapBytearray f) ho rfl
 refine wpAny_lookBehind h2 ?_ (h _ h2 (Heap.SameBut.update ..))
 show(if(f b).size > J5 then some "bytearray:memory" else none)=none
 rw[if_neg (Nat.not_lt.mpr hz)]
theorem oG{a:Addr}{b:Array UInt8}{n:Int}{t:Tok}(hg:A.guards=some [])(ho:s.heap.get? a=some (oH b))(hn:0≤n∧n<256)(hz:b.size+1≤J5)
  (h:∀ h',h'.get? a=some (oH (b.push n.toNat.toUInt8))→Heap.SameBut a s.heap h'→Q .none { s with heap:=h'}):bB (model prog w) A (call (.builtin "bytearray.append") [.ref a,.int n t]) Q s:=by
 refine fi ie ⟨_,ho,rfl⟩ (by decide +kernel) mw ?_ (oK _ _)
 unfold Builtin.«bytearray.append»
 refine al (cL (rfl:selfAndOne "bytearray.append" ⟨[.ref a,.int n t],[]⟩=pure (.ref a,.int n t)) (ax ?_))
 dsimp only
 refine al ?_
 unfold byteValue
 refine al (cL (rfl:asIndex (.int n t)=pure n) (ax ?_))
 refine eM (by simp only[Bool.or_eq_false_iff,decide_eq_false_iff_not];lia) (ax ?_)
 refine al (qb hg ho ?_)
 refine bB.any (J1 (mR ho (by simpa using hz) fun h' h1 h2=>?_))
 exact K1 ⟨_,rfl,h h' h1 h2⟩
theorem Cw{a:Addr}(hg:A.guards=some [])(ho:s.heap.get? a=some (oH #[])){Q:PySem.Fin→Shared→Prop}(h:∀ h',h'.get? a=some (oH #[])→Heap.SameBut a s.heap h'→Q (.done (.ret .none)) { s with heap:=h'}):bB (model prog w) A (Builtin.«bytearray.__init__» ⟨[.ref a],[]⟩) Q s:=by
 unfold Builtin.«bytearray.__init__»
 dsimp only
 refine bV (nf ho ?_)
 refine eM rfl ?_
 refine al (cL sb (ax ?_))
 dsimp only
 refine al (cL (rfl:checkCodecArg "bytearray.__init__" "bytearray" "encoding" none=pure ()) (ax ?_))
 refine al (cL (rfl:checkCodecArg "bytearray.__init__" "bytearray" "errors" none=pure ()) (ax ?_))
 refine al ?_
 show bB _ _ (exported (.ref a) >>= _) _ s
 refine al (oy hg ?_)
 show bB _ _ (do let x←exportsOf (.ref a);pure (decide (x > 0))) _ s
 refine bB.any (J1 ?_)
 show wpAny _ _ (load a >>= _) _ _ s
 refine J1 (wpAny_load ho (K1 (K1 ?_)))
 refine eM rfl ?_
 refine bV (mR ho (by simp) fun h' h1 h2=>?_)
 exact ax (h h' h1 h2)
theorem CU(hg:A.guards=some [])(h:∀ h':Heap,(∀ b o,s.heap.get? b=some o→h'.get? b=some o)→h'.get? s.heap.objs.size=some (oH #[])→Q (.ref s.heap.objs.size) { s with heap:=h'}):bB (model prog w) A (call (.type "bytearray") []) Q s:=by
 refine ju (cf rfl ?_)
 show bB _ _ (callAny (.type "bytearray") ⟨[],[]⟩) _ s
 refine ax ⟨Code.quiet_builtin _ (by decide +kernel),kF (by decide +kernel) F.entry_type_call ?_⟩
 rw[Around.under_plain (weight_type_call_type "bytearray" [] []) rfl]
 unfold Builtin.«type.__call__»
 dsimp only
 refine eM rfl ?_
 refine eM qA.canCreate ?_
 refine al (cL uj (ax ?_))
 refine al (cL vW (ax ?_))
 refine eM rfl ?_
 refine al (cL qA.made (ax ?_))
 dsimp only
 refine al (ax ?_)
 refine al (bO (bB.any (wpAny_call (tY ?_))))
 have ho:(s.heap.push (oH #[])).get? s.heap.objs.size=some (oH #[]):=Q5 _ rfl
 have hT:Shared.TypeIs { s with heap:=s.heap.push (oH #[])} (.ref s.heap.objs.size) "bytearray":=⟨_,ho,rfl⟩
 refine bV (wpAny_isInstance hT sd ?_)
 refine eM rfl ?_
 refine al (bO ?_)
 simp only[callSpecial?]
 refine bV (W7 hT eP.lookup ?_)
 simp only[eP.bind]
 refine bO (al (ax (al ?_)))
 refine fi eP hT (by decide +kernel) pK ?_ (sf _)
 refine Cw (A:=A.in1.in1) (s:={ s with heap:=s.heap.push (oH #[])}) hg ho ?_
 intro h' h1 h2
 refine⟨_,rfl,ax ?_⟩
 dsimp only
 refine eM (by decide) (ax ?_)
 refine h h' (fun b o e=>h2.extBut b o (W3 (Heap.lt_size e)) (K3 _ e)) h1
end
end
section
open PySem.Builtin.Bytes
theorem Ej:isSubtype (.type "bytes") (.type "bytes")=pure true:=by rw[isSubtype_type];kernel_rfl
theorem vJ:("bytes.__buffer__".endsWith ("."++"__buffer__"))=true:=by decide +kernel
theorem vM:("bytes.__buffer__".dropRight ("__buffer__".length+1))="bytes":=by decide +kernel
theorem vK:("bytearray.__buffer__".endsWith ("."++"__buffer__"))=true:=by decide +kernel
theorem vN:("bytearray.__buffer__".dropRight ("__buffer__".length+1))="bytearray":=by decide +kernel
section
variable {prog:Program}{w:World}{A:Around}{s:Shared}{Q:Value→Shared→Prop}{E:Value→Shared→Prop}
theorem qd{b:Array UInt8}{t:Tok}{Q:Bool→Shared→Prop}(h:Q true s):wpAny (model prog w) A (slotIsOwn (.bytes b t) "__buffer__") Q E s:=by
 have hT:s.TypeIs (.bytes b t) "bytes":=PySem.W.typeIs_bytes _ _ _
 unfold slotIsOwn
 refine J1 (W7 hT fb ?_)
 try dsimp only
 rw[if_neg (by rw[vJ];decide),vM]
 exact wpAny_isInstance hT Ej h
theorem xH{a:Addr}{b:Array UInt8}{Q:Bool→Shared→Prop}(ho:s.heap.get? a=some (oH b))(h:Q true s):wpAny (model prog w) A (slotIsOwn (.ref a) "__buffer__") Q E s:=by
 have hT:s.TypeIs (.ref a) "bytearray":=⟨_,ho,rfl⟩
 unfold slotIsOwn
 refine J1 (W7 hT kH ?_)
 try dsimp only
 rw[if_neg (by rw[vK];decide),vN]
 exact wpAny_isInstance hT sd h
theorem u9{b:Array UInt8}{t:Tok}{Q:Bool→Shared→Prop}(h:Q false s):wpAny (model prog w) A (ownRelease (.bytes b t)) Q E s:=by
 have hT:s.TypeIs (.bytes b t) "bytes":=PySem.W.typeIs_bytes _ _ _
 unfold ownRelease slotIsOwn
 exact J1 (J1 (W7 hT vT (K1 (K1 h))))
theorem nj{a:Addr}{b:Array UInt8}{Q:Array UInt8→Shared→Prop}(ho:s.heap.get? a=some (oH b))(h:Q b s):wpAny (model prog w) A (payload (.ref a)) Q E s:=by
 unfold payload payload?
 exact J1 (J1 (wpAny_load ho (K1 (K1 h))))
theorem yy{id:String}{b:Array UInt8}{t:Tok}{full:Bool}{Q:Option (Array UInt8)→Shared→Prop}(h:Q (some b) s):wpAny (model prog w) A (buffer? id (.bytes b t) full) Q E s:=by
 have hT:s.TypeIs (.bytes b t) "bytes":=PySem.W.typeIs_bytes _ _ _
 unfold buffer?
 refine J1 (W7 hT fb ?_)
 try dsimp only
 refine J1 (qd ?_)
 refine bm_if_false rfl ?_
 refine J1 (W7 hT fb ?_)
 try dsimp only
 refine J1 (u9 ?_)
 refine bm_if_false rfl ?_
 exact J1 (K1 (K1 h))
theorem yz{id:String}{a:Addr}{b:Array UInt8}{full:Bool}{Q:Option (Array UInt8)→Shared→Prop}(ho:s.heap.get? a=some (oH b))(h:Q (some b) s):wpAny (model prog w) A (buffer? id (.ref a) full) Q E s:=by
 have hT:s.TypeIs (.ref a) "bytearray":=⟨_,ho,rfl⟩
 unfold buffer?
 refine J1 (W7 hT kH ?_)
 try dsimp only
 refine J1 (xH ho ?_)
 refine bm_if_false rfl ?_
 refine J1 (W7 hT kH ?_)
 try dsimp only
 refine J1 (nf ho ?_)
 refine bm_if_false rfl ?_
 exact J1 (nj ho (K1 h))
theorem BV{id:String}{b:Array UInt8}{t:Tok}{fl:Int}{Q:Option (Array UInt8×Option Value)→Shared→Prop}(h:Q (some (b,none)) s):wpAny (model prog w) A (takeBufferQuiet? id (.bytes b t) fl) Q E s:=by
 have hT:s.TypeIs (.bytes b t) "bytes":=PySem.W.typeIs_bytes _ _ _
 unfold takeBufferQuiet?
 refine J1 (wpAny_attempt ?_)
 unfold takeBuffer?
 refine J1 (W7 hT fb ?_)
 try dsimp only
 refine J1 (qd ?_)
 refine bm_if_false rfl ?_
 refine J1 (W7 hT fb ?_)
 try dsimp only
 refine J1 (yy (K1 ?_))
 exact K1 h
theorem oF{a:Addr}{b m:Array UInt8}{t:Tok}(hg:A.guards=some [])(ho:s.heap.get? a=some (oH b))(hz:b.size+m.size≤J5)
  (h:∀ h',h'.get? a=some (oH (b++m))→Heap.SameBut a s.heap h'→Q .none { s with heap:=h'}):bB (model prog w) A (call (.builtin "bytearray.extend") [.ref a,.bytes m t]) Q s:=by
 refine fi ib ⟨_,ho,rfl⟩ (by decide +kernel) mu ?_ (oJ _ _)
 unfold Builtin.«bytearray.extend»
 refine al (cL (rfl:selfAndOne "bytearray.extend" ⟨[.ref a,.bytes m t],[]⟩=pure (.ref a,.bytes m t)) (ax ?_))
 try dsimp only
 have hT:s.TypeIs (.bytes m t) "bytes":=PySem.W.typeIs_bytes _ _ _
 refine bV (W7 hT fb ?_)
 refine qW rfl ?_
 refine bV (wpAny_rule ?_)
 refine bV (nj ho ?_)
 try dsimp only
 refine bV (BV ?_)
 try dsimp only
 refine qW rfl ?_
 have tail:bB (model prog w) A.in1 (Builtin.Bytes.write (.ref a) (·++m) >>= fun _=>ret Value.none) (fun fin s'=>∃ v,fin=.done (.ret v)∧Q v s') s:=
  bB.any (J1 (mR ho (by simpa using hz) fun h' h1 h2=>K1 ⟨_,rfl,h h' h1 h2⟩))
 show bB _ _ (if(!m.isEmpty)=true then _ else _) _ _
 cases hm:m.isEmpty with
 | true=>
  refine eM rfl ?_
  exact tail
 | false=>
 refine qW rfl ?_
 exact al (qb hg ho tail)
theorem se{a:Addr}{b:Array UInt8}(ho:s.heap.get? a=some (oH b))(hz:b.size≤J5)(hQ:∀ t k,Q (.bytes b t) { s with toks:=k}):codeAny (model prog w) A (.call (.builtin "bytes.__new__") ⟨[.type "bytes",.ref a],[]⟩) (wants Q E) s:=by
 refine codeAny_of_tree ?_
 show wpAny _ A.in1 (do checkBuiltinCall "bytes.__new__" ⟨[.type "bytes",.ref a],[]⟩;again (.builtin "bytes.__new__" ⟨[.type "bytes",.ref a],[]⟩)) _ _ s
 refine J1 (wpAny_of_eq (F.bm_newCall _) (K1 ⟨plainId_quiet F.bm_plain _,codeAny_builtin F.bm_entry ?_⟩))
 rw[Around.under_plainId F.bm_plain _]
 have hT:s.TypeIs (.ref a) "bytearray":=⟨_,ho,rfl⟩
 unfold Builtin.«bytes.__new__»
 refine J1 (wpAny_of_eq (a:=true) rfl ?_)
 refine bm_if_false rfl ?_
 refine J1 (wpAny_of_eq F.bm_sub ?_)
 refine bm_if_false rfl ?_
 refine J1 (wpAny_of_eq (F.bm_bind _) ?_)
 refine J1 (wpAny_of_eq (a:=()) rfl ?_)
 refine J1 (wpAny_of_eq (a:=()) rfl ?_)
 refine bm_if_false rfl ?_
 refine J1 (W7 hT ul ?_)
 refine J1 (J1 ?_)
 show wpAny _ _ (load a >>= _) _ _ _
 refine J1 (wpAny_load ho ?_)
 refine K1 (K1 ?_)
 refine bm_if_false rfl ?_
 refine J1 (W7 hT uk ?_)
 refine bm_if_true rfl ?_
 first
  | show wpAny _ _ (Builtin.Bytes.buffer? "bytes.__new__" (.ref a) true >>= _) _ _ _
  | (refine J1 ?_;show wpAny _ _ (Builtin.Bytes.buffer? "bytes.__new__" (.ref a) true >>= _) _ _ _)
 refine J1 (yz ho ?_)
 refine J1 (wpAny_rule ?_)
 refine J1 (wpAny_mkBytes ?_ hz)
 show wpAny _ _ (if(Value.type "bytes" == Value.type "bytes")=true then _ else _) _ _ _
 refine bm_if_true (by decide) ?_
 first
  | exact K1 (hQ _ _)
  | exact J1 (K1 (K1 (hQ _ _)))
  | exact J1 (K1 (K1 (K1 (hQ _ _))))
theorem pM{a:Addr}{b:Array UInt8}(ho:s.heap.get? a=some (oH b))(hz:b.size≤J5)(hQ:∀ t k,Q (.bytes b t) { s with toks:=k}):wpAny (model prog w) A (call (.type "bytes") [.ref a]) Q E s:=by
 refine callType_codes (Q₁:=fun obj s₁=>s₁.TypeIs obj "bytes"∧Q obj s₁) F.bm_called (F.bm_typeCall _) F.entry_object_init
  (se ho hz fun t k=>⟨PySem.W.typeIs_bytes _ _ _,hQ t k⟩) fun obj s₁ h₁=>?_
 exact⟨h₁.1,F.args_object_init_2 obj _,object_init_meets F.bm_called.init.lookup F.bm_called.made (by decide) prog w A.in1 _ s₁ ⟨h₁.1,rfl,h₁.2⟩⟩
end
end
section
variable {G:cq}{dd:Nat}{fn:bW}{ls ls' ls'':List (Str×V)}{H H' H₁ H₂ H₃:List O}{v a b f ov iv:V}{vs first args:List V}{d₁:Nat}{c:Cx}{ρ ρ':List Addr}{s:Shared}
theorem rW(hg:c.A₀.guards=some []):c.A.guards=some []:=hg
theorem Bi:we G 0 (.ty "bytearray") [] H (.obj H.length) (H++[.barr #[]]):=fun c s ls ρ f' vs Q ok hg R rf ra hQ=>by
 obtain rfl:=rf
 obtain rfl:=bq.c0 ra
 ·have hlen:=R.hlen
  refine CU (rW hg) fun h' hk ho=>?_
  have R₂:aC c [s.heap.objs.size] ls ρ H { s with heap:=h'}:=R.off (t:=s.toks) hk (by simp) (fun a ha=>by rw[J6.mp ha];exact eX _) (fun a ha=>by rw[J6.mp ha];exact Nat.le_refl _)
  exact hQ _ _ _ (K4 _ _) (R₂.adopt (x:=.barr #[]) ho rfl).rep ⟨_,by rw[hlen];exact dW,rfl⟩
theorem aY.barr{i:Nat}{a:Addr}{b:Array UInt8}(R:aY c ls ρ H s)(ha:ρ[i]?=some a)(hi:H[i]?=some (.barr b)):s.heap.get? a=some (oH b):=by
 obtain⟨m,fr,os,W⟩:=R
 obtain⟨ob,_,_,rfl,hg⟩:=W.mem ha hi
 exact hg
theorem aY.setBut{i:Nat}{a:Addr}{ob':Obj}{x:O}{h':Heap}(R:aY c ls ρ H s)(ha:ρ[i]?=some a)(hi:i<H.length)(ho:h'.get? a=some ob')(hs:Heap.SameBut a s.heap h')(hx:OR c.w.params ρ x ob'):aY c ls ρ (H.set i x) { s with heap:=h'}:=by
 obtain⟨m,fr,os,W⟩:=R
 exact W.setAt (t:=s.toks) ha hi (fun b o hb e=>hs.extBut b o hb e) ho hx
theorem sx{i:Nat}{b:Array UInt8}{n:Int}(hi:H[i]?=some (.barr b))(hn:0≤n∧n<256)(hz:b.size+1≤J5):we G 0 (.bi "bytearray.append") [.obj i,.int n] H .none (H.set i (.barr (b.push n.toNat.toUInt8))):=fun c s ls ρ f' vs Q ok hg R rf ra hQ=>by
 obtain rfl:=rf
 obtain⟨x',y',rfl,⟨a,ha,e1⟩,⟨t,e2⟩,_⟩:=bq.c2 ra
 ·subst e1 e2
  refine oG (rW hg) (R.barr ha hi) hn hz fun h' h1 h2=>?_
  exact hQ ρ _ _ (J2 _) (R.setBut ha (J4.mp hi).1 h1 h2 rfl) rfl
theorem sw{i:Nat}{b m:Array UInt8}(hi:H[i]?=some (.barr b))(hz:b.size+m.size≤J5):we G 0 (.bi "bytearray.extend") [.obj i,.byt m] H .none (H.set i (.barr (b++m))):=fun c s ls ρ f' vs Q ok hg R rf ra hQ=>by
 obtain rfl:=rf
 obtain⟨x',y',rfl,⟨a,ha,e1⟩,⟨t,e2⟩,_⟩:=bq.c2 ra
 ·subst e1 e2
  refine oF (rW hg) (R.barr ha hi) hz fun h' h1 h2=>?_
  exact hQ ρ _ _ (J2 _) (R.setBut ha (J4.mp hi).1 h1 h2 rfl) rfl
theorem o0{i:Nat}{b:Array UInt8}(hi:H[i]?=some (.barr b))(hz:b.size≤J5):Cl G 0 (.ty "bytes") [.obj i] H (.byt b) H:=fun c s ls ρ f' vs Q E ok R rf ra hQ=>by
 obtain rfl:=rf
 obtain⟨x',rfl,⟨a,ha,e1⟩,_⟩:=bq.c1 ra
 ·subst e1
  exact pM (R.barr ha hi) hz fun t k=>hQ ρ _ _ (J2 _) R.tok ⟨t,rfl⟩
theorem Gm.barr{i:Nat}{b:Array UInt8}{name:Str}{id:String}(slot:Slot "bytearray" name id)(hty:typeOf (.builtin id)=pure (.type "method_descriptor"))(hi:H[i]?=some (.barr b)):Gm G dd (.obj i) name H (.bi id) [.obj i]:=fun c s ls ρ o' pl Q E ok R ro hQ=>by
 obtain⟨a,ha,rfl⟩:=ro
 have ho:=R.barr ha hi
 exact getMethod_builtin ⟨_,ho,rfl⟩ o7 slot hty (fun a' e=>by cases e;exact⟨_,ho,rfl⟩) (hQ s _ _ R rfl ⟨⟨a,ha,rfl⟩,trivial⟩)
end
noncomputable def aq(cs:List Nat):Str:=⟨cs.toArray⟩
theorem az(cs:List Nat):(aq cs).length=cs.length:=by simp[aq,Str.length]
theorem eQ{a b:List Nat}:aq a=aq b↔a=b:=by
 constructor
 ·intro h
  have:=congrArg Str.cps h
  simpa [aq] using this
 rintro rfl;rfl
theorem eB(a b:List Nat):aq (a++b)=aq a++aq b:=by
 show(⟨(a++b).toArray⟩:Str)=⟨a.toArray++b.toArray⟩
 simp
theorem s8(x:Str):aq x.cps.toList=x:=by cases x;simp[aq]
theorem m6{x:Str}{a b:Nat}:Txt.slice x (some a) (some b)=Txt.slice x (some ((min a x.length:Nat):Int)) (some ((min b x.length:Nat):Int)):=by
 have e:Builtin.Str.strSliceIndices (some (a:Int)) (some (b:Int)) 1 x.length=Builtin.Str.strSliceIndices (some ((min a x.length:Nat):Int)) (some ((min b x.length:Nat):Int)) 1 x.length:=by
  unfold Builtin.Str.strSliceIndices
  simp only[show(1:Int) > 0 from by decide,if_true]
  have h:∀ n:Nat,¬ ((n:Int)<0):=fun n=>Int.not_lt.mpr (Int.natCast_nonneg n)
  have m:∀ a:Nat,min (((min a x.length:Nat):Int)) (x.length:Int)=min (a:Int) (x.length:Int):=fun a=>(Nat.le_total a x.length).elim (fun q=>by rw[Nat.min_eq_left q]) (fun q=>by rw[Nat.min_eq_right q,Int.min_self,Int.min_eq_right (Int.ofNat_le.mpr q)])
  simp only[h,if_false,m]
 unfold Txt.slice
 rw[e]
theorem eW(cs:List Nat){a b:Nat}(h:a≤b):Txt.slice (aq cs) (some (a:Int)) (some (b:Int))=aq ((cs.drop a).take (b-a)):=by
 rw[m6]
 have hl:=az cs
 have h2:=slice_closes (x:=aq cs) (i:=((min a (aq cs).length:Nat):Int)) (j:=((min b (aq cs).length:Nat):Int)) ⟨Int.natCast_nonneg _,Int.ofNat_le.mpr (Nat.le_min.mpr ⟨J7 (Nat.min_le_left ..) h,Nat.min_le_right ..⟩),Int.ofNat_le.mpr (Nat.min_le_right ..)⟩
 rw[beq_iff_eq] at h2
 rw[h2]
 show(⟨_⟩:Str)=⟨_⟩
 congr 1
 simp only[aq,Str.length,Q2,List.toList_toArray]
 apply congrArg
 have e1:((min a cs.length:Nat):Int).toNat=min a cs.length:=rfl
 have e2:(((min b cs.length:Nat):Int)-((min a cs.length:Nat):Int)).toNat=min b cs.length-min a cs.length:=Int.toNat_sub _ _
 rw[e1,e2]
 by_cases ha:a≤cs.length
 ·rw[Nat.min_eq_left ha]
  by_cases hb:b≤cs.length
  ·rw[Nat.min_eq_left hb]
  have hb':=Nat.le_of_lt (Nat.lt_of_not_le hb)
  rw[Nat.min_eq_right hb',List.take_of_length_le (by rw[List.length_drop];exact Nat.le_refl _),List.take_of_length_le (by rw[List.length_drop];exact Nat.sub_le_sub_right hb' a)]
 have ha':=Nat.le_of_lt (Nat.lt_of_not_le ha)
 rw[Nat.min_eq_right ha',Nat.min_eq_right (J7 ha' h),List.drop_eq_nil_of_le ha',List.take_nil,Nat.sub_self];rfl
theorem og(cs:List Nat){n k:Nat}(h:cs[n]?=some k):Txt.item (aq cs) (n:Int)=aq [k]:=by
 have hn:n<cs.length:=(J4.mp h).1
 exact PyProof.Rows.item_meets (by lia) (by simpa [aq] using h)
theorem mZ{cs:List Nat}{n:Nat}{rest:List Nat}(h:cs.drop n=rest)(m:Nat):Txt.slice (aq cs) (some (n:Int)) (some ((n:Int)+(m:Nat)))=aq (rest.take m):=by
 have:=eW cs (a:=n) (b:=n+m) (Nat.le_add_right _ _)
 rw[Nat.add_sub_cancel_left,h] at this
 exact this
theorem s6{cs:List Nat}{n:Nat}{rest:List Nat}(h:cs.drop n=rest):Txt.slice (aq cs) (some (n:Int)) (some ((n:Int)+1))=aq (rest.take 1):=mZ h 1
theorem eZ{cs:List Nat}{n k:Nat}{rest:List Nat}(h:cs.drop n=k::rest):cs[n]?=some k∧cs.drop (n+1)=rest:=by
 constructor
 ·have:=congrArg (fun l=>l[0]?) h
  simpa using this
 have:=congrArg (List.drop 1) h
 simpa [List.drop_drop] using this
noncomputable def jP(hex:Bool)(k:Nat):Option Nat:=
 if 48≤k∧k≤57 then some (k-48) else if hex=true∧97≤k∧k≤102 then some (k-87) else if hex=true∧65≤k∧k≤70 then some (k-55) else none
noncomputable def dc(base:Int)(hex:Bool):List Nat→Int→Bool→Option Int
 | [],found,was=>if was then some found else none
 | k::r,found,was=>if k=95 then(if was then dc base hex r found false else none) else match jP hex k with
  | some v=>dc base hex r (found*base+v) true
  | none=>none
noncomputable def lL(cs:List Nat):Bool:=cs.take 1==[43] || cs.take 1==[45]
noncomputable def cu(cs:List Nat):List Nat:=if lL cs then cs.drop 1 else cs
noncomputable def jM(b:List Nat):Bool:=b.take 2==[48,120]
noncomputable def iq(cs:List Nat):Option Int:=if jM (cu cs) then dc 16 true ((cu cs).drop 2) 0 false else dc 10 false (cu cs) 0 false
noncomputable def iU(cs:List Nat):Option Int:=(iq cs).map fun v=>if cs.take 1==[45] then -v else v
noncomputable def a7(cs:List Nat):Str×Option Int:=
 match iU cs with
 | some v=>("int",some v)
 | none=>if cs.take 1=[36]∧1<cs.length then("id",none) else match cs with
  | k::_=>if 97≤k∧k≤122 then("word",none) else("reserved",none)
  | []=>("reserved",none)
noncomputable def eO(cs:List Nat):V:=match (a7 cs).2 with | some v=>.int v | none=>.str (aq cs)
noncomputable def Kp(I:List Nat)(H H':List O):Prop:=H.length≤H'.length∧∀ j x,j∉I→H[j]?=some x→H'[j]?=some x
theorem Kp.refl{I:List Nat}{H:List O}:Kp I H H:=⟨Nat.le_refl _,fun _ _ _ e=>e⟩
theorem Kp.trans{I:List Nat}{H H₁ H₂:List O}(a:Kp I H H₁)(b:Kp I H₁ H₂):Kp I H H₂:=⟨J7 a.1 b.1,fun j x hj e=>b.2 j x hj (a.2 j x hj e)⟩
theorem Kp.app{I:List Nat}{H l:List O}:Kp I H (H++l):=⟨by simp,fun j x _ e=>by rw[Q0 (J4.mp e).1];exact e⟩
theorem Kp.set{I:List Nat}{H:List O}{i:Nat}{y:O}(hi:i∈I):Kp I H (H.set i y):=⟨by simp,fun j x hj e=>by rw[V5 (fun q:i=j=>hj (by rw[←q];exact hi))];exact e⟩
theorem Kp.sub{I J:List Nat}{H H':List O}(a:Kp I H H')(h:∀ i∈I,i∈J):Kp J H H':=⟨a.1,fun j x hj e=>a.2 j x (fun q=>hj (h j q)) e⟩
theorem ef{a b:Nat}(h:a≠b):a∉[b]:=fun m=>h (J6.mp m)
theorem lM{a b c:Nat}(h:a≠b)(k:a≠c):a∉[b,c]:=fun m=>by
 rcases K2.mp m with e | m
 ·exact h e
 exact k (J6.mp m)
theorem Kp.get{I:List Nat}{H H':List O}(a:Kp I H H'){j:Nat}{x:O}(e:H[j]?=some x)(hj:j∉I):H'[j]?=some x:=a.2 j x hj e
theorem sQ.sub{ρ:List Addr}{ls l':List (Str×V)}{m:Str→Option Value}(h:sQ ρ ls m)(hs:∀ p∈l',p∈ls)(nd:(l'.map (·.1)).Nodup):sQ ρ l' m:=⟨fun p hp=>h.all p (hs p hp),nd⟩
section
variable {G:cq}{dd:Nat}{fn:bW}{ls ls' l':List (Str×V)}{H H':List O}{fl:Fl}{st:List Stmt}{c:Cx}{ρ:List Addr}{s:Shared}
theorem aY.lessL(R:aY c ls ρ H s)(hs:∀ p∈l',p∈ls)(nd:(l'.map (·.1)).Nodup):aY c l' ρ H s:=by
 obtain⟨m,fr,os,W⟩:=R
 exact⟨m,fr,os,W.gens,W.drawn,W.sos,W.F,W.N,W.sls.sub hs nd,W.sfr,W.hos,W.len,W.nd,W.cs,W.pn⟩
theorem Es.less(h:Es G dd fn st ls H fl ls' H')(hs:∀ p∈l',p∈ls')(nd:(l'.map (·.1)).Nodup):Es G dd fn st ls H fl l' H':=fun c s ρ Q E hc ok R hQ=>
 h c s ρ Q E hc ok R fun ρ' s' f' hp R' rf=>hQ ρ' s' f' hp (R'.lessL hs nd) rf
theorem be.less(h:be G dd fn st ls H fl ls' H')(hs:∀ p∈l',p∈ls')(nd:(l'.map (·.1)).Nodup):be G dd fn st ls H fl l' H':=fun c s ρ Q hc ok hg R hQ=>
 h c s ρ Q hc ok hg R fun ρ' s' f' hp R' rf=>hQ ρ' s' f' hp (R'.lessL hs nd) rf
end
theorem Fi{H l:List O}{i:Nat}(h:i<H.length):i<(H++l).length:=by rw[V6];exact Nat.lt_add_right _ h
theorem Fh{H:List O}{i j:Nat}{x:O}(h:i<H.length):i<(H.set j x).length:=by rw[List.length_set];exact h
noncomputable abbrev iT(x y:Str):List Nat:=Builtin.Str.occurrences x y 0 x.length 1
noncomputable def Fu(k:Nat):Bool:=decide (k∈(J0 "0123456789abcdefABCDEF").cps.toList)==(jP true k).isSome
noncomputable def Fw(k:Nat):Bool:=decide (k∈(J0 "0123456789").cps.toList)==(jP false k).isSome
noncomputable def Ds(k:Nat):Bool:=match jP true k with | some v=>(iT "0123456789abcdefABCDEF" (Txt.lower (aq [k]))).head? == some v && (Txt.lower (aq [k])).length==1 | none=>true
theorem yu:(List.range 128).all Fu=true:=by decide +kernel
theorem yv:(List.range 128).all Fw=true:=by decide +kernel
theorem yt:(List.range 128).all Ds=true:=by decide +kernel
theorem kJ{p:Nat→Bool}(h:(List.range 128).all p=true){k:Nat}(hk:k<128):p k=true:=W8.mp h k (List.mem_range.mpr hk)
theorem wM(hex:Bool){k:Nat}(hk:k<128):(!(iT (if hex then "0123456789abcdefABCDEF" else "0123456789") (aq [k])).isEmpty)=(jP hex k).isSome:=by
 cases hex
 ·exact(PySem.StrLaws.found_one _ k).trans (eq_of_beq (kJ yv hk))
 exact(PySem.StrLaws.found_one _ k).trans (eq_of_beq (kJ yu hk))
theorem tV{hex:Bool}{k v:Nat}(h:jP hex k=some v):jP true k=some v:=by
 cases hex
 ·unfold jP at h ⊢
  by_cases h1:48≤k∧k≤57
  ·rw[if_pos h1] at h ⊢;exact h
  rw[if_neg h1] at h;simp at h
 exact h
theorem Ax{k v:Nat}(hk:k<128)(h:jP true k=some v):(∃ rest,iT "0123456789abcdefABCDEF" (Txt.lower (aq [k]))=v::rest)∧(Txt.lower (aq [k])).length=1:=by
 have:=kJ yt hk
 unfold Ds at this
 rw[h] at this
 simp only[V2,beq_iff_eq] at this
 refine⟨?_,this.2⟩
 cases e:iT "0123456789abcdefABCDEF" (Txt.lower (aq [k])) with
 | nil=>rw[e] at this;simp at this
 | cons a r=>rw[e] at this;simp at this;exact⟨r,by rw[this.1]⟩
noncomputable def wE(cs:List Nat):List hM:=cs.map fun k=>.one (.str (aq [k]))
theorem zT(cs:List Nat):bT (dm (aq cs))=wE cs:=by
 unfold bT dm wE aq
 simp
theorem oI{cs:List Nat}(h:∀ k∈cs,k<128):(aq cs).cps.all (· < 128)=true:=by simpa [aq] using h
noncomputable def aI:Option Int→V | some v=>.int v | none=>.none
section
variable {G:cq}{dd:Nat}{fn:bW}{H H':List O}{target iter:Expr}{body rest:List Stmt}{pos:Pos}{base:Int}{hex:Bool}{L:Bool→Int→List (Str×V)}{L2:Nat→Bool→Int→List (Str×V)}{cs:List Nat}
theorem uT(hT:∀ k was found,Tn fn target (.one (.str (aq [k]))) (L was found) H (L2 k was found) H)
  (h1:∀ found,Es G dd fn body (L2 95 true found) H .next (L false found) H)
  (h2:∀ found,Es G dd fn body (L2 95 false found) H (.ret .none) [] H)
  (h3:∀ k v was found,k<128→k≠95→jP hex k=some v→Es G dd fn body (L2 k was found) H .next (L true (found*base+v)) H)
  (h4:∀ k was found,k<128→k≠95→jP hex k=none→Es G dd fn body (L2 k was found) H (.ret .none) [] H) :
  ∀ (cs:List Nat) (was:Bool) (found:Int),(∀ k∈cs,k<128)→
   (dc base hex cs found was=none∧oV G dd fn target body (fun _=>True) (wE cs) (L was found) H (.ret .none) [] H)∨
   (∃ w f,dc base hex cs found was=(if w then some f else none)∧oV G dd fn target body (fun _=>True) (wE cs) (L was found) H .next (L w f) H):=by
 intro cs
 induction cs with
 | nil=>intro was found _;exact .inr ⟨was,found,rfl,.nil trivial⟩
 | cons k r ih=>
 intro was found hk
 have hr:∀ k∈r,k<128:=fun j hj=>hk j (K6 _ hj)
 have hk0:=hk k K5
 by_cases e:k=95
 ·subst e
  cases was with
  | false=>exact .inl ⟨by simp[dc],.ret trivial (hT _ _ _) (h2 found)⟩
  | true=>
  rcases ih false found hr with⟨a,b⟩ | ⟨w,f,a,b⟩
  ·exact .inl ⟨by simp[dc,a],.cons trivial (hT _ _ _) (h1 found) b⟩
  exact .inr ⟨w,f,by simp[dc,a],.cons trivial (hT _ _ _) (h1 found) b⟩
 cases ed:jP hex k with
 | none=>exact .inl ⟨by simp[dc,e,ed],.ret trivial (hT _ _ _) (h4 k was found hk0 e ed)⟩
 | some v=>
 rcases ih true (found*base+v) hr with⟨a,b⟩ | ⟨w,f,a,b⟩
 ·exact .inl ⟨by simp[dc,e,ed,a],.cons trivial (hT _ _ _) (h3 k v was found hk0 e ed) b⟩
 exact .inr ⟨w,f,by simp[dc,e,ed,a],.cons trivial (hT _ _ _) (h3 k v was found hk0 e ed) b⟩
theorem pW(S:bz fn)(hi:js G dd fn iter (L false 0) H (bT (dm (aq cs))) (fun _=>True) H)(hcs:∀ k∈cs,k<128)
  (hT:∀ k was found,Tn fn target (.one (.str (aq [k]))) (L was found) H (L2 k was found) H)
  (h1:∀ found,Es G dd fn body (L2 95 true found) H .next (L false found) H)
  (h2:∀ found,Es G dd fn body (L2 95 false found) H (.ret .none) [] H)
  (h3:∀ k v was found,k<128→k≠95→jP hex k=some v→Es G dd fn body (L2 k was found) H .next (L true (found*base+v)) H)
  (h4:∀ k was found,k<128→k≠95→jP hex k=none→Es G dd fn body (L2 k was found) H (.ret .none) [] H)
  (h5:∀ w f,Es G dd fn rest (L w f) H (.ret (if w then .int f else .none)) [] H)
  (hs:∀ env x,V1 iter env x=pure x:=by intro _ _;rfl) :
  Es G dd fn (.For target iter body [] pos::rest) (L false 0) H (.ret (aI (dc base hex cs 0 false))) [] H:=by
 rw[zT] at hi
 rcases uT hT h1 h2 h3 h4 cs false 0 hcs with⟨a,b⟩ | ⟨w,f,a,b⟩
 ·rw[a];exact Es.ret (mM S hi b hs)
 rw[a]
 have:=Es.cons (mM (pos:=pos) S hi b hs) (h5 w f)
 cases w
 ·exact this
 exact this
end
section
variable {G:cq}{dd:Nat}{fn:bW}{ls ls' ls'':List (Str×V)}{H H' H₁ H₂ H₃:List O}{a b c:V}
theorem iH(S:bz fn){elts k tpos es k' p' pos}{n1 n2:Str}(h:ap G dd fn es ls H [a,b] H₁)(ha:y7 fn [n2,n1] [b,a] ls (H₁++[.tup [a,b]]) ls' H₂)
  (hs:∀ env,swapsWithSole [.Tuple elts k tpos] (.Tuple es k' p') pos.line env=pure false:=by intro _;rfl) (hw:∀ env:Env,env.scope=fn.sc→Y2 [.Tuple elts k tpos] (.Tuple es k' p') env=pure (some [n1,n2])) :
  Ex G dd fn (.Assign [.Tuple elts k tpos] (.Tuple es k' p') pos) ls H .next ls' H₂:=qP S (names:=[n1,n2]) (vs:=[a,b]) (Ev.tup h (by rw[J9];simp)) (by simp) ha rfl hs hw
theorem oW(S:bz fn){elts k tpos es k' p' pos}{n1 n2 n3:Str}(h:ap G dd fn es ls H [a,b,c] H₁)(ha:y7 fn [n3,n2,n1] [c,b,a] ls (H₁++[.tup [a,b,c]]) ls' H₂)
  (hs:∀ env,swapsWithSole [.Tuple elts k tpos] (.Tuple es k' p') pos.line env=pure false:=by intro _;rfl) (hw:∀ env:Env,env.scope=fn.sc→Y2 [.Tuple elts k tpos] (.Tuple es k' p') env=pure (some [n1,n2,n3])) :
  Ex G dd fn (.Assign [.Tuple elts k tpos] (.Tuple es k' p') pos) ls H .next ls' H₂:=qP S (names:=[n1,n2,n3]) (vs:=[a,b,c]) (Ev.tup h (by rw[J9];simp)) (by simp) ha rfl hs hw
theorem yN(S:bz fn){elts k tpos es k' p' pos}{n1 n2:Str}(h:dK G dd fn es ls H [a,b] H₁)(ha:y7 fn [n2,n1] [b,a] ls (H₁++[.tup [a,b]]) ls' H₂)
  (hs:∀ env,swapsWithSole [.Tuple elts k tpos] (.Tuple es k' p') pos.line env=pure false:=by intro _;rfl) (hw:∀ env:Env,env.scope=fn.sc→Y2 [.Tuple elts k tpos] (.Tuple es k' p') env=pure (some [n1,n2])) :
  dz G dd fn (.Assign [.Tuple elts k tpos] (.Tuple es k' p') pos) ls H .next ls' H₂:=oS S (names:=[n1,n2]) (vs:=[a,b]) (g9.tup h (by rw[J9];simp)) (by simp) ha rfl hs hw
theorem yM(S:bz fn){elts k tpos es k' p' pos}{n1 n2 n3:Str}(h:dK G dd fn es ls H [a,b,c] H₁)(ha:y7 fn [n3,n2,n1] [c,b,a] ls (H₁++[.tup [a,b,c]]) ls' H₂)
  (hs:∀ env,swapsWithSole [.Tuple elts k tpos] (.Tuple es k' p') pos.line env=pure false:=by intro _;rfl) (hw:∀ env:Env,env.scope=fn.sc→Y2 [.Tuple elts k tpos] (.Tuple es k' p') env=pure (some [n1,n2,n3])) :
  dz G dd fn (.Assign [.Tuple elts k tpos] (.Tuple es k' p') pos) ls H .next ls' H₂:=oS S (names:=[n1,n2,n3]) (vs:=[a,b,c]) (g9.tup h (by rw[J9];simp)) (by simp) ha rfl hs hw
theorem sD(S:bz fn){elts k tpos es k' p' pos}{vs:List V}(h:ap G dd fn es ls H vs H₁)(hz:vs.length≤J5)(ha:As fn elts vs ls (H₁++[.tup vs]) ls' H₂)
  (hs:∀ env,swapsWithSole [.Tuple elts k tpos] (.Tuple es k' p') pos.line env=pure false:=by intro _;rfl) (hw:∀ env:Env,env.scope=fn.sc→Y2 [.Tuple elts k tpos] (.Tuple es k' p') env=pure none:=by intro _ _;rfl) :
  Ex G dd fn (.Assign [.Tuple elts k tpos] (.Tuple es k' p') pos) ls H .next ls' H₂:=Ex.tuple S (Ev.tup h hz) (by simp) ha hs hw
end
theorem dE{a b:List Nat}:(aq a==aq b)=(a==b):=by
 rw[Bool.eq_iff_iff,beq_iff_eq,beq_iff_eq,eQ]
theorem lK{x:Str}{n:Nat}:Txt.slice x none (some (n:Int))=Txt.slice x (some ((0:Nat):Int)) (some (n:Int)):=by
 have e:Builtin.Str.strSliceIndices none (some (n:Int)) 1 x.length=Builtin.Str.strSliceIndices (some ((0:Nat):Int)) (some (n:Int)) 1 x.length:=by
  unfold Builtin.Str.strSliceIndices
  simp only[show(1:Int) > 0 from by decide,if_true]
  congr 1
 unfold Txt.slice;rw[e]
theorem lJ{x:Str}{n:Nat}:Txt.slice x (some (n:Int)) none=Txt.slice x (some (n:Int)) (some (x.length:Int)):=by
 have e:Builtin.Str.strSliceIndices (some (n:Int)) none 1 x.length=Builtin.Str.strSliceIndices (some (n:Int)) (some (x.length:Int)) 1 x.length:=by
  unfold Builtin.Str.strSliceIndices
  simp only[show(1:Int) > 0 from by decide,if_true]
  congr 1
  have h1:¬ ((x.length:Int)<0):=by lia
  simp only[h1,if_false]
  lia
 unfold Txt.slice;rw[e]
theorem mX(cs:List Nat)(n:Nat):Txt.slice (aq cs) none (some (n:Int))=aq (cs.take n):=by
 rw[lK,eW cs (Nat.zero_le n)];simp
theorem mY(cs:List Nat)(n:Nat):Txt.slice (aq cs) (some (n:Int)) none=aq (cs.drop n):=by
 rw[lJ,az]
 by_cases h:n≤cs.length
 ·rw[eW cs h]
  congr 1
  rw[List.take_of_length_le (by simp)]
 rw[m6,az,Nat.min_eq_right (by lia),Nat.min_self,eW cs (Nat.le_refl _),List.drop_of_length_le (by lia:cs.length≤n)]
 simp
theorem jw{cs:List Nat}:Txt.slice (aq cs) none (some 1)=aq (cs.take 1):=mX cs 1
theorem s5{cs:List Nat}:Txt.slice (aq cs) none (some 2)=aq (cs.take 2):=mX cs 2
theorem zH{cs:List Nat}:Txt.slice (aq cs) (some 1) none=aq (cs.drop 1):=mY cs 1
theorem zG{cs:List Nat}:Txt.slice (aq cs) (some 2) none=aq (cs.drop 2):=mY cs 2
theorem gp{cs:List Nat}{k:Nat}(h:cs.take 1=[k]):Txt.item (aq cs) 0=aq [k]:=by
 have:=og cs (n:=0) (k:=k) (by
  match cs,h with
  | j::r,h=>simp at h;subst h;rfl)
 exact this
theorem rc:J0 "-" = aq [45]:=by kernel_rfl
theorem DT:J0 "+" = aq [43]:=by kernel_rfl
theorem Fa:J0 "0x" = aq [48,120]:=by kernel_rfl
theorem wC{cs:List Nat}:([J0 "+",J0 "-"].any fun y=>y==aq (cs.take 1))=lL cs:=by
 simp only[List.any_cons,List.any_nil,Bool.or_false,rc,DT,dE]
 unfold lL
 congr 1
 ·rw[Bool.eq_iff_iff,beq_iff_eq,beq_iff_eq];exact⟨Eq.symm,Eq.symm⟩
 rw[Bool.eq_iff_iff,beq_iff_eq,beq_iff_eq];exact⟨Eq.symm,Eq.symm⟩
theorem uh{cs:List Nat}(h:∀ k∈cs,k<128):∀ k∈cu cs,k<128:=by
 unfold cu;split
 ·exact fun k hk=>h k (List.mem_of_mem_drop hk)
 exact h
theorem CI{cs:List Nat}(h:∀ k∈cs,k<128)(n:Nat):∀ k∈cs.drop n,k<128:=fun k hk=>h k (List.mem_of_mem_drop hk)
section
variable {G:cq}{dd:Nat}{H:List O}{i:Nat}{x a b c:Str}
theorem kR(hi:H[i]?=some (.tup [.str a,.str b])):Cm G dd .In (.str x) (.obj i) H ([a,b].any fun y=>y==x):=uM (ts:=[a,b]) hi
theorem gO(hi:H[i]?=some (.tup [.str a,.str b])):Cm G dd .NotIn (.str x) (.obj i) H (![a,b].any fun y=>y==x):=uK (ts:=[a,b]) hi
theorem qS(hi:H[i]?=some (.tup [.str a,.str b,.str c])):Cm G dd .In (.str x) (.obj i) H ([a,b,c].any fun y=>y==x):=uM (ts:=[a,b,c]) hi
end
section
variable {G:cq}{dd:Nat}{fn:bW}{ls ls' ls'':List (Str×V)}{H H' H₁ H₂ H₃:List O}{v:V}{fl:Fl}{st:Stmt}{rest sts:List Stmt}{P:V→List O→Prop}
theorem C6{l':List (Str×V)}(h:Es G dd fn sts l' H fl ls' H')(hs:∀ p∈l',p∈ls)(nd:(l'.map (·.1)).Nodup):Es G dd fn sts ls H fl ls' H':=fun c s ρ Q E hc ok R hQ=>h c s ρ Q E hc ok (R.lessL hs nd) hQ
theorem FS{l':List (Str×V)}(h:be G dd fn sts l' H fl ls' H')(hs:∀ p∈l',p∈ls)(nd:(l'.map (·.1)).Nodup):be G dd fn sts ls H fl ls' H':=fun c s ρ Q hc ok hg R hQ=>h c s ρ Q hc ok hg (R.lessL hs nd) hQ
theorem sI{f₀:Addr}{oc:Value}{od:Option Addr}{osl:Array (Option Value)}{name qual:Str}{params:Arguments}{body:List Stmt}{scope:Scope}{dV kV doc pm cdv ct:Value}{an:Option Addr}{args args':List V}{ns:List Str}
  (ho:∀ P,(G.K P).lookup f₀=some ⟨oc,od,.func (fnOf name qual params body scope dV kV doc pm an cdv ct),osl⟩) (hcd:∀ P,codeIn (G.K P) cdv qual=true)
  (hb:d9 G (fnOf name qual params body scope dV kV doc pm an cdv ct) args ns args') (hloc:∀ x∈ns,scope.names.lookup x=some .local)
  (hk:scope.kind=.function) (hco:scope.isCoroutine=false) (hgen:scope.isGenerator=false) (hcell:∀ x∈scope.names,x.2≠.cell) (hS:bz ⟨qual,scope,f₀,cdv,[]⟩)
  (h:bz ⟨qual,scope,f₀,cdv,[]⟩→∃ v H',Es G dd ⟨qual,scope,f₀,cdv,[]⟩ body (ns.zip args') H (.ret v) [] H'∧P v H'):∃ v H',Co G dd (.top f₀) args H v H'∧P v H':=by
 obtain⟨v,H',h₁,p⟩:=h hS
 exact⟨v,H',fJ ho hcd hb hloc hk hco hgen hcell hS fun _=>h₁,p⟩
theorem BF{P:List O→Prop}{f₀:Addr}{oc:Value}{od:Option Addr}{osl:Array (Option Value)}{name qual:Str}{params:Arguments}{body:List Stmt}{scope:Scope}{dV kV doc pm cdv ct:Value}{an:Option Addr}{args args':List V}{ns:List Str}
  (ho:∀ P,(G.K P).lookup f₀=some ⟨oc,od,.func (fnOf name qual params body scope dV kV doc pm an cdv ct),osl⟩) (hcd:∀ P,codeIn (G.K P) cdv qual=true)
  (hb:d9 G (fnOf name qual params body scope dV kV doc pm an cdv ct) args ns args') (hloc:∀ x∈ns,scope.names.lookup x=some .local)
  (hk:scope.kind=.function) (hco:scope.isCoroutine=false) (hgen:scope.isGenerator=false) (hcell:∀ x∈scope.names,x.2≠.cell) (hS:bz ⟨qual,scope,f₀,cdv,[]⟩)
  (h:bz ⟨qual,scope,f₀,cdv,[]⟩→∃ H',Es G dd ⟨qual,scope,f₀,cdv,[]⟩ body (ns.zip args') H .next [] H'∧P H'):∃ H',Co G dd (.top f₀) args H .none H'∧P H':=by
 obtain⟨H',h₁,p⟩:=h hS
 exact⟨H',d8 ho hcd hb hloc hk hco hgen hcell hS fun _=>h₁,p⟩
theorem cv(h₁:Ex G dd fn st ls H .next ls' H₁)(h₂:∃ v H',Es G dd fn rest ls' H₁ (.ret v) [] H'∧P v H'):∃ v H',Es G dd fn (st::rest) ls H (.ret v) [] H'∧P v H':=by
 obtain⟨v,H',h,p⟩:=h₂
 exact⟨v,H',Es.cons h₁ h,p⟩
theorem d6(h:Es G dd fn sts ls H (.ret v) ls' H')(p:P v H'):∃ v H',Es G dd fn sts ls H (.ret v) [] H'∧P v H':=⟨v,H',Es.less h (fun _ h=>nomatch h) V7,p⟩
theorem cN(h:∀ H0,H0=H→∃ v H',Es G dd fn sts ls H0 (.ret v) [] H'∧P v H'):∃ v H',Es G dd fn sts ls H (.ret v) [] H'∧P v H':=h H rfl
theorem eG{P:List O→Prop}(h₁:Ex G dd fn st ls H .next ls' H₁)(h₂:∃ H',Es G dd fn rest ls' H₁ .next ls'' H'∧P H'):∃ H',Es G dd fn (st::rest) ls H .next ls'' H'∧P H':=by
 obtain⟨H',h,p⟩:=h₂
 exact⟨H',Es.cons h₁ h,p⟩
theorem xd{P:List O→Prop}{l':List (Str×V)}(h:Es G dd fn sts ls H .next ls' H')(hs:∀ p∈l',p∈ls')(nd:(l'.map (·.1)).Nodup)(p:P H'):∃ H',Es G dd fn sts ls H .next l' H'∧P H':=⟨H',Es.less h hs nd,p⟩
theorem uF{P:List O→Prop}(h:∀ H0,H0=H→∃ H',Es G dd fn sts ls H0 .next ls' H'∧P H'):∃ H',Es G dd fn sts ls H .next ls' H'∧P H':=h H rfl
theorem jX{f₀:Addr}{oc:Value}{od:Option Addr}{osl:Array (Option Value)}{name qual:Str}{params:Arguments}{body:List Stmt}{scope:Scope}{dV kV doc pm cdv ct:Value}{an:Option Addr}{args args':List V}{ns:List Str}
  (ho:∀ P,(G.K P).lookup f₀=some ⟨oc,od,.func (fnOf name qual params body scope dV kV doc pm an cdv ct),osl⟩) (hcd:∀ P,codeIn (G.K P) cdv qual=true)
  (hb:d9 G (fnOf name qual params body scope dV kV doc pm an cdv ct) args ns args') (hloc:∀ x∈ns,scope.names.lookup x=some .local)
  (hk:scope.kind=.function) (hco:scope.isCoroutine=false) (hgen:scope.isGenerator=false) (hcell:∀ x∈scope.names,x.2≠.cell) (hS:bz ⟨qual,scope,f₀,cdv,[]⟩)
  (h:bz ⟨qual,scope,f₀,cdv,[]⟩→∃ v H',be G dd ⟨qual,scope,f₀,cdv,[]⟩ body (ns.zip args') H (.ret v) [] H'∧P v H'):∃ v H',i8 G dd (.top f₀) args H v H'∧P v H':=by
 obtain⟨v,H',h₁,p⟩:=h hS
 exact⟨v,H',w7 ho hcd hb hloc hk hco hgen hcell hS fun _=>h₁,p⟩
theorem yO{P:List O→Prop}{f₀:Addr}{oc:Value}{od:Option Addr}{osl:Array (Option Value)}{name qual:Str}{params:Arguments}{body:List Stmt}{scope:Scope}{dV kV doc pm cdv ct:Value}{an:Option Addr}{args args':List V}{ns:List Str}
  (ho:∀ P,(G.K P).lookup f₀=some ⟨oc,od,.func (fnOf name qual params body scope dV kV doc pm an cdv ct),osl⟩) (hcd:∀ P,codeIn (G.K P) cdv qual=true)
  (hb:d9 G (fnOf name qual params body scope dV kV doc pm an cdv ct) args ns args') (hloc:∀ x∈ns,scope.names.lookup x=some .local)
  (hk:scope.kind=.function) (hco:scope.isCoroutine=false) (hgen:scope.isGenerator=false) (hcell:∀ x∈scope.names,x.2≠.cell) (hS:bz ⟨qual,scope,f₀,cdv,[]⟩)
  (h:bz ⟨qual,scope,f₀,cdv,[]⟩→∃ H',be G dd ⟨qual,scope,f₀,cdv,[]⟩ body (ns.zip args') H .next [] H'∧P H'):∃ H',i8 G dd (.top f₀) args H .none H'∧P H':=by
 obtain⟨H',h₁,p⟩:=h hS
 exact⟨H',Bh ho hcd hb hloc hk hco hgen hcell hS fun _=>h₁,p⟩
theorem fc(h₁:dz G dd fn st ls H .next ls' H₁)(h₂:∃ v H',be G dd fn rest ls' H₁ (.ret v) [] H'∧P v H'):∃ v H',be G dd fn (st::rest) ls H (.ret v) [] H'∧P v H':=by
 obtain⟨v,H',h,p⟩:=h₂
 exact⟨v,H',be.cons h₁ h,p⟩
theorem Be(h:be G dd fn sts ls H (.ret v) ls' H')(p:P v H'):∃ v H',be G dd fn sts ls H (.ret v) [] H'∧P v H':=⟨v,H',be.less h (fun _ h=>nomatch h) V7,p⟩
theorem kM(h:∀ H0,H0=H→∃ v H',be G dd fn sts ls H0 (.ret v) [] H'∧P v H'):∃ v H',be G dd fn sts ls H (.ret v) [] H'∧P v H':=h H rfl
theorem gw{P:List O→Prop}(h₁:dz G dd fn st ls H .next ls' H₁)(h₂:∃ H',be G dd fn rest ls' H₁ .next ls'' H'∧P H'):∃ H',be G dd fn (st::rest) ls H .next ls'' H'∧P H':=by
 obtain⟨H',h,p⟩:=h₂
 exact⟨H',be.cons h₁ h,p⟩
theorem fE{P:List O→Prop}{l':List (Str×V)}(h:be G dd fn sts ls H .next ls' H')(hs:∀ p∈l',p∈ls')(nd:(l'.map (·.1)).Nodup)(p:P H'):∃ H',be G dd fn sts ls H .next l' H'∧P H':=⟨H',be.less h hs nd,p⟩
theorem qK{P:List O→Prop}(h:∀ H0,H0=H→∃ H',be G dd fn sts ls H0 .next ls' H'∧P H'):∃ H',be G dd fn sts ls H .next ls' H'∧P H':=h H rfl
theorem mK(h:∃ v H',Es G dd fn sts ls H (.ret v) [] H'∧P v H'):∃ v H',be G dd fn sts ls H (.ret v) [] H'∧P v H':=by
 obtain⟨v,H',h,p⟩:=h
 exact⟨v,H',be.of h,p⟩
end
noncomputable def GD(k:Nat):Bool:=decide (k∈(J0 "abcdefghijklmnopqrstuvwxyz").cps.toList)==decide (97≤k∧k≤122)
theorem AZ:(List.range 128).all GD=true:=by decide +kernel
theorem Fp{k:Nat}(hk:k<128):(!(iT "abcdefghijklmnopqrstuvwxyz" (aq [k])).isEmpty)=decide (97≤k∧k≤122):=(PySem.StrLaws.found_one _ k).trans (eq_of_beq (kJ AZ hk))
noncomputable def uP(k:Nat):Bool:=(48≤k && k≤57) || (97≤k && k≤122) || (65≤k && k≤90) || [33,35,36,37,38,39,42,43,45,46,47,58,60,61,62,63,64,92,94,95,96,124,126].contains k
noncomputable def GF(k:Nat):Bool:=decide (k∈(J0 "0123456789abcdefghijklmnopqrstuvwxyzABCDEFGHIJKLMNOPQRSTUVWXYZ!#$%&'*+-./:<=>?@\\^_`|~").cps.toList)==uP k
theorem A0:(List.range 128).all GF=true:=by decide +kernel
theorem Ee{k:Nat}(hk:k<128):(!(iT "0123456789abcdefghijklmnopqrstuvwxyzABCDEFGHIJKLMNOPQRSTUVWXYZ!#$%&'*+-./:<=>?@\\^_`|~" (aq [k])).isEmpty)=uP k:=(PySem.StrLaws.found_one _ k).trans (eq_of_beq (kJ A0 hk))
theorem na:J0 "$" = aq [36]:=by kernel_rfl
theorem q7:J0 "\n" = aq [10]:=by kernel_rfl
theorem E4:J0 "\r" = aq [13]:=by kernel_rfl
theorem B1:J0 "\"" = aq [34]:=by kernel_rfl
theorem xB:J0 " " = aq [32]:=by kernel_rfl
theorem DU:J0 "(" = aq [40]:=by kernel_rfl
theorem E9:J0 ")" = aq [41]:=by kernel_rfl
theorem Gu:J0 "\\" = aq [92]:=by kernel_rfl
theorem EZ:J0 "\x7f" = aq [127]:=by kernel_rfl
theorem EY:J0 "" = aq []:=by kernel_rfl
theorem cA{a b:Nat}:(aq [a]==aq [b])=decide (a=b):=by
 rw[dE,Bool.eq_iff_iff,beq_iff_eq,decide_eq_true_iff];simp
theorem qX{cs:List Nat}{v:Int}(h:iU cs=some v):a7 cs=(("int" : Str),some v):=by unfold a7;rw[h]
theorem qY{k:Nat}{r:List Nat}(h:iU (k::r)=none):a7 (k::r)=(if k=36∧r≠[] then(("id" : Str),(none:Option Int)) else if 97≤k∧k≤122 then(("word" : Str),none) else(("reserved" : Str),none)):=by
 unfold a7;rw[h]
 have e:(List.take 1 (k::r)=[36]∧1<(k::r).length)↔(k=36∧r≠[]):=by
  cases r <;> simp
 by_cases c:k=36∧r≠[]
 ·rw[if_pos c];show(if List.take 1 (k::r)=[36]∧1<(k::r).length then _ else _)=_;rw[if_pos (e.mpr c)]
 rw[if_neg c];show(if List.take 1 (k::r)=[36]∧1<(k::r).length then _ else _)=_;rw[if_neg (fun q=>c (e.mp q))]
theorem tQ{n:Nat}(h:n≤100000):fitsSsize (n:Int)=true:=by
 unfold fitsSsize
 simp
 lia
noncomputable abbrev fM(sort text:Str)(v:V)(row col:Int):O:=.dict [(J0 "sort",.str sort),(J0 "text",.str text),(J0 "value",v),(J0 "row",.int row),(J0 "column",.int col)]
noncomputable abbrev dA(items:Nat)(row col:Int):O:=.dict [(J0 "items",.obj items),(J0 "row",.int row),(J0 "column",.int col)]
noncomputable abbrev bI(T:Str)(n r c:Int)(f:Nat):O:=.dict [(J0 "text",.str T),(J0 "at",.int n),(J0 "row",.int r),(J0 "column",.int c),(J0 "found",.obj f)]
noncomputable abbrev eu(kind value:V)(b:Bool):O:=.dict [(J0 "kind",kind),(J0 "value",value),(J0 "is_any",.bool b)]
section
variable {G:cq}{dd:Nat}{H H':List O}
theorem EM{x y:Str}:Cm G dd .Lt (.str x) (.str y) H (decide (x.cps.toList<y.cps.toList)):=fun c s ls ρ a' b' Q E ok R ra rb hQ=>by obtain⟨t,rfl⟩:=ra;obtain⟨u,rfl⟩:=rb;exact PyProof.Rows.lt_str (hQ s R)
end
theorem DX{a b:Nat}:decide ((aq [a]).cps.toList<(aq [b]).cps.toList)=decide (a<b):=by
 show decide ([a] < [b])=_
 rw[decide_eq_decide]
 constructor
 ·intro h
  cases h with
  | rel h=>exact h
  | cons h=>cases h
 intro h;exact List.Lex.rel h
theorem Kp.step{I J:List Nat}{H H₁ H':List O}(a:Kp I H H₁)(b:Kp J H₁ H')(h:∀ j∈J,j∈I∨H.length≤j):Kp I H H':=
 ⟨J7 a.1 b.1,fun j x hj e=>b.2 j x (fun q=>(h j q).elim hj fun l=>absurd (J4.mp e).1 (Nat.not_lt.mpr l)) (a.2 j x hj e)⟩
structure Tk where
 sort:Str
 text:Str
 val:V
 row:Int
 col:Int
inductive gq(m:Nat)(H:List O)(i:Nat)(t:Tk):Prop
 | mk (e:Nat) (p0:m≤i) (p1:m≤e) (p2:H[i]?=some (.inst 139 e)) (p3:H[e]?=some (fM t.sort t.text t.val t.row t.col)):gq m H i t
noncomputable def bl(m:Nat)(H:List O):List V→List Tk→Prop
 | [],[]=>True
 | v::vs,t::ts=>(∃ i,v=.obj i∧gq m H i t)∧bl m H vs ts
 | _,_=>False
inductive FG(m:Nat)(H:List O)(vs:List V)(t:Tk)(ts:List Tk):Prop
 | mk (i:Nat) (vr:List V) (e:vs=.obj i::vr) (h1:gq m H i t) (h2:bl m H vr ts):FG m H vs t ts
theorem bl.c0{m:Nat}{H:List O}{vs:List V}(h:bl m H vs []):vs=[]:=by
 cases vs with
 | nil=>rfl
 | cons v vs=>exact h.elim
theorem bl.cc{m:Nat}{H:List O}{vs:List V}{t:Tk}{ts:List Tk}(h:bl m H vs (t::ts)):FG m H vs t ts:=by
 cases vs with
 | nil=>exact h.elim
 | cons v vs=>obtain⟨⟨i,rfl,a⟩,b⟩:=h;exact⟨i,vs,rfl,a,b⟩
theorem gq.keep{m:Nat}{I:List Nat}{H H':List O}{i:Nat}{t:Tk}(h:gq m H i t)(k:Kp I H H')(hI:∀ j∈I,j<m):gq m H' i t:=by
 obtain⟨e,a,b,p,q⟩:=h
 exact⟨e,a,b,k.get p fun x=>absurd (hI _ x) (Nat.not_lt.mpr a),k.get q fun x=>absurd (hI _ x) (Nat.not_lt.mpr b)⟩
theorem gq.low{m m':Nat}{H:List O}{i:Nat}{t:Tk}(h:gq m H i t)(l:m'≤m):gq m' H i t:=by
 obtain⟨e,a,b,p,q⟩:=h
 exact⟨e,J7 l a,J7 l b,p,q⟩
theorem bl.keep{m:Nat}{I:List Nat}{H H':List O}(k:Kp I H H')(hI:∀ j∈I,j<m):∀ {vs:List V} {ts:List Tk},bl m H vs ts→bl m H' vs ts
 | [],[],_=>trivial
 | _::_,_::_,⟨⟨i,e,h⟩,r⟩=>⟨⟨i,e,h.keep k hI⟩,bl.keep k hI r⟩
 | [],_::_,h=>h.elim
 | _::_,[],h=>h.elim
theorem bl.low{m m':Nat}{H:List O}(l:m'≤m):∀ {vs:List V} {ts:List Tk},bl m H vs ts→bl m' H vs ts
 | [],[],_=>trivial
 | _::_,_::_,⟨⟨i,e,h⟩,r⟩=>⟨⟨i,e,h.low l⟩,bl.low l r⟩
 | [],_::_,h=>h.elim
 | _::_,[],h=>h.elim
theorem bl.app{m:Nat}{H:List O}:∀ {vs ws:List V} {ts us:List Tk},bl m H vs ts→bl m H ws us→bl m H (vs++ws) (ts++us)
 | [],_,[],_,_,h=>h
 | _::_,_,_::_,_,⟨a,b⟩,h=>⟨a,bl.app b h⟩
 | [],_,_::_,_,h,_=>h.elim
 | _::_,_,[],_,h,_=>h.elim
theorem bl.len{m:Nat}{H:List O}:∀ {vs:List V} {ts:List Tk},bl m H vs ts→vs.length=ts.length
 | [],[],_=>rfl
 | _::_,_::_,⟨_,b⟩=>by simp[bl.len b]
 | [],_::_,h=>h.elim
 | _::_,[],h=>h.elim
noncomputable def DY(k:Nat):Bool:=32≤k && k<127 && k != 34 && k != 92
noncomputable def dy(w:List Nat):Array UInt8:=(w.map Nat.toUInt8).toArray
theorem uc{k:Nat}{w:List Nat}{bs:Array UInt8}:(bs++#[k.toUInt8])++dy w=bs++dy (k::w):=by
 rw[Array.append_assoc];congr 1;simp[dy]
section
variable {G:cq}{dd:Nat}{fn:bW}{ls:List (Str×V)}{test:Expr}{body rest:List Stmt}{pos:Pos}{self d f b:Nat}{cs:List Nat}{r:Int}{P:V→List O→Prop}{g:O}
theorem zD
  (ht:∀ H n c k tl,H[self]?=some (.inst 295 d)→H[d]?=some (bI (aq cs) ((n:Nat):Int) r c f)→cs.drop n=k::tl→Te G dd fn test ls H (decide (k≠34)) H)
  (hb:∀ H n c k tl bs,H[self]?=some (.inst 295 d)→H[d]?=some (bI (aq cs) ((n:Nat):Int) r c f)→H[b]?=some (.barr bs)→cs.drop n=k::tl→DY k=true→bs.size+1≤10000→
   be G dd fn body ls H .next ls (((H++[g]++[O.barr #[k.toUInt8]]).set b (.barr (bs++#[k.toUInt8]))).set d (bI (aq cs) ((n+1:Nat):Int) r (c+1) f))) :
  ∀ (w:List Nat) (H:List O) (n:Nat) (c:Int) (bs:Array UInt8) (tl:List Nat),H[self]?=some (.inst 295 d)→H[d]?=some (bI (aq cs) (n:Int) r c f)→H[b]?=some (.barr bs)→cs.drop n=w++34::tl→(∀ k∈w,DY k=true)→bs.size+w.length≤10000→
   ∃ H',Er G dd fn test body w.length ls H ls H'∧Kp [d,b] H H'∧H'[d]?=some (bI (aq cs) ((n+w.length:Nat):Int) r (c+(w.length:Nat)) f)∧H'[b]?=some (.barr (bs++dy w)):=by
 intro w
 induction w with
 | nil=>
  intro H n c bs tl hi hD hB hr _ _
  refine⟨H,.done (ht H n c 34 tl hi hD hr),Kp.refl,by simpa using hD,by simpa [dy] using hB⟩
 | cons k w ih=>
 intro H n c bs tl hi hD hB hr hw hz
 have hz':bs.size+1+w.length≤10000:=by simp at hz;lia
 have hk:=hw k K5
 have hk34:k≠34:=by intro e;subst e;revert hk;decide
 have hds:d≠self:=fun e=>by rw[e,hi] at hD;cases hD
 have hbs:b≠self:=fun e=>by rw[e,hi] at hB;cases hB
 have hbd:b≠d:=fun e=>by rw[e,hD] at hB;cases hB
 have hld:d<H.length:=(J4.mp hD).1
 have hlb:b<H.length:=(J4.mp hB).1
 have hls:self<H.length:=(J4.mp hi).1
 have h1:=hb H n c k (w++34::tl) bs hi hD hB hr hk (by lia)
 have t1:=ht H n c k (w++34::tl) hi hD hr
 rw[show decide (k≠34)=true from by simp[hk34]] at t1
 obtain⟨H',hW,hK,hD',hB'⟩:=ih (((H++[g]++[O.barr #[k.toUInt8]]).set b (.barr (bs++#[k.toUInt8]))).set d (bI (aq cs) ((n+1:Nat):Int) r (c+1) f)) (n+1) (c+1) (bs++#[k.toUInt8]) tl
  (by rw[V5 hds,V5 hbs,K0,Q0 hls];exact hi)
  (by rw[Q8 (by simp;lia)])
  (by rw[V5 (Ne.symm hbd),Q8 (by simp;lia)])
  (eZ hr).2 (fun j hj=>hw j (K6 _ hj)) (by simp;lia)
 refine⟨H',.step t1 h1 hW,(((Kp.app.trans Kp.app).trans (Kp.set (by simp))).trans (Kp.set (by simp))).trans hK,?_,?_⟩
 ·rw[hD',show((n+1+w.length:Nat):Int)=((n+(k::w).length:Nat):Int) from by simp;lia,show c+1+((w.length:Nat):Int)=c+(((k::w).length:Nat):Int) from by simp;lia]
 rw[hB',uc]
theorem BY{H:List O}{n:Nat}{c:Int}{w tl:List Nat}{bs:Array UInt8}
  (hi:H[self]?=some (.inst 295 d)) (hD:H[d]?=some (bI (aq cs) (n:Int) r c f)) (hB:H[b]?=some (.barr bs)) (hr:cs.drop n=w++34::tl) (hw:∀ k∈w,DY k=true) (hz:bs.size+w.length≤10000)
  (ht:∀ H n c k tl,H[self]?=some (.inst 295 d)→H[d]?=some (bI (aq cs) ((n:Nat):Int) r c f)→cs.drop n=k::tl→Te G dd fn test ls H (decide (k≠34)) H)
  (hb:∀ H n c k tl bs,H[self]?=some (.inst 295 d)→H[d]?=some (bI (aq cs) ((n:Nat):Int) r c f)→H[b]?=some (.barr bs)→cs.drop n=k::tl→DY k=true→bs.size+1≤10000→
   be G dd fn body ls H .next ls (((H++[g]++[O.barr #[k.toUInt8]]).set b (.barr (bs++#[k.toUInt8]))).set d (bI (aq cs) ((n+1:Nat):Int) r (c+1) f)))
  (hrest:∀ H',Kp [d,b] H H'→H'[self]?=some (.inst 295 d)→H'[d]?=some (bI (aq cs) ((n+w.length:Nat):Int) r (c+(w.length:Nat)) f)→H'[b]?=some (.barr (bs++dy w))→∃ v H'',be G dd fn rest ls H' (.ret v) [] H''∧P v H'') :
  ∃ v H'',be G dd fn (.While test body [] pos::rest) ls H (.ret v) [] H''∧P v H'':=by
 obtain⟨H',hW,hK,hD',hB'⟩:=zD ht hb w H n c bs tl hi hD hB hr hw hz
 have hds:self≠d:=fun e=>by rw[←e,hi] at hD;cases hD
 have hbs:self≠b:=fun e=>by rw[←e,hi] at hB;cases hB
 obtain⟨v,H'',h,p⟩:=hrest H' hK (hK.get hi (by simp[hds,hbs])) hD' hB'
 exact⟨v,H'',be.cons (kL hW) h,p⟩
theorem BR
  (ht:∀ H n c k tl,H[self]?=some (.inst 295 d)→H[d]?=some (bI (aq cs) ((n:Nat):Int) r c f)→cs.drop n=k::tl→k<128→k≠34→Te G dd fn test ls H (uP k) H)
  (hb:∀ H n c k tl,H[self]?=some (.inst 295 d)→H[d]?=some (bI (aq cs) ((n:Nat):Int) r c f)→cs.drop n=k::tl→uP k=true→k<128→k≠34→
   Es G dd fn body ls H .next ls (H.set d (bI (aq cs) ((n+1:Nat):Int) r (c+1) f))) {k':Nat} {tl:List Nat} (hk':k'<128) (hq:k'≠34) (hid:uP k'=false) :
  ∀ (w:List Nat) (H:List O) (n:Nat) (c:Int),H[self]?=some (.inst 295 d)→H[d]?=some (bI (aq cs) (n:Int) r c f)→cs.drop n=w++k'::tl→(∀ k∈w,uP k=true∧k<128∧k≠34)→
   Wl G dd fn test body w.length ls H .next ls (H.set d (bI (aq cs) ((n+w.length:Nat):Int) r (c+(w.length:Nat)) f)):=by
 intro w
 induction w with
 | nil=>
  intro H n c hi hD hr _
  have:=ht H n c k' tl hi hD hr hk' hq
  rw[hid] at this
  have e:H.set d (bI (aq cs) ((n+([]:List Nat).length:Nat):Int) r (c+(([]:List Nat).length:Nat)) f)=H:=by
   apply List.ext_getElem?
   intro j
   by_cases hj:d=j
   ·subst hj
    rw[Q8 (J4.mp hD).1,hD];simp
   rw[V5 hj]
  rw[e]
  exact .done this
 | cons k w ih=>
 intro H n c hi hD hr hw
 have hk:=hw k K5
 have hds:d≠self:=fun e=>by rw[e,hi] at hD;cases hD
 have hld:d<H.length:=(J4.mp hD).1
 have t1:=ht H n c k (w++k'::tl) hi hD hr hk.2.1 hk.2.2
 rw[hk.1] at t1
 have h1:=hb H n c k (w++k'::tl) hi hD hr hk.1 hk.2.1 hk.2.2
 have h2:=ih (H.set d (bI (aq cs) ((n+1:Nat):Int) r (c+1) f)) (n+1) (c+1) (by rw[V5 hds];exact hi) (by rw[Q8 hld]) (eZ hr).2 (fun j hj=>hw j (K6 _ hj))
 rw[List.set_set,show((n+1+w.length:Nat):Int)=((n+(k::w).length:Nat):Int) from by simp;lia,show c+1+((w.length:Nat):Int)=c+(((k::w).length:Nat):Int) from by simp;lia] at h2
 exact .step t1 h1 h2
end
inductive Pc where
 | nl
 | sp
 | op
 | cl
 | wd (w:List Nat)
 | st (w:List Nat)
noncomputable def Pc.chars:Pc→List Nat
 | .nl=>[10]
 | .sp=>[32]
 | .op=>[40]
 | .cl=>[41]
 | .wd w=>w
 | .st w=>34::(w++[34])
noncomputable def aE(ps:List Pc):List Nat:=ps.flatMap Pc.chars
noncomputable def Pc.row(r:Int):Pc→Int
 | .nl=>r+1
 | _=>r
noncomputable def Pc.col(c:Int):Pc→Int
 | .nl=>1
 | p=>c+((p.chars.length:Nat):Int)
noncomputable def Pc.toks(r c:Int):Pc→List Tk
 | .nl=>[]
 | .sp=>[]
 | .op=>[⟨"(","(",.str "(",r,c⟩]
 | .cl=>[⟨")",")",.str ")",r,c⟩]
 | .wd w=>[⟨(a7 w).1,aq w,eO w,r,c⟩]
 | .st w=>[⟨"string",aq (34::(w++[34])),.byt (dy w),r,c⟩]
noncomputable def p7:List Nat→Bool
 | k::_=>k==32 || k==41
 | []=>false
noncomputable def Pc.ok(rest:List Nat):Pc→Prop
 | .wd w=>w≠[]∧w≠[36]∧w.length≤1000∧(∀ k∈w,uP k=true∧k<128∧k≠34)∧p7 rest=true
 | .st w=>(∀ k∈w,DY k=true)∧w.length≤1000∧p7 rest=true
 | .op=>rest.take 1≠[59]
 | _=>True
noncomputable def eg:List Pc→Int→Int→List Tk
 | [],_,_=>[]
 | p::ps,r,c=>p.toks r c++eg ps (p.row r) (p.col c)
noncomputable def tf:List Pc→Prop
 | []=>True
 | p::ps=>p.ok (aE ps)∧tf ps
section
variable {G:cq}{dd:Nat}{fn:bW}{ls:List (Str×V)}{test:Expr}{body rest:List Stmt}{pos:Pos}{self d f:Nat}{cs:List Nat}
theorem jS{p:Pc}{rest:List Nat}(h:p.ok rest):0<p.chars.length:=by
 cases p with
 | wd w=>exact List.length_pos_iff.mpr h.1
 | _=>simp[Pc.chars]
theorem tc
  (ht:∀ H n r c,H[self]?=some (.inst 295 d)→H[d]?=some (bI (aq cs) ((n:Nat):Int) r c f)→Te G dd fn test ls H (decide (n<cs.length)) H)
  (hb:∀ (p:Pc) H n r c xs tl,H[self]?=some (.inst 295 d)→H[d]?=some (bI (aq cs) ((n:Nat):Int) r c f)→H[f]?=some (.list xs)→xs.length+1≤10000→cs.drop n=p.chars++tl→p.ok tl→
   ∃ H',be G dd fn body ls H .next ls H'∧Kp [d,f] H H'∧H'[d]?=some (bI (aq cs) ((n+p.chars.length:Nat):Int) (p.row r) (p.col c) f)∧∃ vs,H'[f]?=some (.list (xs++vs))∧bl H.length H' vs (p.toks r c)) :
  ∀ (ps:List Pc) (H:List O) (n:Nat) (r c:Int) (xs:List V),H[self]?=some (.inst 295 d)→H[d]?=some (bI (aq cs) (n:Int) r c f)→H[f]?=some (.list xs)→xs.length+ps.length≤9000→cs.drop n=aE ps→tf ps→
   ∃ H',Er G dd fn test body ps.length ls H ls H'∧Kp [d,f] H H'∧(∃ n r c,H'[d]?=some (bI (aq cs) n r c f))∧∃ vs,H'[f]?=some (.list (xs++vs))∧bl H.length H' vs (eg ps r c):=by
 intro ps
 induction ps with
 | nil=>
  intro H n r c xs hi hD hF hz hr _
  have t1:=ht H n r c hi hD
  have hn:¬ n<cs.length:=fun h=>by
   have:(cs.drop n).length=0:=by rw[hr];rfl
   rw[List.length_drop] at this;exact Nat.sub_ne_zero_of_lt h this
  rw[decide_eq_false hn] at t1
  exact⟨H,.done t1,Kp.refl,⟨_,_,_,hD⟩,[],by simpa using hF,trivial⟩
 | cons p ps ih=>
 intro H n r c xs hi hD hF hz hr ho
 have hr':cs.drop n=p.chars++aE ps:=by rw[hr];rfl
 have hpos:=jS ho.1
 have hn:n<cs.length:=by
  have:0<(cs.drop n).length:=by rw[hr',V6];exact Nat.add_pos_left hpos _
  rw[List.length_drop] at this;exact Nat.lt_of_sub_pos this
 have t1:=ht H n r c hi hD
 rw[decide_eq_true hn] at t1
 refine Dt fun P hP=>?_
 obtain⟨H₁,h1,k1,hD1,vs,hF1,hv⟩:=hb p H n r c xs (aE ps) hi hD hF (by simp at hz;lia) hr' ho.1
 have hds:self≠d:=fun e=>by rw[←e,hi] at hD;cases hD
 have hfs:self≠f:=fun e=>by rw[←e,hi] at hF;cases hF
 have hld:d<H.length:=(J4.mp hD).1
 have hlf:f<H.length:=(J4.mp hF).1
 have hdr:cs.drop (n+p.chars.length)=aE ps:=by
  rw[←List.drop_drop,hr',List.drop_left]
 have hvl:vs.length≤1:=by rw[hv.len];cases p <;> simp[Pc.toks]
 obtain⟨H₂,h2,k2,hD2,us,hF2,hu⟩:=ih H₁ (n+p.chars.length) (p.row r) (p.col c) (xs++vs) (k1.get hi (by simp[hds,hfs])) hD1 hF1 (by simp at hz ⊢;lia) hdr ho.2
 refine hP ⟨H₂,.step t1 h1 h2,k1.trans k2,hD2,vs++us,by rw[hF2,K0],?_⟩
 exact bl.app (hv.keep k2 (by intro j hj;simp at hj;rcases hj with rfl | rfl <;> assumption)) (hu.low k1.1)
end
section
variable {G:cq}{dd:Nat}{fn:bW}{ls:List (Str×V)}{H H' H₁ H₂:List O}{v:V}{target:Expr}{test:Expr}{body rest:List Stmt}{pos:Pos}{self d f:Nat}{cs:List Nat}{P:V→List O→Prop}{Good:List O→Prop}
theorem uE{e:Expr}{x pos}{i d:Nat}{C:Addr}{fs:List (Str×V)}(h:Ev G dd fn e ls H (.obj i) H₁)(hi:H₁[i]?=some (.inst C d))(hd:H₁[d]?=some (.dict fs))(hf:Fd x v fs)(hC:∀ P,cG (G.K P) C x=true)(hv:∀ n,v≠.bi n)
  (he:∀ env,eval (.Attribute e x pos) env=(do
   let o←eval e env
   standAt pos.atName
   let r←holding [o] (getAttr o x true)
   letTemporaryGo e o r
   pure r):=by intro _;with_unfolding_all rfl) :
  Ev G dd fn (.Attribute e x pos) ls H v H₁:=fun c s ρ Q E hc ok R hQ=>by
 rw[he]
 refine J1 (h c s ρ _ _ hc ok R fun ρ' s' o' hp R' ro=>J1 (wpAny_standAt (J1 (wpAny_holding ?_))))
 refine ln ok R' ro hi hd hf hC hv fun s' v' R' rv=>?_
 exact J1 (wpAny_letTemporaryGo (K1 (hQ ρ' s' v' hp R' rv)))
theorem ve{n:Nat}{r c:Int}{xs:List V}{ps:List Pc}(hi:H[self]?=some (.inst 295 d))(hD:H[d]?=some (bI (aq cs) (n:Int) r c f))(hF:H[f]?=some (.list xs))(hz:xs.length+ps.length≤9000)(hr:cs.drop n=aE ps)(ho:tf ps)
  (ht:∀ H n r c,H[self]?=some (.inst 295 d)→H[d]?=some (bI (aq cs) ((n:Nat):Int) r c f)→Te G dd fn test ls H (decide (n<cs.length)) H)
  (hb:∀ (p:Pc) H n r c xs tl,H[self]?=some (.inst 295 d)→H[d]?=some (bI (aq cs) ((n:Nat):Int) r c f)→H[f]?=some (.list xs)→xs.length+1≤10000→cs.drop n=p.chars++tl→p.ok tl→
   ∃ H',be G dd fn body ls H .next ls H'∧Kp [d,f] H H'∧H'[d]?=some (bI (aq cs) ((n+p.chars.length:Nat):Int) (p.row r) (p.col c) f)∧∃ vs,H'[f]?=some (.list (xs++vs))∧bl H.length H' vs (p.toks r c))
  (hrest:∀ H' vs,Kp [d,f] H H'→H'[self]?=some (.inst 295 d)→(∃ n r c,H'[d]?=some (bI (aq cs) n r c f))→H'[f]?=some (.list (xs++vs))→bl H.length H' vs (eg ps r c)→∃ v H'',be G dd fn rest ls H' (.ret v) [] H''∧P v H'') :
  ∃ v H'',be G dd fn (.While test body [] pos::rest) ls H (.ret v) [] H''∧P v H'':=by
 obtain⟨H',hW,hK,hD',vs,hF',hT⟩:=tc ht hb ps H n r c xs hi hD hF hz hr ho
 have hds:self≠d:=fun e=>by rw[←e,hi] at hD;cases hD
 have hfs:self≠f:=fun e=>by rw[←e,hi] at hF;cases hF
 obtain⟨v,H'',h,p⟩:=hrest H' vs hK (hK.get hi (by simp[hds,hfs])) hD' hF' hT
 exact⟨v,H'',be.cons (kL hW) h,p⟩
inductive yD(G:cq)(dd:Nat)(fn:bW)(target:Expr)(body:List Stmt)(ls:List (Str×V))(v:V)(H H':List O):Prop
 | mk (l₁:List (Str×V)) (h₁:List O) (p0:Tn fn target (.one v) ls H l₁ h₁) (p1:Es G dd fn body l₁ h₁ .next ls H'):yD G dd fn target body ls v H H'
theorem oV.one(g:Good H)(h:yD G dd fn target body ls v H H'){ws:List hM}{fl:Fl}{l₂:List (Str×V)}(r:oV G dd fn target body Good ws ls H' fl l₂ H₂):oV G dd fn target body Good (.one v::ws) ls H fl l₂ H₂:=by
 obtain⟨_,_,a,b⟩:=h
 exact .cons g a b r
noncomputable def zF:O→Bool
 | .list _=>true
 | .cell _=>true
 | .barr _=>true
 | .tab _=>true
 | _=>false
noncomputable def KI(I:List Nat)(m:Nat)(H:List O):Prop:=∀ j∈I,j<m∧∃ o,H[j]?=some o∧zF o=true
theorem KI.one{i m:Nat}{o:O}(h:i<m)(g:H[i]?=some o)(s:zF o=true):KI [i] m H:=fun j hj=>by rw[J6.mp hj];exact⟨h,o,g,s⟩
theorem oU{i j m:Nat}{o p:O}(h:i<m)(g:H[i]?=some o)(s:zF o=true)(h':j<m)(g':H[j]?=some p)(s':zF p=true):KI [i,j] m H:=fun k hk=>by
 rcases K2.mp hk with e | hk
 ·rw[e];exact⟨h,o,g,s⟩
 rw[J6.mp hk];exact⟨h',p,g',s'⟩
theorem KI.tk{I:List Nat}{m m':Nat}(hI:KI I m H)(k:Kp I H H'){i:Nat}{t:Tk}(h:gq m' H i t):gq m' H' i t:=by
 obtain⟨e,a,b,p,q⟩:=h
 refine⟨e,a,b,k.get p fun x=>?_,k.get q fun x=>?_⟩
 ·obtain⟨_,o,ho,hs⟩:=hI _ x
  rw[p] at ho;cases ho;cases hs
 obtain⟨_,o,ho,hs⟩:=hI _ x
 rw[q] at ho;cases ho;cases hs
theorem KI.tks{I:List Nat}{m m':Nat}(hI:KI I m H)(k:Kp I H H'):∀ {vs:List V} {ts:List Tk},bl m' H vs ts→bl m' H' vs ts
 | [],[],_=>trivial
 | _::_,_::_,⟨⟨i,e,h⟩,r⟩=>⟨⟨i,e,hI.tk k h⟩,KI.tks hI k r⟩
 | [],_::_,h=>h.elim
 | _::_,[],h=>h.elim
theorem KI.up{I:List Nat}{m m':Nat}(h:KI I m H)(l:m≤m'):KI I m' H:=fun j hj=>⟨Nat.lt_of_lt_of_le (h j hj).1 l,(h j hj).2⟩
theorem KI.nil{m:Nat}:KI [] m H:=fun j hj=>nomatch hj
theorem bl.split{m:Nat}:∀ {ts us:List Tk} {vs:List V},bl m H vs (ts++us)→∃ v1 v2,vs=v1++v2∧bl m H v1 ts∧bl m H v2 us
 | [],us,vs,h=>⟨[],vs,rfl,trivial,h⟩
 | t::ts,us,[],h=>h.elim
 | t::ts,us,v::vs,⟨a,b⟩=>by
  obtain⟨v1,v2,e,h1,h2⟩:=bl.split b
  exact⟨v::v1,v2,by rw[e];rfl,⟨a,h1⟩,h2⟩
inductive It where
 | leaf (t:Tk)
 | br (o a c:Tk)
noncomputable def It.toks:It→List Tk
 | .leaf t=>[t]
 | .br o a c=>[o,a,c]
noncomputable def re(t:Tk):Prop:=t.sort≠"("∧t.sort≠")"
noncomputable def It.good:It→Prop
 | .leaf t=>re t
 | .br o a c=>o.sort="("∧re a∧c.sort=")"
structure Br where
 o:Tk
 items:List It
 c:Tk
noncomputable def Br.toks(b:Br):List Tk:=b.o::(b.items.flatMap It.toks++[b.c])
noncomputable def Br.good(b:Br):Prop:=b.o.sort="("∧(∀ i∈b.items,i.good)∧b.c.sort=")"
noncomputable def iF(m:Nat)(H:List O)(v:V):It→Prop
 | .leaf t=>∃ i,v=.obj i∧gq 0 H i t
 | .br o a _=>∃ i b l j,v=.obj i∧(m≤i∧m≤b∧m≤l)∧H[i]?=some (.inst 167 b)∧H[b]?=some (dA l o.row o.col)∧H[l]?=some (.list [.obj j])∧gq 0 H j a
noncomputable def cM(m:Nat)(H:List O):List V→List It→Prop
 | [],[]=>True
 | v::vs,t::ts=>iF m H v t∧cM m H vs ts
 | _,_=>False
inductive mA(m:Nat)(H:List O)(v:V)(b:Br):Prop
 | mk (i e l:Nat) (vs:List V) (p0:v=.obj i) (p1:(m≤i∧m≤e∧m≤l)) (p2:H[i]?=some (.inst 167 e)) (p3:H[e]?=some (dA l b.o.row b.o.col)) (p4:H[l]?=some (.list vs)) (p5:cM m H vs b.items):mA m H v b
noncomputable def fX(m:Nat)(H:List O):List V→List Br→Prop
 | [],[]=>True
 | v::vs,t::ts=>mA m H v t∧fX m H vs ts
 | _,_=>False
theorem Kp.getLow{I:List Nat}{m:Nat}(hI:KI I m H)(k:Kp I H H'){j:Nat}{o:O}(h:H[j]?=some o)(hj:m≤j):H'[j]?=some o:=k.get h fun x=>absurd (hI _ x).1 (Nat.not_lt.mpr hj)
theorem iF.keep{I:List Nat}{m:Nat}(hI:KI I m H)(k:Kp I H H'){v:V}:∀ {t:It},iF m H v t→iF m H' v t:=by
 intro t h
 cases t with
 | leaf t=>obtain⟨i,e,h⟩:=h;exact⟨i,e,hI.tk k h⟩
 | br o a c=>
 obtain⟨i,b,l,j,e,⟨l1,l2,l3⟩,p,q,r,h⟩:=h
 exact⟨i,b,l,j,e,⟨l1,l2,l3⟩,k.getLow hI p l1,k.getLow hI q l2,k.getLow hI r l3,hI.tk k h⟩
theorem cM.keep{I:List Nat}{m:Nat}(hI:KI I m H)(k:Kp I H H'):∀ {vs:List V} {ts:List It},cM m H vs ts→cM m H' vs ts
 | [],[],_=>trivial
 | _::_,_::_,⟨a,r⟩=>⟨a.keep hI k,cM.keep hI k r⟩
 | [],_::_,h=>h.elim
 | _::_,[],h=>h.elim
theorem mA.keep{I:List Nat}{m:Nat}(hI:KI I m H)(k:Kp I H H'){v:V}{b:Br}:mA m H v b→mA m H' v b:=fun h=>by
 obtain⟨i,e,l,vs,ev,⟨l1,l2,l3⟩,p,q,r,h⟩:=h
 exact⟨i,e,l,vs,ev,⟨l1,l2,l3⟩,k.getLow hI p l1,k.getLow hI q l2,k.getLow hI r l3,h.keep hI k⟩
theorem fX.keep{I:List Nat}{m:Nat}(hI:KI I m H)(k:Kp I H H'):∀ {vs:List V} {ts:List Br},fX m H vs ts→fX m H' vs ts
 | [],[],_=>trivial
 | _::_,_::_,⟨a,r⟩=>⟨a.keep hI k,fX.keep hI k r⟩
 | [],_::_,h=>h.elim
 | _::_,[],h=>h.elim
theorem iF.low{m m':Nat}(l:m'≤m){v:V}:∀ {t:It},iF m H v t→iF m' H v t:=by
 intro t h
 cases t with
 | leaf t=>exact h
 | br o a c=>
 obtain⟨i,b,x,j,e,⟨l1,l2,l3⟩,r⟩:=h
 exact⟨i,b,x,j,e,⟨J7 l l1,J7 l l2,J7 l l3⟩,r⟩
theorem cM.low{m m':Nat}(l:m'≤m):∀ {vs:List V} {ts:List It},cM m H vs ts→cM m' H vs ts
 | [],[],_=>trivial
 | _::_,_::_,⟨a,r⟩=>⟨a.low l,cM.low l r⟩
 | [],_::_,h=>h.elim
 | _::_,[],h=>h.elim
theorem cM.app{m:Nat}:∀ {vs ws:List V} {ts us:List It},cM m H vs ts→cM m H ws us→cM m H (vs++ws) (ts++us)
 | [],_,[],_,_,h=>h
 | _::_,_,_::_,_,⟨a,b⟩,h=>⟨a,cM.app b h⟩
 | [],_,_::_,_,h,_=>h.elim
 | _::_,_,[],_,h,_=>h.elim
theorem mA.low{m m':Nat}(l:m'≤m){v:V}{b:Br}(h:mA m H v b):mA m' H v b:=by
 obtain⟨i,e,x,vs,ev,⟨l1,l2,l3⟩,p,q,r,h⟩:=h
 exact⟨i,e,x,vs,ev,⟨J7 l l1,J7 l l2,J7 l l3⟩,p,q,r,h.low l⟩
theorem fX.low{m m':Nat}(l:m'≤m):∀ {vs:List V} {ts:List Br},fX m H vs ts→fX m' H vs ts
 | [],[],_=>trivial
 | _::_,_::_,⟨h,y⟩=>⟨h.low l,fX.low l y⟩
 | [],_::_,h=>h.elim
 | _::_,[],h=>h.elim
end
local macro_rules | `(tactic| walk_at "lq") => `(tactic| (repeat (first | assumption | refine Fi ?_ | refine Fh ?_ | exact Nat.lt_add_of_pos_right (by decide) | refine Nat.lt_add_right _ ?_)))
local macro_rules | `(tactic| walk_at "lt") => `(tactic| (first | assumption | (walk_at "lq"; done) | lia | (simp only [List.length_set, List.length_append, List.length_cons, List.length_nil]; lia)))
local macro_rules | `(tactic| walk_at "ne") => `(tactic| (first | assumption | exact Ne.symm (by assumption) | (refine Nat.ne_of_lt ?_; walk_at "lq"; done) | (refine Nat.ne_of_gt ?_; walk_at "lq"; done) | lia | walk_at "lt"))
theorem rX{H:List O}{i:Nat}{x:O}(h:i<H.length):(H.set i x)[i]?=some x:=Q8 h
theorem wN{H:List O}{i j:Nat}{x y:O}(hn:j≠i)(h:H[i]?=some y):(H.set j x)[i]?=some y:=by rw[V5 hn];exact h
theorem g8{H l:List O}{i:Nat}{y:O}(h:H[i]?=some y):(H++l)[i]?=some y:=by rw[Q0 (J4.mp h).1];exact h
theorem BM{H:List O}{i:Nat}{y:O}(h:H[i]?=some y):i<H.length:=(J4.mp h).1
theorem wO{H:List O}{i j:Nat}{x y:O}(hi:H[i]?=some x)(hj:H[j]?=some y)(h:x≠y):i≠j:=fun e=>h (by subst e;rw[hi] at hj;exact Option.some.inj hj)
section
variable {G:cq}{dd:Nat}{fn:bW}{ls:List (Str×V)}{target:Expr}{body:List Stmt}{op fo tl:Nat}{all:List V}
structure GJ(G:cq)(dd:Nat)(fn:bW)(target:Expr)(body:List Stmt)(ls:List (Str×V))(op fo:Nat):Prop where
 opn:∀ H i t ps,gq 0 H i t→t.sort="("→H[op]?=some (.list ps)→ps.length≤1→
  yD G dd fn target body ls (.obj i) H ((H++[O.list []]++[dA H.length t.row t.col]++[O.inst 167 (H.length+1)]).set op (O.list (ps++[V.obj (H.length+2)])))
 leaf:∀ H i t ps br b its r c ys,gq 0 H i t→re t→H[op]?=some (.list (ps++[.obj br]))→ps.length≤1→H[br]?=some (.inst 167 b)→H[b]?=some (dA its r c)→H[its]?=some (.list ys)→ys.length≤100→
  yD G dd fn target body ls (.obj i) H (H.set its (O.list (ys++[V.obj i])))
 cl1:∀ H i t br xs,gq 0 H i t→t.sort=")"→H[op]?=some (.list [.obj br])→H[fo]?=some (.list xs)→xs.length≤100→op≠fo→
  yD G dd fn target body ls (.obj i) H ((H.set op (O.list [])).set fo (O.list (xs++[V.obj br])))
 cl2:∀ H i t b0 br b its r c ys,gq 0 H i t→t.sort=")"→H[op]?=some (.list [.obj b0,.obj br])→H[b0]?=some (.inst 167 b)→H[b]?=some (dA its r c)→H[its]?=some (.list ys)→ys.length≤100→op≠its→
  yD G dd fn target body ls (.obj i) H ((H.set op (O.list [V.obj b0])).set its (O.list (ys++[V.obj br])))
noncomputable abbrev Gd(tl:Nat)(all:List V):List O→Prop:=fun h=>h[tl]?=some (.list all)
noncomputable def GY(G:cq)(dd:Nat)(fn:bW)(ls:List (Str×V))(target:Expr)(body:List Stmt)(tl:Nat)(all:List V)(H':List O)(vs:List V)(H:List O):Prop:=
 ∀ rest (fl:Fl) (l₂:List (Str×V)) (H₂:List O),oV G dd fn target body (Gd tl all) (bT rest) ls H' fl l₂ H₂→oV G dd fn target body (Gd tl all) (bT (vs++rest)) ls H fl l₂ H₂
inductive G2(G:cq)(dd:Nat)(fn:bW)(ls:List (Str×V))(target:Expr)(body:List Stmt)(op its tl:Nat)(all:List V)(m br:Nat)(items:List It)(H:List O)(vs ys:List V):Prop
 | mk (H':List O) (ws:List V) (r:GY G dd fn ls target body tl all H' vs H) (x0:Kp [op,its] H H') (x1:H'[op]?=some (.list [.obj br])) (x2:H'[its]?=some (.list (ys++ws))) (x3:cM m H' ws items):G2 G dd fn ls target body op its tl all m br items H vs ys
inductive G6(G:cq)(dd:Nat)(fn:bW)(ls:List (Str×V))(target:Expr)(body:List Stmt)(op fo tl:Nat)(all:List V)(m:Nat)(brs:List Br)(H:List O)(vs xs:List V):Prop
 | mk (H':List O) (ws:List V) (r:GY G dd fn ls target body tl all H' vs H) (x0:Kp [op,fo] H H') (x1:H'[op]?=some (.list [])) (x2:H'[fo]?=some (.list (xs++ws))) (x3:fX m H' ws brs) (x4:Gd tl all H'):G6 G dd fn ls target body op fo tl all m brs H vs xs
theorem vy(T:GJ G dd fn target body ls op fo){m br b its:Nat}{r c:Int}(hop:op<m)(hits:its<m)(hne:op≠its)(ht1:tl≠op)(ht2:tl≠its):∀ (items:List It) (H:List O) (vs ys:List V),
  bl 0 H vs (items.flatMap It.toks)→(∀ i∈items,i.good)→H[op]?=some (.list [.obj br])→H[br]?=some (.inst 167 b)→H[b]?=some (dA its r c)→H[its]?=some (.list ys)→ys.length+items.length≤100→m≤H.length→Gd tl all H→
  G2 G dd fn ls target body op its tl all m br items H vs ys:=by
 intro items
 induction items with
 | nil=>
  intro H vs ys hv _ ho hb hbd hi hz hm hg
  have:vs=[]:=by
   have:=hv.len;simpa using this
  subst this
  exact⟨H,[],fun rest fl l₂ H₂ h=>h,Kp.refl,ho,by simpa using hi,trivial⟩
 | cons it items ih=>
 intro H vs ys hv hgood ho hb hbd hi hz hm hg
 have hzi:ys.length≤100∧ys.length+1+items.length≤100:=by simp at hz;lia
 have hlo:=BM ho
 have hli:=BM hi
 have n1:br≠its:=wO hb hi (by simp)
 have n2:b≠its:=wO hbd hi (by simp)
 have n3:br≠op:=wO hb ho (by simp)
 have n4:b≠op:=wO hbd ho (by simp)
 have hlb:=BM hb
 have hlbd:=BM hbd
 have hlt:=BM hg
 have hg0:=hgood it K5
 have hgr:∀ i∈items,i.good:=fun i h=>hgood i (K6 _ h)
 have hv':bl 0 H vs (it.toks++items.flatMap It.toks):=by simpa using hv
 obtain⟨v1,v2,rfl,hv1,hv2⟩:=hv'.split
 cases it with
 | leaf t=>
  obtain⟨i,vr,rfl,hi1,hvr⟩:=hv1.cc
  ·cases hvr.c0
   have tn:=T.leaf H i t [] br b its r c ys hi1 hg0 ho (by simp) hb hbd hi hzi.1
   have kI:KI [its] m H:=KI.one (hits) hi rfl
   have k:Kp [its] H (H.set its (O.list (ys++[V.obj i]))):=Kp.set (.head _)
   obtain⟨H',ws,hF,hK,hO,hI,hA⟩:=ih (H.set its (O.list (ys++[V.obj i]))) v2 (ys++[V.obj i]) (kI.tks k hv2) hgr (wN (Ne.symm hne) ho) (wN (Ne.symm n1) hb) (wN (Ne.symm n2) hbd) (rX hli) (by simp;lia) (by simpa using hm) (wN (Ne.symm ht2) hg)
   have kI2:KI [op,its] m (H.set its (O.list (ys++[V.obj i]))):=oU hop (wN (Ne.symm hne) ho) rfl hits (rX hli) rfl
   refine⟨H',.obj i::ws,fun rest fl l₂ H₂ h=>oV.one hg tn (hF rest _ _ _ h),(k.sub (by simp)).trans hK,hO,by rw[hI,K0];rfl,⟨i,rfl,kI2.tk hK (kI.tk k hi1)⟩,hA⟩
 | br o a c'=>
 obtain⟨g1,g2,g3⟩:=hg0
 obtain⟨io,va,rfl,ho1,hva⟩:=hv1.cc
 obtain⟨ia,vb,rfl,ha1,hvb⟩:=hva.cc
 obtain⟨ic,vc,rfl,hc1,hvc⟩:=hvb.cc
 ·cases hvc.c0
  have t1:=T.opn H io o [.obj br] ho1 g1 ho (by simp)
  have kI0:KI [op] m H:=KI.one (hop) ho rfl
  generalize e1:((H++[O.list []]++[dA H.length o.row o.col]++[O.inst 167 (H.length+1)]).set op (O.list ([V.obj br]++[V.obj (H.length+2)])))=H1 at t1
  have k1:Kp [op] H H1:=by rw[←e1];exact((Kp.app.trans Kp.app).trans Kp.app).trans (Kp.set (.head _))
  have l1:H1.length=H.length+3:=by rw[←e1];simp
  have a1:H1[op]?=some (.list ([.obj br]++[.obj (H.length+2)])):=by rw[←e1];exact rX (by simp;lia)
  have a2:H1[H.length]?=some (.list []):=by rw[←e1];exact wN (by walk_at"ne") (g8 (g8 (by simp)))
  have a3:H1[H.length+1]?=some (dA H.length o.row o.col):=by rw[←e1];exact wN (by walk_at"ne") (g8 (by rw[Q6 (by simp)];simp))
  have a4:H1[H.length+2]?=some (.inst 167 (H.length+1)):=by rw[←e1];exact wN (by walk_at"ne") (by rw[Q6 (by simp)];simp)
  clear e1
  have t2:=T.leaf H1 ia a [.obj br] (H.length+2) (H.length+1) H.length o.row o.col [] (kI0.tk k1 ha1) g2 a1 (by simp) a4 a3 a2 (by simp)
  have kI1:KI [H.length] (H.length+1) H1:=KI.one (Nat.lt_succ_self _) a2 rfl
  generalize e2:H1.set H.length (O.list ([]++[V.obj ia]))=H2 at t2
  have k2:Kp [H.length] H1 H2:=by rw[←e2];exact Kp.set (.head _)
  have l2:H2.length=H.length+3:=by rw[←e2];simp[l1]
  have b1:H2[H.length]?=some (.list [.obj ia]):=by rw[←e2];exact rX (by walk_at"lt")
  clear e2
  have k12:Kp [op] H H2:=k1.step k2 (by simp)
  have b2:H2[op]?=some (.list [.obj br,.obj (H.length+2)]):=k2.get a1 (ef (by walk_at"ne"))
  have b3:H2[br]?=some (.inst 167 b):=k12.get hb (ef (by walk_at"ne"))
  have b4:H2[b]?=some (dA its r c):=k12.get hbd (ef (by walk_at"ne"))
  have b5:H2[its]?=some (.list ys):=k12.get hi (ef (by walk_at"ne"))
  have b6:H2[H.length+1]?=some (dA H.length o.row o.col):=k2.get a3 (by simp)
  have b7:H2[H.length+2]?=some (.inst 167 (H.length+1)):=k2.get a4 (by simp)
  have t3:=T.cl2 H2 ic c' br (H.length+2) b its r c ys (kI1.tk k2 (kI0.tk k1 hc1)) g3 b2 b3 b4 b5 hzi.1 hne
  have kI2:KI [op,its] m H2:=oU hop (b2) rfl hits (b5) rfl
  generalize e3:(H2.set op (O.list [V.obj br])).set its (O.list (ys++[V.obj (H.length+2)]))=H3 at t3
  have k3:Kp [op,its] H2 H3:=by rw[←e3];exact(Kp.set (.head _)).trans (Kp.set (.tail _ (.head _)))
  have l3:H3.length=H.length+3:=by rw[←e3];simp[l2]
  have c1:H3[op]?=some (.list [.obj br]):=by rw[←e3];exact wN (Ne.symm hne) (rX (by walk_at"lt"))
  have c5:H3[its]?=some (.list (ys++[V.obj (H.length+2)])):=by rw[←e3];exact rX (by simp;lia)
  clear e3
  have c3:H3[br]?=some (.inst 167 b):=k3.get b3 (lM (by walk_at"ne") (by walk_at"ne"))
  have c4:H3[b]?=some (dA its r c):=k3.get b4 (lM (by walk_at"ne") (by walk_at"ne"))
  have k13:Kp [op,its] H H3:=(k12.sub (by simp)).trans k3
  have gd1:Gd tl all H1:=k1.get hg (ef (by walk_at"ne"))
  have gd2:Gd tl all H2:=k12.get hg (ef (by walk_at"ne"))
  have gd3:Gd tl all H3:=k13.get hg (lM (by walk_at"ne") (by walk_at"ne"))
  have tks:bl 0 H3 v2 (items.flatMap It.toks):=kI2.tks k3 (kI1.tks k2 (kI0.tks k1 hv2))
  obtain⟨H',ws,hF,hK,hO,hI,hA⟩:=ih H3 v2 (ys++[V.obj (H.length+2)]) tks hgr c1 c3 c4 c5 (by simp;lia) (by lia) gd3
  have kI3:KI [op,its] m H3:=oU hop (c1) rfl hits (c5) rfl
  refine⟨H',.obj (H.length+2)::ws,fun rest fl l₂ H₂ h=>oV.one hg t1 (oV.one gd1 t2 (oV.one gd2 t3 (hF rest _ _ _ h))),k13.trans hK,hO,by rw[hI,K0];rfl,?_,hA⟩
  refine⟨H.length+2,H.length+1,H.length,ia,rfl,⟨by lia,by lia,by lia⟩,?_,?_,?_,?_⟩
  ·exact hK.get (k3.get b7 (lM (by walk_at"ne") (by walk_at"ne"))) (lM (by walk_at"ne") (by walk_at"ne"))
  ·exact hK.get (k3.get b6 (lM (by walk_at"ne") (by walk_at"ne"))) (lM (by walk_at"ne") (by walk_at"ne"))
  ·exact hK.get (k3.get b1 (lM (by walk_at"ne") (by walk_at"ne"))) (lM (by walk_at"ne") (by walk_at"ne"))
  exact kI3.tk hK (kI2.tk k3 (kI1.tk k2 (kI0.tk k1 ha1)))
theorem A5(T:GJ G dd fn target body ls op fo){m:Nat}(hop:op<m)(hfo:fo<m)(hne:op≠fo)(ht1:tl≠op)(ht2:tl≠fo)(htm:tl<m):∀ (brs:List Br) (H:List O) (vs xs:List V),
  bl 0 H vs (brs.flatMap Br.toks)→(∀ b∈brs,b.good∧b.items.length≤50)→H[op]?=some (.list [])→H[fo]?=some (.list xs)→xs.length+brs.length≤100→m≤H.length→Gd tl all H→
  G6 G dd fn ls target body op fo tl all m brs H vs xs:=by
 intro brs
 induction brs with
 | nil=>
  intro H vs xs hv _ ho hf hz hm hg
  have:vs=[]:=by
   have:=hv.len;simpa using this
  subst this
  exact⟨H,[],fun rest fl l₂ H₂ h=>h,Kp.refl,ho,by simpa using hf,trivial,hg⟩
 | cons b brs ih=>
 intro H vs xs hv hgood ho hf hz hm hg
 have hlo:=BM ho
 have hlf:=BM hf
 have hg0:=hgood b K5
 have hgr:∀ i∈brs,i.good∧i.items.length≤50:=fun i h=>hgood i (K6 _ h)
 have hv':bl 0 H vs (b.o::(b.items.flatMap It.toks++([b.c]++brs.flatMap Br.toks))):=by simpa [Br.toks] using hv
 obtain⟨io,vr,rfl,ho1,hvr⟩:=hv'.cc
 obtain⟨v1,v2,rfl,hv1,hv2⟩:=hvr.split
 obtain⟨v3,v4,rfl,hv3,hv4⟩:=hv2.split
 obtain⟨ic,vz,rfl,hc1,hvz⟩:=hv3.cc
 cases hvz.c0
 obtain⟨⟨g1,g2,g3⟩,gl⟩:=hg0
 have t1:=T.opn H io b.o [] ho1 g1 ho (by simp)
 have kI0:KI [op] m H:=KI.one (hop) ho rfl
 generalize e1:((H++[O.list []]++[dA H.length b.o.row b.o.col]++[O.inst 167 (H.length+1)]).set op (O.list ([]++[V.obj (H.length+2)])))=H1 at t1
 have k1:Kp [op] H H1:=by rw[←e1];exact((Kp.app.trans Kp.app).trans Kp.app).trans (Kp.set (.head _))
 have l1:H1.length=H.length+3:=by rw[←e1];simp
 have a1:H1[op]?=some (.list [.obj (H.length+2)]):=by rw[←e1];exact rX (by simp;lia)
 have a2:H1[H.length]?=some (.list []):=by rw[←e1];exact wN (by walk_at"ne") (g8 (g8 (by simp)))
 have a3:H1[H.length+1]?=some (dA H.length b.o.row b.o.col):=by rw[←e1];exact wN (by walk_at"ne") (g8 (by rw[Q6 (by simp)];simp))
 have a4:H1[H.length+2]?=some (.inst 167 (H.length+1)):=by rw[←e1];exact wN (by walk_at"ne") (by rw[Q6 (by simp)];simp)
 clear e1
 have gd1:Gd tl all H1:=k1.get hg (ef (by walk_at"ne"))
 obtain⟨H2,ws,hF,hK,hO,hI,hA⟩:=vy (m:=H.length+3) T (by lia) (by lia) (by lia) ht1 (by lia) b.items H1 v1 [] (kI0.tks k1 hv1) g2 a1 a4 a3 a2 (by simp;lia) (by lia) gd1
 have kI1:KI [op,H.length] (H.length+3) H1:=fun j hj=>by
  simp at hj
  rcases hj with rfl | rfl
  ·exact⟨by lia,_,a1,rfl⟩
  exact⟨by lia,_,a2,rfl⟩
 have k12:Kp [op] H H2:=k1.step hK (by simp)
 have b5:H2[fo]?=some (.list xs):=k12.get hf (ef (by walk_at"ne"))
 have b6:H2[H.length+1]?=some (dA H.length b.o.row b.o.col):=hK.get a3 (lM (by walk_at"ne") (by walk_at"ne"))
 have b7:H2[H.length+2]?=some (.inst 167 (H.length+1)):=hK.get a4 (lM (by walk_at"ne") (by walk_at"ne"))
 have l2:=hK.1
 have t3:=T.cl1 H2 ic b.c (H.length+2) xs (kI1.tk hK (kI0.tk k1 hc1)) g3 hO b5 (by simp at hz;lia) hne
 have kI2:KI [op,fo] m H2:=oU hop (hO) rfl hfo (b5) rfl
 generalize e3:(H2.set op (O.list [])).set fo (O.list (xs++[V.obj (H.length+2)]))=H3 at t3
 have k3:Kp [op,fo] H2 H3:=by rw[←e3];exact(Kp.set (.head _)).trans (Kp.set (.tail _ (.head _)))
 have l3:H3.length=H2.length:=by rw[←e3];simp
 have c1:H3[op]?=some (.list []):=by rw[←e3];exact wN (Ne.symm hne) (rX (by walk_at"lt"))
 have c5:H3[fo]?=some (.list (xs++[V.obj (H.length+2)])):=by rw[←e3];exact rX (by simp;lia)
 clear e3
 have k13:Kp [op,fo] H H3:=(k12.sub (by simp)).trans k3
 have gd2:Gd tl all H2:=k12.get hg (ef (by walk_at"ne"))
 have gd3:Gd tl all H3:=k13.get hg (lM (by walk_at"ne") (by walk_at"ne"))
 have tks:bl 0 H3 v4 (brs.flatMap Br.toks):=kI2.tks k3 (kI1.tks hK (kI0.tks k1 hv4))
 obtain⟨H',us,hF',hK',hO',hI',hA',gd'⟩:=ih H3 v4 (xs++[V.obj (H.length+2)]) tks hgr c1 c5 (by simp at hz ⊢;lia) (by lia) gd3
 have kI3:KI [op,fo] m H3:=oU hop (c1) rfl hfo (c5) rfl
 refine⟨H',.obj (H.length+2)::us,fun rest fl l₂ H₂ h=>?_,k13.trans hK',hO',by rw[hI',K0];rfl,⟨?_,hA'⟩,gd'⟩
 ·have:=oV.one hg t1 (hF (.obj ic::(v4++rest)) _ _ _ (oV.one gd2 t3 (hF' rest _ _ _ h)))
  rw[show(V.obj io::(v1++([V.obj ic]++v4))++rest)=V.obj io::(v1++(V.obj ic::(v4++rest))) from by simp]
  exact this
 refine mA.keep kI3 hK' (mA.keep kI2 k3 ?_)
 exact⟨H.length+2,H.length+1,H.length,ws,rfl,⟨by lia,by lia,by lia⟩,b7,b6,by rw[hI];rfl,hA.low (by lia)⟩
end
theorem tK{ps:List V}{v:V}:(ps++[v])[((-1:Int)+((ps++[v]).length:Int)).toNat]?=some v:=by
 have:((-1:Int)+((ps++[v]).length:Int)).toNat=ps.length:=by simp;lia
 rw[this];simp
section
variable {G:cq}{dd:Nat}{fn:bW}{ls:List (Str×V)}{target iter:Expr}{body rest:List Stmt}{op fo tl:Nat}{all:List V}{P:V→List O→Prop}{pos:Pos}{H1 H2:List O}{brs:List Br}
theorem xo(S:bz fn)(hi:g9 G dd fn iter ls H1 (.obj tl) H2)(htl:H2[tl]?=some (.list all))(hv:bl 0 H2 all (brs.flatMap Br.toks))(hgood:∀ b∈brs,b.good∧b.items.length≤50)(hz:brs.length≤100)
  (ho:H2[op]?=some (.list [])) (hf:H2[fo]?=some (.list [])) (n1:op≠fo) (n2:tl≠op) (n3:tl≠fo) (T:GJ G dd fn target body ls op fo)
  (hrest:∀ H3 ws,Kp [op,fo] H2 H3→H3[op]?=some (.list [])→H3[fo]?=some (.list ws)→fX H2.length H3 ws brs→∃ v H',be G dd fn rest ls H3 (.ret v) [] H'∧P v H')
  (hs:∀ env x,V1 iter env x=pure x:=by intro _ _;rfl) :
  ∃ v H',be G dd fn (.For target iter body [] pos::rest) ls H1 (.ret v) [] H'∧P v H':=by
 have run:∃ H3 ws,oV G dd fn target body (Gd tl all) (bT all) ls H2 .next ls H3∧Kp [op,fo] H2 H3∧H3[op]?=some (.list [])∧H3[fo]?=some (.list ws)∧fX H2.length H3 ws brs:=by
  obtain⟨H',ws,hF,hK,hO,hI,hA,hG⟩:=A5 T (BM ho) (BM hf) n1 n2 n3 (BM htl) brs H2 all [] hv hgood ho hf (by simpa using hz) (Nat.le_refl _) htl
  have:=hF [] .next ls H' (.nil hG)
  rw[List.append_nil] at this
  exact⟨H',ws,this,hK,hO,hI,hA⟩
 obtain⟨H3,ws,hF,hK,hO,hI,hA⟩:=run
 obtain⟨v,H',h,p⟩:=hrest H3 ws hK hO hI hA
 exact⟨v,H',be.cons (Bd S hi htl hF hs) h,p⟩
end
noncomputable def cps(x:String):List Nat:=(J0 x).cps.toList
theorem dR(x:String):aq (cps x)=J0 x:=s8 _
structure Th where
 told:List Nat
 sort:Str
 value:Int
 deriving DecidableEq
noncomputable def tg:List Int:=[0,1,7,2 ^ 31,2 ^ 32-1,2 ^ 32,2 ^ 63,2 ^ 64-1,2 ^ 64,-1,-2 ^ 31,-2 ^ 31-1,-2 ^ 63,-2 ^ 63-1]
noncomputable def EX:List Th:=tg.map fun n=>⟨cps (toString n),"int",n⟩
noncomputable def EW:List Th:=[⟨cps "+7","int",7⟩,⟨cps "+2147483648","int",2 ^ 31⟩,⟨cps "0x_1","reserved",0⟩,⟨cps "0xfF","int",255⟩]
noncomputable def EV:List Th:=[⟨cps "func","word",0⟩,⟨cps "extern","word",0⟩,⟨cps "any","word",0⟩,⟨cps "$x","id",0⟩,⟨cps "\"ab\"","string",0⟩,⟨cps "(a)","branch",0⟩]
noncomputable def ch:List Th:=EX++EW++EV
structure LT where
 th:Th
 place:Int
 deriving DecidableEq
structure LB where
 head:List Nat
 things:List LT
 row:Int
 col:Int
noncomputable def cY:List (List Nat):=[cps "i32.const",cps "i64.const",cps "ref.null",cps "ref.extern",cps "ref.func",cps "f32.const",cps "f64.const",cps "v128.const",cps "i32.add",cps "\"s\""]
noncomputable def rJ(h:List Nat):Str:=if h=cps "\"s\"" then "" else aq h
noncomputable def LB.name(b:LB):Str:=rJ b.head
noncomputable def LB.ok(b:LB):Prop:=b.head∈cY∧(∀ t∈b.things,t.th∈ch)∧b.things.length≤2
noncomputable def fN(t:Th)(row place:Int):It:=
 if t.sort="branch" then .br ⟨"(","(",.str "(",row,place⟩ ⟨"word","a",.str "a",row,place+1⟩ ⟨")",")",.str ")",row,place+2⟩
 else if t.sort="string" then .leaf ⟨"string",aq t.told,.byt #[97,98],row,place⟩
 else .leaf ⟨(a7 t.told).1,aq t.told,eO t.told,row,place⟩
noncomputable def LT.it(row:Int)(t:LT):It:=fN t.th row t.place
noncomputable def gF(h:List Nat)(row col:Int):Tk:=if h=cps "\"s\"" then⟨"string",aq h,.byt #[115],row,col+1⟩ else⟨(a7 h).1,aq h,eO h,row,col+1⟩
inductive NR where
 | bad (w:Str) (r c:Int)
 | num (x:Int)
inductive jp where
 | val (k:Int) (v:Option Int)
 | bad (w:Str) (r c:Int)
 | left (w:Str) (r:Int)
noncomputable def jp.vs:jp→List V
 | .val k v=>[.int k,aI v]
 | .bad w r c=>[.str "bad",.str w,.int r,.int c]
 | .left w r=>[.str "left",.str w,.int r]
noncomputable def bf(b:LB)(least most:Int):NR:=
 match b.things with
 | [t]=>
  if t.th.sort≠"int"∨(b.name="ref.extern"∧lL t.th.told=true) then .bad "unexpected token" b.row t.place
  else if least≤t.th.value∧t.th.value<(if lL t.th.told=true then most / 2 else most) then .num (t.th.value % most)
  else .bad (if b.name="ref.extern" then "i32 constant out of range" else "constant out of range") b.row t.place
 | _=>.bad "another number of parts is wanted" b.row b.col
noncomputable def NR.res(k:Int):NR→jp
 | .num x=>.val k (some x)
 | .bad w r c=>.bad w r c
noncomputable def fA(b:LB):jp:=
 match b.things with
 | [t]=>if t.th.told=cps "func" then .val (-16) none else if t.th.told=cps "extern" then .val (-17) none else .bad "a heap type is wanted" b.row t.place
 | _=>.bad "another number of parts is wanted" b.row b.col
noncomputable def di(b:LB):jp:=
 if b.name="i32.const" then(bf b (-2 ^ 31) (2 ^ 32)).res (-1)
 else if b.name="i64.const" then(bf b (-2 ^ 63) (2 ^ 64)).res (-2)
 else if b.name="ref.null" then fA b
 else if b.name="ref.extern" then(bf b 0 (2 ^ 32)).res (-17)
 else if b.name="f32.const"∨b.name="f64.const"∨b.name="v128.const" then .left b.name b.row
 else .bad "a constant is wanted" b.row b.col
inductive WR where
 | want (k v:Option Int) (any:Bool)
 | bad (w:Str) (r c:Int)
 | left (w:Str) (r:Int)
noncomputable def WR.vs:WR→List V
 | .want k v a=>[aI k,aI v,.bool a]
 | .bad w r c=>[.str "bad",.str w,.int r,.int c]
 | .left w r=>[.str "left",.str w,.int r]
noncomputable def jp.wan:jp→WR
 | .val k v=>.want (some k) v false
 | .bad w r c=>.bad w r c
 | .left w r=>.left w r
noncomputable def fL(b:LB):WR:=
 if b.things=[]∧b.name="ref.null" then .want none none false
 else if b.things=[]∧b.name="ref.extern" then .want (some (-17)) none true
 else if b.name="ref.func" then(if b.things=[] then .want (some (-16)) none true else .bad "another number of parts is wanted" b.row b.col)
 else(di b).wan
noncomputable def Ft(t:Th):Bool:=
 (if t.sort == "int" then a7 t.told==(("int" : Str),some t.value) else(t.sort == "branch" || t.sort == "string" || ((a7 t.told).1 != "int" && (a7 t.told).1==t.sort && (a7 t.told).2==none)))
 && (t.sort == "branch" || t.sort == "string" || (t.told != [] && t.told != [36] && decide (t.told.length≤30) && t.told.all (fun k=>uP k && decide (k<128) && k != 34)))
 && (t.sort == "word" || (t.told != cps "func" && t.told != cps "extern"))
 && t.told.all (fun k=>decide (k<128)) && decide (0<t.told.length) && decide (t.told.length≤30)
 && (t.sort != "int" || lL t.told || decide (0≤t.value))
 && (t.sort != "branch" || t.told==cps "(a)") && (t.sort != "string" || t.told==cps "\"ab\"")
theorem AY:ch.all Ft=true:=by decide +kernel
noncomputable def vS(bits:Nat)(t:Th):Bool:=Builtin.bitAnd (if 2 ^ (bits-1)≤t.value then t.value-2*2 ^ (bits-1) else t.value) (1*2 ^ bits-1)==t.value % 2 ^ bits
theorem A4:ch.all (vS 32)=true:=by decide +kernel
theorem A3:ch.all (vS 64)=true:=by decide +kernel
noncomputable def Fv(h:List Nat):Bool:=(h==cps "\"s\"" || a7 h==(("word" : Str),none)) && h.all (fun k=>decide (k<128)) && decide (0<h.length) && decide (h.length≤30)
 && (h==cps "\"s\"" || h.all (fun k=>uP k && k != 34))
theorem A1:cY.all Fv=true:=by decide +kernel
noncomputable def GE(t:Th):Bool:=(!(iT "+-" (Txt.item (aq t.told) 0)).isEmpty)==lL t.told
theorem oE:ch.all GE=true:=by decide +kernel
theorem mV{p:Th→Bool}(h:ch.all p=true){t:Th}(ht:t∈ch):p t=true:=W8.mp h t ht
structure Ep(t:Th):Prop where
 int:t.sort="int"→a7 t.told=(("int" : Str),some t.value)
 non:t.sort≠"int"→t.sort≠"branch"→t.sort≠"string"→(a7 t.told).1≠"int"∧(a7 t.told).1=t.sort∧(a7 t.told).2=none
 word:t.sort≠"branch"→t.sort≠"string"→t.told≠[]∧t.told≠[36]∧t.told.length≤30∧∀ k∈t.told,uP k=true∧k<128∧k≠34
 heap:t.sort≠"word"→t.told≠cps "func"∧t.told≠cps "extern"
 asc:∀ k∈t.told,k<128
 pos:0<t.told.length
 len:t.told.length≤30
 nn:t.sort="int"→lL t.told=false→0≤t.value
 br:t.sort="branch"→t.told=cps "(a)"
 str:t.sort="string"→t.told=cps "\"ab\""
theorem jb{t:Th}(ht:t∈ch):Ep t:=by
 have:=mV AY ht
 unfold Ft at this
 simp only[V2] at this
 obtain⟨⟨⟨⟨⟨⟨⟨⟨h1,h2⟩,h3⟩,h4⟩,h5⟩,h6⟩,h7⟩,h8⟩,h9⟩:=this
 refine⟨?_,?_,?_,?_,?_,?_,?_,?_,?_,?_⟩
 ·intro e;rw[if_pos (by simp[e])] at h1;simpa using h1
 ·intro e e1 e2;rw[if_neg (by simpa using e)] at h1
  simp only[Bool.or_eq_true,beq_iff_eq,V2,bne_iff_ne] at h1
  rcases h1 with(h1 | h1) | h1
  ·exact absurd h1 e1
  ·exact absurd h1 e2
  exact⟨h1.1.1,h1.1.2,h1.2⟩
 ·intro e1 e2
  simp only[Bool.or_eq_true,beq_iff_eq,V2,bne_iff_ne,decide_eq_true_eq,W8] at h2
  rcases h2 with(h2 | h2) | h2
  ·exact absurd h2 e1
  ·exact absurd h2 e2
  exact⟨h2.1.1.1,h2.1.1.2,h2.1.2,fun k hk=>⟨(h2.2 k hk).1.1,(h2.2 k hk).1.2,(h2.2 k hk).2⟩⟩
 ·intro e
  simp only[Bool.or_eq_true,beq_iff_eq,V2,bne_iff_ne] at h3
  rcases h3 with h3 | h3
  ·exact absurd h3 e
  exact h3
 ·intro k hk;have:=W8.mp h4 k hk;simpa using this
 ·simpa using h5
 ·simpa using h6
 ·intro e1 e2
  simp only[Bool.or_eq_true,bne_iff_ne,decide_eq_true_eq] at h7
  rcases h7 with(h7 | h7) | h7
  ·exact absurd e1 h7
  ·rw[e2] at h7;cases h7
  exact h7
 ·intro e
  simp only[Bool.or_eq_true,bne_iff_ne,beq_iff_eq] at h8
  rcases h8 with h8 | h8
  ·exact absurd e h8
  exact h8
 intro e
 simp only[Bool.or_eq_true,bne_iff_ne,beq_iff_eq] at h9
 rcases h9 with h9 | h9
 ·exact absurd e h9
 exact h9
structure GQ(h:List Nat):Prop where
 word:h≠cps "\"s\""→a7 h=(("word" : Str),none)
 asc:∀ k∈h,k<128
 pos:0<h.length
 len:h.length≤30
 idc:h≠cps "\"s\""→∀ k∈h,uP k=true∧k≠34
theorem AD{h:List Nat}(hh:h∈cY):GQ h:=by
 have:=W8.mp A1 h hh
 unfold Fv at this
 simp only[V2] at this
 obtain⟨⟨⟨⟨h1,h2⟩,h3⟩,h4⟩,h5⟩:=this
 refine⟨?_,?_,?_,?_,?_⟩
 ·intro e
  simp only[Bool.or_eq_true,beq_iff_eq] at h1
  rcases h1 with h1 | h1
  ·exact absurd h1 e
  exact h1
 ·intro k hk;have:=W8.mp h2 k hk;simpa using this
 ·simpa using h3
 ·simpa using h4
 intro e
 simp only[Bool.or_eq_true,beq_iff_eq,W8,V2,bne_iff_ne] at h5
 rcases h5 with h5 | h5
 ·exact absurd h5 e
 exact h5
theorem eE{t:Th}{r c:Int}(o:Ep t)(h:t.sort="int"):fN t r c=.leaf ⟨"int",aq t.told,.int t.value,r,c⟩:=by
 unfold fN
 rw[if_neg (by rw[h];decide),if_neg (by rw[h];decide)]
 unfold eO
 rw[o.int h]
theorem fx{t:Th}{r c:Int}(o:Ep t)(h:t.sort≠"int"):(∃ s v,fN t r c=.leaf ⟨s,aq t.told,v,r,c⟩∧s≠"int"∧s=t.sort∧(s≠"string"∨(s="string"∧v=.byt #[97,98])))∨(t.sort="branch"∧∃ o a c',fN t r c=.br o a c'∧o.row=r∧o.col=c∧a.sort="word"∧a.text="a"):=by
 unfold fN
 by_cases e1:t.sort="branch"
 ·rw[if_pos e1];exact .inr ⟨e1,_,_,_,rfl,rfl,rfl,rfl,rfl⟩
 rw[if_neg e1]
 by_cases e2:t.sort="string"
 ·rw[if_pos e2];exact .inl ⟨"string",_,rfl,by decide,e2.symm,.inr ⟨rfl,rfl⟩⟩
 rw[if_neg e2]
 have:=o.non h e1 e2
 exact .inl ⟨_,_,rfl,this.1,this.2.1,.inl (by rw[this.2.1];exact e2)⟩
theorem vG:∀ {ths:List Th},(∀ t∈ths,t.told.length≤30)→(ths.flatMap fun t=>32::t.told).length≤31*ths.length
 | [],_=>Nat.le_refl _
 | t::ts,h=>by
  show _≤31*(ts.length+1)
  rw[List.flatMap_cons,V6,List.length_cons,Nat.mul_succ,Nat.add_comm (31*_)]
  exact Y0 (Nat.succ_le_succ (h t (.head _))) (vG fun u hu=>h u (.tail _ hu))
theorem jJ{c:Nat}{n:Int}:Txt.mul (aq [c]) n=aq (List.replicate n.toNat c):=by
 have:=mul_one_list c n
 rw[←s8 (Txt.mul (aq [c]) n)]
 exact congrArg aq this
theorem qj{c:Nat}{n:Int}(h0:0≤n)(h1:n≤1000):MulOk (aq [c]) n:=by
 have hl:(aq [c]).length=1:=az [c]
 refine⟨?_,?_,?_⟩
 ·have a:¬ n < -(2 ^ 63:Int):=Int.not_lt.mpr (Int.le_trans (by decide) h0)
  have b:¬ n≥2 ^ 63:=Int.not_le.mpr (Int.lt_of_le_of_lt h1 (by decide))
  rw[decide_eq_false a,decide_eq_false b];rfl
 ·intro hn _ hgt
  rw[hl] at hgt
  have:(1:Int)≤(2 ^ 63-1) / n:=by
   rw[Int.le_ediv_iff_mul_le (by lia)]
   lia
  lia
 intro _ _
 rw[hl]
 unfold Builtin.Str.tooLong
 rw[decide_eq_false_iff_not]
 rw[Nat.one_mul]
 exact Nat.not_lt.mpr (J7 (Int.toNat_le.mpr h1) (by decide))
theorem AM{cs:List Nat}:Txt.count (aq cs) (J0 "\n")=cnt 10 cs:=by
 rw[q7]
 have:=count_cnt (aq cs) 10
 exact this
theorem xw{cs:List Nat}{c i:Nat}:Builtin.Str.subAt (aq cs) (aq [c]) i=decide (cs[i]?=some c):=by
 unfold Builtin.Str.subAt
 have hl:(aq [c]).length=1:=az [c]
 rw[hl]
 show((cs.toArray.extract i (i+1))==([c]:List Nat).toArray)=_
 rw[Bool.eq_iff_iff,beq_iff_eq,decide_eq_true_iff]
 constructor
 ·intro h
  have:=congrArg Array.toList h
  simp at this
  have h2:=congrArg (fun l=>l[0]?) this
  simpa using h2
 intro h
 apply Array.ext'
 simp
 have hi:i<cs.length:=(J4.mp h).1
 rw[List.drop_eq_getElem_cons hi]
 have:=(J4.mp h).2
 simp[this]
theorem zJ{a r:List Nat}(h:10∉r):Txt.rfind (aq (a++10::r)) (J0 "\n")=(a.length:Int):=by
 rw[q7]
 have hl:(aq [10]).length=1:=az [10]
 have at_iff:∀ i,StrLaws.At (aq (a++10::r)) (aq [10]) (aq (a++10::r)).length i↔(a++10::r)[i]?=some 10:=by
  intro i
  unfold StrLaws.At
  rw[xw,decide_eq_true_iff,hl,az]
  constructor
  ·exact fun h=>h.2
  intro h;exact⟨(J4.mp h).1,h⟩
 have h1:StrLaws.At (aq (a++10::r)) (aq [10]) (aq (a++10::r)).length a.length:=(at_iff _).mpr (by simp)
 unfold Txt.rfind
 rcases StrLaws.last_spec (aq (a++10::r)) (aq [10]) with⟨_,q⟩ | ⟨i,e,q1,q2⟩
 ·exact absurd h1 (q _)
 rw[e]
 have hge:a.length≤i:=Nat.le_of_not_lt fun hlt=>q2 _ hlt h1
 have:i=a.length:=by
  rcases Nat.lt_or_ge a.length i with hlt | hge2
  ·exfalso
   have:=(at_iff _).mp q1
   rw[Q6 (by lia)] at this
   obtain⟨k,hk⟩:∃ k,i-a.length=k+1:=⟨i-a.length-1,(Nat.sub_add_cancel (Nat.sub_pos_of_lt hlt)).symm⟩
   rw[hk] at this
   have:r[k]?=some 10:=by simpa using this
   exact h (V8 this)
  lia
 rw[this]
theorem ua(n:Nat):cnt 10 (List.replicate n 10)=(n:Int):=by
 induction n with
 | zero=>rfl
 | succ n ih=>rw[W6,cnt_cons,ih];simp;lia
theorem oD{l:List Nat}(h:10∉l):cnt 10 l=0:=by
 induction l with
 | nil=>rfl
 | cons x l ih=>
 rw[cnt_cons,ih (fun q=>h (K6 _ q)),if_neg (fun q=>h (by rw[q];exact K5))];rfl
noncomputable def jO:List Pc→Int→Int
 | [],r=>r
 | p::ps,r=>jO ps (p.row r)
noncomputable def ir:List Pc→Int→Int
 | [],c=>c
 | p::ps,c=>ir ps (p.col c)
theorem n8:∀ (a b:List Pc) (r c:Int),eg (a++b) r c=eg a r c++eg b (jO a r) (ir a c)
 | [],b,r,c=>rfl
 | p::a,b,r,c=>by show p.toks r c++eg (a++b) _ _=(p.toks r c++eg a _ _)++_;rw[n8 a b,K0];rfl
theorem tS:∀ (a b:List Pc) (r:Int),jO (a++b) r=jO b (jO a r)
 | [],b,r=>rfl
 | p::a,b,r=>tS a b (p.row r)
theorem tT:∀ (a b:List Pc) (c:Int),ir (a++b) c=ir b (ir a c)
 | [],b,r=>rfl
 | p::a,b,r=>tT a b (p.col r)
theorem dj(a b:List Pc):aE (a++b)=aE a++aE b:=by unfold aE;rw[List.flatMap_append]
theorem yx(n:Nat):aE (List.replicate n .nl)=List.replicate n 10:=by
 induction n with
 | zero=>rfl
 | succ n ih=>rw[W6,W6,← ih];rfl
theorem yw(n:Nat):aE (List.replicate n .sp)=List.replicate n 32:=by
 induction n with
 | zero=>rfl
 | succ n ih=>rw[W6,W6,← ih];rfl
theorem CC(n:Nat)(r:Int):jO (List.replicate n .nl) r=r+n:=by
 induction n generalizing r with
 | zero=>simp[jO]
 | succ n ih=>rw[W6];show jO _ (r+1)=_;rw[ih];lia
theorem CA(n:Nat)(r:Int):jO (List.replicate n .sp) r=r:=by
 induction n generalizing r with
 | zero=>rfl
 | succ n ih=>rw[W6];exact ih r
theorem CE(n:Nat)(c:Int)(h:0<n):ir (List.replicate n .nl) c=1:=by
 induction n generalizing c with
 | zero=>lia
 | succ n ih=>
 rw[W6]
 show ir (List.replicate n .nl) 1=1
 by_cases e:n=0
 ·subst e;rfl
 exact ih 1 (by lia)
theorem CD(n:Nat)(c:Int):ir (List.replicate n .sp) c=c+n:=by
 induction n generalizing c with
 | zero=>simp[ir]
 | succ n ih=>rw[W6];show ir _ (c+1)=_;rw[ih];lia
theorem Ck(n:Nat)(r c:Int):eg (List.replicate n .nl) r c=[]:=by
 induction n generalizing r c with
 | zero=>rfl
 | succ n ih=>rw[W6];exact ih _ _
theorem Cj(n:Nat)(r c:Int):eg (List.replicate n .sp) r c=[]:=by
 induction n generalizing r c with
 | zero=>rfl
 | succ n ih=>rw[W6];exact ih _ _
theorem rj:∀ (a b:List Pc),tf b→(∀ p∈a,p=.nl∨p=.sp)→tf (a++b)
 | [],b,h,_=>h
 | p::a,b,h,ha=>by
  refine⟨?_,rj a b h fun q hq=>ha q (K6 _ hq)⟩
  rcases ha p K5 with rfl | rfl <;> trivial
noncomputable def qZ(t:Th):List Pc:=if t.sort="branch" then[.op,.wd (cps "a"),.cl] else if t.sort="string" then[.st [97,98]] else[.wd t.told]
noncomputable def tP(h:List Nat):Pc:=if h=cps "\"s\"" then .st [115] else .wd h
noncomputable def cH(ths:List Th):List Pc:=(ths.flatMap fun t=>Pc.sp::qZ t)++[.cl]
noncomputable def wV(h:List Nat)(ths:List Th):List Pc:=.op::tP h::cH ths
noncomputable def qk:List Th→Int→List LT
 | [],_=>[]
 | t::ts,c=>⟨t,c+1⟩::qk ts (c+1+(t.told.length:Nat))
noncomputable def oz:List Th→Int→Int
 | [],c=>c
 | t::ts,c=>oz ts (c+1+(t.told.length:Nat))
noncomputable def z5(h:List Nat)(ths:List Th)(row col:Int):LB:=⟨h,qk ths (col+1+(h.length:Nat)),row,col⟩
noncomputable def ug(b:LB)(ce:Int):Br:=⟨⟨"(","(",.str "(",b.row,b.col⟩,.leaf (gF b.head b.row b.col)::b.things.map (LT.it b.row),⟨")",")",.str ")",b.row,ce⟩⟩
theorem wU:cps "a" = [97]:=by decide +kernel
theorem vO:cps "(a)" = [40,97,41]:=by decide +kernel
theorem vP:cps "\"ab\"" = [34,97,98,34]:=by decide +kernel
theorem AL:cps "\"s\"" = [34,115,34]:=by decide +kernel
theorem Gs:a7 [97]=(("word" : Str),none):=by decide +kernel
theorem G8:aq [97]=J0 "a":=by kernel_rfl
theorem xr{t:Th}(ht:t∈ch):aE (qZ t)=t.told:=by
 have o:=jb ht
 unfold qZ
 by_cases e1:t.sort="branch"
 ·rw[if_pos e1,o.br e1,vO,wU];rfl
 rw[if_neg e1]
 by_cases e2:t.sort="string"
 ·rw[if_pos e2,o.str e2,vP];rfl
 rw[if_neg e2];simp[aE,Pc.chars]
theorem kC{h:List Nat}:(tP h).chars=h:=by
 unfold tP
 by_cases e:h=cps "\"s\""
 ·rw[if_pos e,e,AL];rfl
 rw[if_neg e];rfl
theorem kZ{ths:List Th}(ht:∀ t∈ths,t∈ch):aE (cH ths)=(ths.flatMap fun t=>32::t.told)++[41]:=by
 unfold cH
 rw[dj]
 congr 1
 induction ths with
 | nil=>rfl
 | cons t ths ih=>
 rw[List.flatMap_cons,List.flatMap_cons,dj,ih fun x hx=>ht x (K6 _ hx)]
 congr 1
 show 32::aE (qZ t)=_
 rw[xr (ht t K5)]
theorem kG{h:List Nat}{ths:List Th}(ht:∀ t∈ths,t∈ch):aE (wV h ths)=40::(h++((ths.flatMap fun t=>32::t.told)++[41])):=by
 show 40::((tP h).chars++aE (cH ths))=_
 rw[kC,kZ ht]
theorem Ci{t:Th}(ht:t∈ch)(rest:List Pc)(r c:Int):eg (qZ t++rest) r c=(fN t r c).toks++eg rest r (c+(t.told.length:Nat)):=by
 have o:=jb ht
 unfold qZ fN
 by_cases e1:t.sort="branch"
 ·rw[if_pos e1,if_pos e1,o.br e1,vO,wU]
  show Tk.mk _ _ _ _ _::Tk.mk (a7 [97]).1 (aq [97]) (eO [97]) r (c+(1:Nat))::Tk.mk _ _ _ r (c+(1:Nat)+(1:Nat))::eg rest r (c+(1:Nat)+(1:Nat)+(1:Nat))=_
  unfold eO
  rw[Gs,G8]
  rw[show c+((1:Nat):Int)+((1:Nat):Int)=c+2 from by lia,show c+2+((1:Nat):Int)=c+((([40,97,41]:List Nat).length:Nat):Int) from by simp;lia]
  rfl
 rw[if_neg e1,if_neg e1]
 by_cases e2:t.sort="string"
 ·rw[if_pos e2,if_pos e2,o.str e2,vP]
  show Tk.mk _ _ (.byt (dy [97,98])) _ _::_=_
  rw[show dy [97,98]=#[97,98] from by decide]
  rfl
 rw[if_neg e2,if_neg e2];rfl
theorem Cn{h:List Nat}(rest:List Pc)(r c:Int):eg (tP h::rest) r (c+1)=gF h r c::eg rest r (c+1+(h.length:Nat)):=by
 unfold tP gF
 by_cases e:h=cps "\"s\""
 ·rw[if_pos e,if_pos e,e,AL]
  show Tk.mk _ _ (.byt (dy [115])) _ _::_=_
  rw[show dy [115]=#[115] from by decide]
  rfl
 rw[if_neg e,if_neg e];rfl
theorem ql:∀ {ths:List Th},(∀ t∈ths,t∈ch)→∀ (rest:List Pc) (r c:Int),eg (cH ths++rest) r c=((qk ths c).map (LT.it r)).flatMap It.toks++(⟨")",")",.str ")",r,oz ths c⟩::eg rest r (oz ths c+1))
 | [],_,rest,r,c=>rfl
 | t::ths,ht,rest,r,c=>by
  have e:cH (t::ths)++rest=Pc.sp::(qZ t++(cH ths++rest)):=by simp[cH]
  rw[e]
  show eg (qZ t++(cH ths++rest)) r (c+(1:Nat))=_
  rw[Ci (ht t K5),ql (fun x hx=>ht x (K6 _ hx))]
  show(fN t r (c+1)).toks++_=((fN t r (c+1)).toks++((qk ths (c+1+(t.told.length:Nat))).map (LT.it r)).flatMap It.toks)++_
  rw[K0]
  rfl
theorem Cp{h:List Nat}{ths:List Th}(ht:∀ t∈ths,t∈ch)(rest:List Pc)(r c:Int):∃ ce,eg (wV h ths++rest) r c=(ug (z5 h ths r c) ce).toks++eg rest r (ir (wV h ths) c)∧jO (wV h ths) r=r:=by
 refine⟨oz ths (c+1+(h.length:Nat)),?_,?_⟩
 ·show Tk.mk _ _ _ _ _::eg (tP h::(cH ths++rest)) r (c+(1:Nat))=_
  rw[show c+((1:Nat):Int)=c+1 from rfl,Cn,ql ht]
  have ee:ir (wV h ths) c=oz ths (c+1+(h.length:Nat))+1:=by
   show ir (cH ths) ((tP h).col (c+(1:Nat)))=_
   have h1:(tP h).col (c+(1:Nat))=c+1+(h.length:Nat):=by
    have:=kC (h:=h)
    unfold tP at *
    by_cases e:h=cps "\"s\""
    ·rw[if_pos e] at *;show c+(1:Nat)+((Pc.st [115]).chars.length:Nat)=_;rw[this];rfl
    rw[if_neg e] at *;show c+(1:Nat)+((Pc.wd h).chars.length:Nat)=_;rw[this];rfl
   rw[h1]
   generalize c+1+(h.length:Nat)=d
   clear h1
   induction ths generalizing d with
   | nil=>rfl
   | cons t ths ih=>
   have e:cH (t::ths)=Pc.sp::(qZ t++cH ths):=by simp[cH]
   rw[e]
   show ir (qZ t++cH ths) (d+(1:Nat))=_
   rw[tT]
   have e2:ir (qZ t) (d+(1:Nat))=d+1+(t.told.length:Nat):=by
    have ot:=jb (ht t K5)
    unfold qZ
    by_cases e1:t.sort="branch"
    ·rw[if_pos e1,ot.br e1,vO,wU];show d+(1:Nat)+(1:Nat)+(1:Nat)+(1:Nat)=d+1+(3:Nat);lia
    rw[if_neg e1]
    by_cases e2:t.sort="string"
    ·rw[if_pos e2,ot.str e2,vP];rfl
    rw[if_neg e2];rfl
   rw[e2,ih (fun x hx=>ht x (K6 _ hx))]
   rfl
  rw[ee]
  show _=(Tk.mk _ _ _ _ _::(([It.leaf (gF h r c)]++(qk ths (c+1+(h.length:Nat))).map (LT.it r)).flatMap It.toks++[_]))++_
  rw[List.flatMap_append]
  simp[It.toks,ug,z5]
 show jO (tP h::cH ths) r=r
 have h1:∀ x:Int,(tP h).row x=x:=by intro x;unfold tP;split <;> rfl
 show jO (cH ths) ((tP h).row r)=r
 rw[h1]
 induction ths with
 | nil=>rfl
 | cons t ths ih=>
 have e:cH (t::ths)=Pc.sp::(qZ t++cH ths):=by simp[cH]
 rw[e]
 show jO (qZ t++cH ths) r=r
 rw[tS]
 have e2:jO (qZ t) r=r:=by
  unfold qZ
  split
  ·rfl
  split <;> rfl
 rw[e2]
 exact ih fun x hx=>ht x (K6 _ hx)
theorem pZ{ths:List Th}(ht:∀ t∈ths,t∈ch)(rest:List Pc):p7 (aE (cH ths++rest))=true:=by
 rw[dj,kZ ht]
 cases ths <;> rfl
theorem Eg:uP 59=false:=by decide
theorem Fb{t:Th}(ht:t∈ch){rest:List Pc}(hr:tf rest)(hs:p7 (aE rest)=true):tf (qZ t++rest):=by
 have o:=jb ht
 unfold qZ
 by_cases e1:t.sort="branch"
 ·rw[if_pos e1,wU]
  refine⟨?_,⟨by simp,by simp,by simp,?_,rfl⟩,trivial,hr⟩
  ·show List.take 1 (97::_)≠[59];simp
  intro k hk;simp at hk;subst hk;decide
 rw[if_neg e1]
 by_cases e2:t.sort="string"
 ·rw[if_pos e2]
  exact⟨⟨by decide,by decide,hs⟩,hr⟩
 rw[if_neg e2]
 obtain⟨a1,a2,a3,a4⟩:=o.word e1 e2
 exact⟨⟨a1,a2,by lia,a4,hs⟩,hr⟩
theorem wF:∀ {ths:List Th},(∀ t∈ths,t∈ch)→∀ {rest:List Pc},tf rest→tf (cH ths++rest)
 | [],_,rest,hr=>⟨trivial,hr⟩
 | t::ths,ht,rest,hr=>by
  have e:cH (t::ths)++rest=Pc.sp::(qZ t++(cH ths++rest)):=by simp[cH]
  rw[e]
  have ht':∀ x∈ths,x∈ch:=fun x hx=>ht x (K6 _ hx)
  exact⟨trivial,Fb (ht t K5) (wF ht' hr) (pZ ht' rest)⟩
theorem Fc{h:List Nat}{ths:List Th}(hh:h∈cY)(ht:∀ t∈ths,t∈ch){rest:List Pc}(hr:tf rest):tf (wV h ths++rest):=by
 have o:=AD hh
 have hs:=pZ ht rest
 have hk:=wF ht hr
 refine⟨?_,?_,hk⟩
 ·show List.take 1 ((tP h).chars++aE (cH ths++rest))≠[59]
  rw[kC]
  by_cases e:h=cps "\"s\""
  ·rw[e,AL];simp
  have hi:=o.idc e
  have hp:=o.pos
  cases h with
  | nil=>cases hp
  | cons k r=>
  intro q
  simp at q
  have:=(hi k K5).1
  rw[q,Eg] at this;cases this
 show(tP h).ok (aE (cH ths++rest))
 unfold tP
 by_cases e:h=cps "\"s\""
 ·rw[if_pos e];exact⟨by decide,by decide,hs⟩
 rw[if_neg e]
 refine⟨fun q=>?_,fun q=>?_,by have:=o.len;lia,fun k hk=>⟨(o.idc e k hk).1,o.asc k hk,(o.idc e k hk).2⟩,hs⟩
 ·have:=o.pos;rw[q] at this;simp at this
 have:=o.word e;rw[q] at this;revert this;decide
theorem Cz{h:List Nat}{ths:List Th}(hh:h∈cY)(ht:∀ t∈ths,t∈ch)(r c ce:Int):(ug (z5 h ths r c) ce).good:=by
 have o:=AD hh
 refine⟨rfl,fun i hi=>?_,rfl⟩
 have hi':i=.leaf (gF h r c)∨i∈(qk ths (c+1+(h.length:Nat))).map (LT.it r):=by
  rcases K2.mp hi with e | e
  ·exact .inl e
  exact .inr e
 rcases hi' with rfl | hi'
 ·show re (gF h r c)
  unfold gF
  by_cases e:h=cps "\"s\""
  ·rw[if_pos e];exact⟨by show(J0 "string")≠_;decide,by show(J0 "string")≠_;decide⟩
  rw[if_neg e,o.word e];exact⟨by show(J0 "word")≠_;decide,by show(J0 "word")≠_;decide⟩
 obtain⟨t,hm,rfl⟩:=V9.mp hi'
 have hth:t.th∈ch:=by
  have:∀ (ths:List Th) (c:Int),(∀ t∈ths,t∈ch)→∀ t∈qk ths c,t.th∈ch:=by
   intro ths
   induction ths with
   | nil=>intro c _ t h;cases h
   | cons x xs ih=>
   intro c hx t h
   rcases K2.mp h with rfl | h
   ·exact hx x K5
   exact ih _ (fun y hy=>hx y (K6 _ hy)) t h
  exact this ths _ ht t hm
 have ot:=jb hth
 show(fN t.th r t.place).good
 by_cases hn:t.th.sort="int"
 ·rw[eE ot hn];exact⟨by show(J0 "int")≠_;decide,by show(J0 "int")≠_;decide⟩
 unfold fN
 by_cases e1:t.th.sort="branch"
 ·rw[if_pos e1];exact⟨rfl,⟨by show(J0 "word")≠_;decide,by show(J0 "word")≠_;decide⟩,rfl⟩
 rw[if_neg e1]
 by_cases e2:t.th.sort="string"
 ·rw[if_pos e2];exact⟨by show(J0 "string")≠_;decide,by show(J0 "string")≠_;decide⟩
 rw[if_neg e2]
 have hs:=(ot.non hn e1 e2).2.1
 have hp:t.th.sort≠"("∧t.th.sort≠")":=by
  have ck:ch.all (fun t=>t.sort != "(" && t.sort != ")")=true:=by decide +kernel
  have:=mV ck hth
  simpa using this
 exact⟨by show(a7 t.th.told).1≠_;rw[hs];exact hp.1,by show(a7 t.th.told).1≠_;rw[hs];exact hp.2⟩
theorem Cb{ths:List Th}{c:Int}(h:∀ t∈ths,t∈ch):∀ t∈qk ths c,t.th∈ch:=by
 induction ths generalizing c with
 | nil=>intro t h;cases h
 | cons x xs ih=>
 intro t ht
 rcases K2.mp ht with rfl | ht
 ·exact h x K5
 exact ih (fun y hy=>h y (K6 _ hy)) t ht
theorem rM{ths:List Th}{c:Int}:(qk ths c).length=ths.length:=by
 induction ths generalizing c with
 | nil=>rfl
 | cons x xs ih=>show(qk xs _).length+1=_;rw[ih];rfl
theorem D1{h:List Nat}{ths:List Th}{r c:Int}(hh:h∈cY)(ht:∀ t∈ths,t∈ch)(hl:ths.length≤2):(z5 h ths r c).ok:=⟨hh,Cb ht,by show(qk ths _).length≤2;rw[rM];exact hl⟩
theorem wJ:∀ (a b:List Th) (c:Int),qk (a++b) c=qk a c++qk b (oz a c)
 | [],b,c=>rfl
 | t::a,b,c=>by show _::qk (a++b) _=_::(qk a _++_);rw[wJ a b];rfl
theorem tR:∀ (ths:List Th) (c:Int),oz ths c=c+((ths.flatMap fun t=>32::t.told).length:Nat)
 | [],c=>by simp[oz]
 | t::ths,c=>by show oz ths _=_;rw[tR ths];simp;lia
structure Sg where
 a:Nat
 b:Nat
 h:List Nat
 ths:List Th
structure Sg.ok(s:Sg):Prop where
 a1:1≤s.a
 a3:s.a≤3
 b3:s.b≤3
 h:s.h∈cY
 t:∀ t∈s.ths,t∈ch
 l:s.ths.length≤2
noncomputable def ke(s:Sg):List Pc:=List.replicate s.a .nl++(List.replicate s.b .sp++wV s.h s.ths)
noncomputable def fq(ss:List Sg):List Pc:=ss.flatMap ke
noncomputable def gj:List Sg→Int→List LB
 | [],_=>[]
 | s::ss,r=>z5 s.h s.ths (r+s.a) ((s.b:Int)+1)::gj ss (r+s.a)
noncomputable def nb:List Sg→Int
 | []=>0
 | s::ss=>s.a+nb ss
theorem qp:∀ (ss:List Sg) (s:Sg) (r:Int),gj (ss++[s]) r=gj ss r++[z5 s.h s.ths (r+nb ss+s.a) ((s.b:Int)+1)]
 | [],s,r=>by simp[gj,nb]
 | x::ss,s,r=>by
  show _::gj (ss++[s]) _=_::(gj ss _++_)
  rw[qp ss s]
  rw[show r + ↑x.a+nb ss + ↑s.a=r+nb (x::ss) + ↑s.a from by show _=r+(↑x.a+nb ss)+_;lia]
theorem kA:∀ (ss:List Sg) (r:Int),(gj ss r).length=ss.length
 | [],_=>rfl
 | _::ss,r=>by show(gj ss _).length+1=_;rw[kA];rfl
theorem j9{s:Sg}:aE (ke s)=List.replicate s.a 10++List.replicate s.b 32++aE (wV s.h s.ths):=by
 unfold ke
 rw[dj,dj,yx,yw,K0]
noncomputable def Ff(t:Th):Bool:=!t.told.contains 10
theorem zX:ch.all Ff=true:=by decide +kernel
theorem AE:cY.all (fun h=>!h.contains 10)=true:=by decide +kernel
theorem CW{h:List Nat}{ths:List Th}(hh:h∈cY)(ht:∀ t∈ths,t∈ch):10∉aE (wV h ths):=by
 rw[kG ht]
 intro hm
 simp only[K2,Q1,List.mem_flatMap,J8,or_false] at hm
 rcases hm with e | e | ⟨t,hm,e | e⟩ | e
 ·cases e
 ·have:=W8.mp AE h hh
  simp[e] at this
 ·cases e
 ·have:=mV zX (ht t hm)
  unfold Ff at this
  simp[e] at this
 cases e
theorem CP{s:Sg}(ok:s.ok):cnt 10 (aE (ke s))=s.a:=by
 rw[j9,cnt_append,cnt_append,ua,oD (l:=List.replicate s.b 32) (by simp),oD (CW ok.h ok.t)];lia
theorem ub:∀ {ss:List Sg},(∀ s∈ss,s.ok)→cnt 10 (aE (fq ss))=nb ss
 | [],_=>rfl
 | s::ss,h=>by
  show cnt 10 (aE (ke s++fq ss))=_
  rw[dj,cnt_append,CP (h s K5),ub fun x hx=>h x (K6 _ hx)]
  rfl
theorem zN(ss:List Sg)(s:Sg):fq (ss++[s])=fq ss++ke s:=by unfold fq;rw[List.flatMap_append];simp
noncomputable def BL:List Br→List LB→Prop
 | [],[]=>True
 | x::xs,b::bs=>(∃ ce,x=ug b ce)∧BL xs bs
 | _,_=>False
theorem Ak{s:Sg}(ok:s.ok)(rest:List Pc)(r c:Int):∃ ce,eg (ke s++rest) r c=(ug (z5 s.h s.ths (r+s.a) ((s.b:Int)+1)) ce).toks++eg rest (r+s.a) (ir (wV s.h s.ths) ((s.b:Int)+1)):=by
 obtain⟨ce,e,er⟩:=Cp (h:=s.h) ok.t rest (r+s.a) ((s.b:Int)+1)
 refine⟨ce,?_⟩
 unfold ke
 rw[K0,K0,n8,Ck,CC,CE _ _ (by have:=ok.a1;lia),n8,Cj,CA,CD]
 rw[show(1:Int)+(s.b:Int)=(s.b:Int)+1 from by lia,List.nil_append,List.nil_append]
 exact e
theorem qm:∀ {ss:List Sg},(∀ s∈ss,s.ok)→∀ (r c:Int),∃ brs,eg (fq ss) r c=brs.flatMap Br.toks∧BL brs (gj ss r)∧(∀ b∈brs,b.good∧b.items.length≤50)∧brs.length=ss.length
 | [],_,r,c=>⟨[],rfl,trivial,(fun _ h=>nomatch h),rfl⟩
 | s::ss,h,r,c=>by
  have ok:=h s K5
  obtain⟨ce,e⟩:=Ak ok (fq ss) r c
  obtain⟨brs,e2,h2,h3,h4⟩:=qm (fun x hx=>h x (K6 _ hx)) (r+s.a) (ir (wV s.h s.ths) ((s.b:Int)+1))
  refine⟨ug (z5 s.h s.ths (r+s.a) ((s.b:Int)+1)) ce::brs,?_,⟨⟨ce,rfl⟩,h2⟩,?_,by simp[h4]⟩
  ·show eg (ke s++fq ss) r c=_
   rw[e,e2];rfl
  intro b hb
  rcases K2.mp hb with rfl | hb
  ·refine⟨Cz ok.h ok.t _ _ _,?_⟩
   show(List.map _ (qk s.ths _)).length+1≤50
   rw[K8,rM];have:=ok.l;lia
  exact h3 b hb
theorem nr:∀ {ss:List Sg},(∀ s∈ss,s.ok)→tf (fq ss)
 | [],_=>trivial
 | s::ss,h=>by
  have ok:=h s K5
  show tf (ke s++fq ss)
  unfold ke
  rw[K0,K0]
  refine rj _ _ (rj _ _ (Fc ok.h ok.t (nr fun x hx=>h x (K6 _ hx))) ?_) ?_
  ·intro p hp;exact .inr (List.eq_of_mem_replicate hp)
  intro p hp;exact .inl (List.eq_of_mem_replicate hp)
theorem zM:∀ {ps:List Pc},tf ps→ps.length≤(aE ps).length
 | [],_=>Nat.le_refl _
 | p::ps,h=>by
  have h1:=jS h.1
  have h2:=zM h.2
  show ps.length+1≤(p.chars++aE ps).length
  rw[V6];lia
theorem B0{s:Sg}(ok:s.ok):(aE (ke s)).length≤110:=by
 rw[j9,kG ok.t]
 have h1:∀ t∈s.ths,t.told.length≤30:=fun t ht=>(jb (ok.t t ht)).len
 have h2:=(AD ok.h).len
 have h3:=ok.a3
 have h4:=ok.b3
 have h5:(s.ths.flatMap fun t=>32::t.told).length≤62:=J7 (vG h1) (Nat.mul_le_mul_left 31 ok.l)
 simp at h5 ⊢;lia
theorem nh:∀ {ss:List Sg},(∀ s∈ss,s.ok)→(aE (fq ss)).length≤110*ss.length
 | [],_=>by simp[fq,aE]
 | s::ss,h=>by
  have h1:=B0 (h s K5)
  have h2:=nh fun x hx=>h x (K6 _ hx)
  show(aE (ke s++fq ss)).length≤_
  rw[dj,V6,List.length_cons];lia
theorem Ao:∀ {ss:List Sg},(∀ s∈ss,s.ok)→∀ (r:Int),∀ b∈gj ss r,b.ok
 | [],_,r,b,hb=>nomatch hb
 | s::ss,h,r,b,hb=>by
  have ok:=h s K5
  rcases K2.mp hb with rfl | hb
  ·exact D1 ok.h ok.t ok.l
  exact Ao (fun x hx=>h x (K6 _ hx)) _ b hb
theorem xE(ns:List Int):∃ ms:List Int,ft (ns.map V.int) none none (some (-1))=ms.map V.int∧ms.length≤ns.length:=by
 have key:∀ l:List Nat,∃ ms:List Int,l.filterMap ((ns.map V.int)[·]?)=ms.map V.int∧ms.length≤l.length:=by
  intro l
  refine⟨l.filterMap (ns[·]?),?_,List.length_filterMap_le _ _⟩
  rw[List.map_filterMap]
  congr 1
  funext i
  simp
 unfold ft
 obtain⟨ms,e,hl⟩:=key (sliceRange (sliceBounds none none (some (-1)) (ns.map V.int).length).1 (sliceBounds none none (some (-1)) (ns.map V.int).length).2.1 (sliceBounds none none (some (-1)) (ns.map V.int).length).2.2)
 refine⟨ms,e,J7 hl ?_⟩
 have hb:sliceBounds none none (some (-1)) (ns.map V.int).length=(((ns.map V.int).length:Int)-1,-1,-1):=by rfl
 rw[hb]
 unfold sliceRange
 rw[K8,List.length_range,K8]
 simp
 split <;> lia
noncomputable def fj:List Str:=["undefined element","undefined","un","","uninitialized element","uninitialized element 2"]
noncomputable def He(near far:Str):Bool:=
 let many:Int:=if((far.length:Int)<(near.length:Int)) then far.length else near.length
 (Txt.startswith near far || Txt.startswith far near)==(Txt.slice near none (some many)==Txt.slice far none (some many))
theorem CQ:fj.all (fun n=>fj.all (He n))=true:=by decide +kernel
noncomputable abbrev rO:List Str:=looseW hd.view_39 [J0 "KIND_NAMES",J0 "HEAP_NAMES",J0 "ID_SIGNS",J0 "ESCAPES",J0 "is_token",J0 "number_in_lexer",J0 "number_in_wanted"]
noncomputable abbrev GG:cq:={ prog:=PySem.Challenge.rw_nm0146_01.row.prog,view:=topProg,loose:=rO++(recsOf hd.view_39).map (·.name)++(litsOf hd.view_39).map (·.1)++(clssOf hd.view_39 rO).map (·.name),K:=Y6,pn:=[508,515]}
theorem jq:∀ P,nsIn (Y6 P) J3 "unsigned" = some (some (.ref 21)):=by intro P;kernel_rfl
theorem lA:∀ P,nsIn (Y6 P) J3 "WasmFault" = some (some (.ref 38)):=by intro P;kernel_rfl
theorem bR:∀ P,nsIn (Y6 P) J3 "BadText" = some (some (.ref 58)):=by intro P;kernel_rfl
theorem qJ:∀ P,nsIn (Y6 P) J3 "LeftOut" = some (some (.ref 77)):=by intro P;kernel_rfl
theorem iB:∀ P,nsIn (Y6 P) J3 "is_ref" = some (some (.ref 100)):=by intro P;kernel_rfl
theorem lx:∀ P,nsIn (Y6 P) J3 "kind_name" = some (some (.ref 107)):=by intro P;kernel_rfl
theorem qH:∀ P,nsIn (Y6 P) J3 "heap_of" = some (some (.ref 114)):=by intro P;kernel_rfl
theorem yK:∀ P,nsIn (Y6 P) J3 "utf8_of" = some (some (.ref 121)):=by intro P;kernel_rfl
theorem eS:∀ P,nsIn (Y6 P) J3 "Token" = some (some (.ref 139)):=by intro P;kernel_rfl
theorem oR:∀ P,nsIn (Y6 P) J3 "Branch" = some (some (.ref 167)):=by intro P;kernel_rfl
theorem aP:∀ P,nsIn (Y6 P) J3 "is_token" = some (some (.ref 179)):=by intro P;kernel_rfl
theorem oO:∀ P,nsIn (Y6 P) J3 "whole_of" = some (some (.ref 186)):=by intro P;kernel_rfl
theorem c9:∀ P,nsIn (Y6 P) J3 "number_in_lexer" = some (some (.ref 193)):=by intro P;kernel_rfl
theorem pP:∀ P,nsIn (Y6 P) J3 "sorted_word" = some (some (.ref 200)):=by intro P;kernel_rfl
theorem C0:∀ P,nsIn (Y6 P) J3 "Lexer" = some (some (.ref 295)):=by intro P;kernel_rfl
theorem Bb:∀ P,nsIn (Y6 P) J3 "tokens" = some (some (.ref 306)):=by intro P;kernel_rfl
theorem CZ:∀ P,nsIn (Y6 P) J3 "trees" = some (some (.ref 313)):=by intro P;kernel_rfl
theorem oQ:∀ P,nsIn (Y6 P) J3 "int_of" = some (some (.ref 320)):=by intro P;kernel_rfl
theorem oP:∀ P,nsIn (Y6 P) J3 "u32_of" = some (some (.ref 327)):=by intro P;kernel_rfl
theorem aL:∀ P,nsIn (Y6 P) J3 "head_of" = some (some (.ref 335)):=by intro P;kernel_rfl
theorem dN:∀ P,nsIn (Y6 P) J3 "refused" = some (some (.ref 342)):=by intro P;kernel_rfl
theorem lv:∀ P,nsIn (Y6 P) J3 "octets_in" = some (some (.ref 349)):=by intro P;kernel_rfl
theorem bw:∀ P,nsIn (Y6 P) J3 "parts_of" = some (some (.ref 356)):=by intro P;kernel_rfl
theorem sr:∀ P,nsIn (Y6 P) J3 "shown" = some (some (.ref 363)):=by intro P;kernel_rfl
theorem lu:∀ P,nsIn (Y6 P) J3 "shown_all" = some (some (.ref 368)):=by intro P;kernel_rfl
theorem gt:∀ P,nsIn (Y6 P) J3 "Wanted" = some (some (.ref 399)):=by intro P;kernel_rfl
theorem cS:∀ P,nsIn (Y6 P) J3 "number_in_wanted" = some (some (.ref 410)):=by intro P;kernel_rfl
theorem qI:∀ P,nsIn (Y6 P) J3 "heap_in" = some (some (.ref 417)):=by intro P;kernel_rfl
theorem wc:∀ P,nsIn (Y6 P) J3 "left_out" = some (some (.ref 424)):=by intro P;kernel_rfl
theorem bL:∀ P,nsIn (Y6 P) J3 "constant_in" = some (some (.ref 431)):=by intro P;kernel_rfl
theorem iA:∀ P,nsIn (Y6 P) J3 "wanted_in" = some (some (.ref 438)):=by intro P;kernel_rfl
theorem uv:∀ P,nsIn (Y6 P) J3 "does_tell" = some (some (.ref 445)):=by intro P;kernel_rfl
theorem bc:∀ P,nsIn (Y6 P) J3 "_law_next" = some (some (.ref 452)):=by intro P;kernel_rfl
theorem pR:∀ P,nsIn (Y6 P) J3 "_law_things" = some (some (.ref 457)):=by intro P;kernel_rfl
theorem pS:∀ P,nsIn (Y6 P) J3 "_law_branch" = some (some (.ref 464)):=by intro P;kernel_rfl
theorem dp:∀ P,nsIn (Y6 P) J3 "_law_whole" = some (some (.ref 471)):=by intro P;kernel_rfl
theorem cV:∀ P,nsIn (Y6 P) J3 "_law_constant" = some (some (.ref 478)):=by intro P;kernel_rfl
theorem pQ:∀ P,nsIn (Y6 P) J3 "_law_wanted" = some (some (.ref 485)):=by intro P;kernel_rfl
theorem iC:∀ P,nsIn (Y6 P) J3 "_law_told" = some (some (.ref 492)):=by intro P;kernel_rfl
theorem su:∀ P,nsIn (Y6 P) J3 "_law_heard" = some (some (.ref 499)):=by intro P;kernel_rfl
theorem uw:∀ P,nsIn (Y6 P) J3 "_law_fits" = some (some (.ref 506)):=by intro P;kernel_rfl
theorem my:∀ P,nsIn (Y6 P) J3 "_law_is_right" = some (some (.ref 513)):=by intro P;kernel_rfl
theorem sv:∀ P,nsIn (Y6 P) J3 "KIND_NAMES" = some (some (.ref 92)):=by intro P;kernel_rfl
theorem bY:∀ P,nsIn (Y6 P) J3 "HEAP_NAMES" = some (some (.ref 93)):=by intro P;kernel_rfl
theorem gu:∀ P,nsIn (Y6 P) J3 "LEFT_CONSTANTS" = some (some (.ref 328)):=by intro P;kernel_rfl
theorem EE:∀ P,keepIn (Y6 P) (.ref 21)=true:=by intro P;kernel_rfl
theorem mz:∀ P,keepIn (Y6 P) (.ref 58)=true:=by intro P;kernel_rfl
theorem GP:∀ P,keepIn (Y6 P) (.ref 77)=true:=by intro P;kernel_rfl
theorem uB:∀ P,keepIn (Y6 P) (.ref 100)=true:=by intro P;kernel_rfl
theorem DG:∀ P,keepIn (Y6 P) (.ref 107)=true:=by intro P;kernel_rfl
theorem DF:∀ P,keepIn (Y6 P) (.ref 114)=true:=by intro P;kernel_rfl
theorem Gi:∀ P,keepIn (Y6 P) (.ref 121)=true:=by intro P;kernel_rfl
theorem xb:∀ P,keepIn (Y6 P) (.ref 139)=true:=by intro P;kernel_rfl
theorem Gg:∀ P,keepIn (Y6 P) (.ref 167)=true:=by intro P;kernel_rfl
theorem dC:∀ P,keepIn (Y6 P) (.ref 179)=true:=by intro P;kernel_rfl
theorem DE:∀ P,keepIn (Y6 P) (.ref 186)=true:=by intro P;kernel_rfl
theorem xa:∀ P,keepIn (Y6 P) (.ref 193)=true:=by intro P;kernel_rfl
theorem Gf:∀ P,keepIn (Y6 P) (.ref 200)=true:=by intro P;kernel_rfl
theorem Gb:∀ P,keepIn (Y6 P) (.ref 295)=true:=by intro P;kernel_rfl
theorem Ga:∀ P,keepIn (Y6 P) (.ref 306)=true:=by intro P;kernel_rfl
theorem F9:∀ P,keepIn (Y6 P) (.ref 313)=true:=by intro P;kernel_rfl
theorem Bq:∀ P,keepIn (Y6 P) (.ref 320)=true:=by intro P;kernel_rfl
theorem Bp:∀ P,keepIn (Y6 P) (.ref 327)=true:=by intro P;kernel_rfl
theorem cW:∀ P,keepIn (Y6 P) (.ref 335)=true:=by intro P;kernel_rfl
theorem lC:∀ P,keepIn (Y6 P) (.ref 342)=true:=by intro P;kernel_rfl
theorem DC:∀ P,keepIn (Y6 P) (.ref 349)=true:=by intro P;kernel_rfl
theorem fH:∀ P,keepIn (Y6 P) (.ref 356)=true:=by intro P;kernel_rfl
theorem Bo:∀ P,keepIn (Y6 P) (.ref 363)=true:=by intro P;kernel_rfl
theorem DB:∀ P,keepIn (Y6 P) (.ref 368)=true:=by intro P;kernel_rfl
theorem qO:∀ P,keepIn (Y6 P) (.ref 399)=true:=by intro P;kernel_rfl
theorem w8:∀ P,keepIn (Y6 P) (.ref 410)=true:=by intro P;kernel_rfl
theorem DA:∀ P,keepIn (Y6 P) (.ref 417)=true:=by intro P;kernel_rfl
theorem F5:∀ P,keepIn (Y6 P) (.ref 424)=true:=by intro P;kernel_rfl
theorem jY:∀ P,keepIn (Y6 P) (.ref 431)=true:=by intro P;kernel_rfl
theorem Bm:∀ P,keepIn (Y6 P) (.ref 438)=true:=by intro P;kernel_rfl
theorem F4:∀ P,keepIn (Y6 P) (.ref 445)=true:=by intro P;kernel_rfl
theorem fG:∀ P,keepIn (Y6 P) (.ref 452)=true:=by intro P;kernel_rfl
theorem F3:∀ P,keepIn (Y6 P) (.ref 457)=true:=by intro P;kernel_rfl
theorem F2:∀ P,keepIn (Y6 P) (.ref 464)=true:=by intro P;kernel_rfl
theorem qN:∀ P,keepIn (Y6 P) (.ref 471)=true:=by intro P;kernel_rfl
theorem uA:∀ P,keepIn (Y6 P) (.ref 478)=true:=by intro P;kernel_rfl
theorem F1:∀ P,keepIn (Y6 P) (.ref 485)=true:=by intro P;kernel_rfl
theorem Bl:∀ P,keepIn (Y6 P) (.ref 492)=true:=by intro P;kernel_rfl
theorem F0:∀ P,keepIn (Y6 P) (.ref 499)=true:=by intro P;kernel_rfl
theorem FZ:∀ P,keepIn (Y6 P) (.ref 506)=true:=by intro P;kernel_rfl
theorem FY:∀ P,keepIn (Y6 P) (.ref 513)=true:=by intro P;kernel_rfl
theorem Bc:∀ P,nsIn (Y6 P) J3 "DIGITS" = some (some (.str "0123456789" 362)):=by intro P;kernel_rfl
theorem gI:∀ P,nsIn (Y6 P) J3 "HEX_DIGITS" = some (some (.str "0123456789abcdefABCDEF" 364)):=by intro P;kernel_rfl
theorem gZ:∀ P,nsIn (Y6 P) J3 "SMALL_LETTERS" = some (some (.str "abcdefghijklmnopqrstuvwxyz" 366)):=by intro P;kernel_rfl
theorem gH:∀ P,nsIn (Y6 P) J3 "ID_SIGNS" = some (some (.str "0123456789abcdefghijklmnopqrstuvwxyzABCDEFGHIJKLMNOPQRSTUVWXYZ!#$%&'*+-./:<=>?@\\^_`|~" 373)):=by intro P;kernel_rfl
theorem jU:∀ P,nsIn (Y6 P) J3 "LONE_SIGNS" = some (some (.str ",;[]{}" 375)):=by intro P;kernel_rfl
theorem gv:∀ P,nsIn (Y6 P) J3 "BLANKS" = some (some (.str " \t\n\r" 377)):=by intro P;kernel_rfl
theorem Dy:∀ P,nsIn (Y6 P) J3 "I32" = some (some (.int (-1) 301)):=by intro P;kernel_rfl
theorem Dx:∀ P,nsIn (Y6 P) J3 "I64" = some (some (.int (-2) 304)):=by intro P;kernel_rfl
theorem yL:∀ P,nsIn (Y6 P) J3 "FUNCREF" = some (some (.int (-16) 307)):=by intro P;kernel_rfl
theorem fT:∀ P,nsIn (Y6 P) J3 "EXTERNREF" = some (some (.int (-17) 310)):=by intro P;kernel_rfl
theorem aM:∀ P,nsIn (Y6 P) J3 "len" = some none:=by intro P;kernel_rfl
theorem aN:W9 "len" = some (.builtin "len"):=by kernel_rfl
theorem aU:∀ P,nsIn (Y6 P) J3 "isinstance" = some none:=by intro P;kernel_rfl
theorem aV:W9 "isinstance" = some (.builtin "isinstance"):=by kernel_rfl
theorem Dw:∀ P,nsIn (Y6 P) J3 "ord" = some none:=by intro P;kernel_rfl
theorem DK:W9 "ord" = some (.builtin "ord"):=by kernel_rfl
theorem FN:∀ P,nsIn (Y6 P) J3 "min" = some none:=by intro P;kernel_rfl
theorem Gl:W9 "min" = some (.builtin "min"):=by kernel_rfl
theorem FP:∀ P,nsIn (Y6 P) J3 "all" = some none:=by intro P;kernel_rfl
theorem Gn:W9 "all" = some (.builtin "all"):=by kernel_rfl
theorem jT:∀ P,nsIn (Y6 P) J3 "range" = some none:=by intro P;kernel_rfl
theorem j6:W9 "range" = some (.type "range"):=by kernel_rfl
theorem ly:∀ P,nsIn (Y6 P) J3 "bytearray" = some none:=by intro P;kernel_rfl
theorem lH:W9 "bytearray" = some (.type "bytearray"):=by kernel_rfl
theorem wZ:∀ P,nsIn (Y6 P) J3 "bytes" = some none:=by intro P;kernel_rfl
theorem xi:W9 "bytes" = some (.type "bytes"):=by kernel_rfl
theorem qG:∀ P,nsIn (Y6 P) J3 "str" = some none:=by intro P;kernel_rfl
theorem qU:W9 "str" = some (.type "str"):=by kernel_rfl
theorem qF:∀ P,nsIn (Y6 P) J3 "zip" = some none:=by intro P;kernel_rfl
theorem qT:W9 "zip" = some (.type "zip"):=by kernel_rfl
theorem iM:∀ P,nsIn (Y6 P) J3 "tuple" = some none:=by intro P;kernel_rfl
theorem iR:W9 "tuple" = some (.type "tuple"):=by kernel_rfl
theorem lB:∀ P,nsIn (Y6 P) J3 "Exception" = some none:=by intro P;kernel_rfl
theorem lI:W9 "Exception" = some (.type "Exception"):=by kernel_rfl
theorem cz:∀ P,cG (Y6 P) 139 "sort" = true:=by intro P;kernel_rfl
theorem v7:∀ P,d3 (Y6 P) 139 "sort" = true:=by intro P;kernel_rfl
theorem bK:∀ P,cG (Y6 P) 139 "text" = true:=by intro P;kernel_rfl
theorem v0:∀ P,d3 (Y6 P) 139 "text" = true:=by intro P;kernel_rfl
theorem aX:∀ P,cG (Y6 P) 139 "value" = true:=by intro P;kernel_rfl
theorem ur:∀ P,d3 (Y6 P) 139 "value" = true:=by intro P;kernel_rfl
theorem cX:∀ P,cG (Y6 P) 139 "row" = true:=by intro P;kernel_rfl
theorem yF:∀ P,d3 (Y6 P) 139 "row" = true:=by intro P;kernel_rfl
theorem bN:∀ P,cG (Y6 P) 139 "column" = true:=by intro P;kernel_rfl
theorem so:∀ P,d3 (Y6 P) 139 "column" = true:=by intro P;kernel_rfl
theorem aW:∀ P,cG (Y6 P) 167 "items" = true:=by intro P;kernel_rfl
theorem uq:∀ P,d3 (Y6 P) 167 "items" = true:=by intro P;kernel_rfl
theorem iS:∀ P,cG (Y6 P) 167 "row" = true:=by intro P;kernel_rfl
theorem yE:∀ P,d3 (Y6 P) 167 "row" = true:=by intro P;kernel_rfl
theorem gU:∀ P,cG (Y6 P) 167 "column" = true:=by intro P;kernel_rfl
theorem sm:∀ P,d3 (Y6 P) 167 "column" = true:=by intro P;kernel_rfl
theorem dL:∀ P,cG (Y6 P) 295 "text" = true:=by intro P;kernel_rfl
theorem vZ:∀ P,d3 (Y6 P) 295 "text" = true:=by intro P;kernel_rfl
theorem cO:∀ P,cG (Y6 P) 295 "at" = true:=by intro P;kernel_rfl
theorem oN:∀ P,d3 (Y6 P) 295 "at" = true:=by intro P;kernel_rfl
theorem fg:∀ P,cG (Y6 P) 295 "row" = true:=by intro P;kernel_rfl
theorem qC:∀ P,d3 (Y6 P) 295 "row" = true:=by intro P;kernel_rfl
theorem du:∀ P,cG (Y6 P) 295 "column" = true:=by intro P;kernel_rfl
theorem gG:∀ P,d3 (Y6 P) 295 "column" = true:=by intro P;kernel_rfl
theorem eI:∀ P,cG (Y6 P) 295 "found" = true:=by intro P;kernel_rfl
theorem uo:∀ P,d3 (Y6 P) 295 "found" = true:=by intro P;kernel_rfl
theorem ay:∀ P,cG (Y6 P) 399 "kind" = true:=by intro P;kernel_rfl
theorem vY:∀ P,d3 (Y6 P) 399 "kind" = true:=by intro P;kernel_rfl
theorem cg:∀ P,cG (Y6 P) 399 "value" = true:=by intro P;kernel_rfl
theorem um:∀ P,d3 (Y6 P) 399 "value" = true:=by intro P;kernel_rfl
theorem bu:∀ P,cG (Y6 P) 399 "is_any" = true:=by intro P;kernel_rfl
theorem sj:∀ P,d3 (Y6 P) 399 "is_any" = true:=by intro P;kernel_rfl
theorem wh:∀ P,eJ (Y6 P) 167 "head" 164=true:=by intro P;kernel_rfl
theorem Gh:∀ P,keepIn (Y6 P) (.ref 164)=true:=by intro P;kernel_rfl
theorem aQ:∀ P,eJ (Y6 P) 295 "here" 221=true:=by intro P;kernel_rfl
theorem dB:∀ P,keepIn (Y6 P) (.ref 221)=true:=by intro P;kernel_rfl
theorem cE:∀ P,eJ (Y6 P) 295 "starts" 228=true:=by intro P;kernel_rfl
theorem lE:∀ P,keepIn (Y6 P) (.ref 228)=true:=by intro P;kernel_rfl
theorem dk:∀ P,eJ (Y6 P) 295 "step" 243=true:=by intro P;kernel_rfl
theorem lD:∀ P,keepIn (Y6 P) (.ref 243)=true:=by intro P;kernel_rfl
theorem sy:∀ P,eJ (Y6 P) 295 "string" 278=true:=by intro P;kernel_rfl
theorem Ge:∀ P,keepIn (Y6 P) (.ref 278)=true:=by intro P;kernel_rfl
theorem qM:∀ P,eJ (Y6 P) 295 "run" 285=true:=by intro P;kernel_rfl
theorem DD:∀ P,keepIn (Y6 P) (.ref 285)=true:=by intro P;kernel_rfl
theorem uz:∀ P,eJ (Y6 P) 295 "whole" 292=true:=by intro P;kernel_rfl
theorem Gc:∀ P,keepIn (Y6 P) (.ref 292)=true:=by intro P;kernel_rfl
theorem wg:∀ P,eJ (Y6 P) 399 "fits" 389=true:=by intro P;kernel_rfl
theorem F7:∀ P,keepIn (Y6 P) (.ref 389)=true:=by intro P;kernel_rfl
theorem wf:∀ P,eJ (Y6 P) 399 "text" 396=true:=by intro P;kernel_rfl
theorem F6:∀ P,keepIn (Y6 P) (.ref 396)=true:=by intro P;kernel_rfl
theorem EB:∀ P,kP (Y6 P) 139 136=true:=by intro P;kernel_rfl
theorem EA:∀ P,kP (Y6 P) 167 157=true:=by intro P;kernel_rfl
theorem Ez:∀ P,kP (Y6 P) 295 214=true:=by intro P;kernel_rfl
theorem Ey:∀ P,kP (Y6 P) 399 382=true:=by intro P;kernel_rfl
theorem yH:∀ P,fD (Y6 P) 58 [58,38] (J0 "why")=true:=by intro P;kernel_rfl
theorem yR:∀ P,iG (Y6 P) 58 "why" = true:=by intro P;kernel_rfl
theorem yI:∀ P,fD (Y6 P) 58 [58,38] (J0 "row")=true:=by intro P;kernel_rfl
theorem yS:∀ P,iG (Y6 P) 58 "row" = true:=by intro P;kernel_rfl
theorem sq:∀ P,fD (Y6 P) 58 [58,38] (J0 "column")=true:=by intro P;kernel_rfl
theorem sC:∀ P,iG (Y6 P) 58 "column" = true:=by intro P;kernel_rfl
theorem yG:∀ P,fD (Y6 P) 77 [77,38] (J0 "why")=true:=by intro P;kernel_rfl
theorem yQ:∀ P,iG (Y6 P) 77 "why" = true:=by intro P;kernel_rfl
theorem A9:∀ P,fD (Y6 P) 77 [77,38] (J0 "at")=true:=by intro P;kernel_rfl
theorem Bt:∀ P,iG (Y6 P) 77 "at" = true:=by intro P;kernel_rfl
theorem FV:∀ P,mL (Y6 P) 58 55=true:=by intro P;kernel_rfl
theorem ek:∀ P,mI (Y6 P) 58=true:=by intro P;kernel_rfl
theorem FU:∀ P,mL (Y6 P) 77 74=true:=by intro P;kernel_rfl
theorem FJ:∀ P,mI (Y6 P) 77=true:=by intro P;kernel_rfl
theorem wy:∀ P,codeHdIn (Y6 P) 512 508=true:=by intro P;kernel_rfl
theorem wx:∀ P,codeHdIn (Y6 P) 517 515=true:=by intro P;kernel_rfl
theorem xe:∀ P,BJ (Y6 P) 38 "__init__" 35=true:=by intro P;kernel_rfl
theorem xf:∀ P,findCls (Y6 P) (.ref 38) (.type "type") (J0 "__init__")=some (.val (.ref 35)):=by intro P;kernel_rfl
theorem F8:∀ P,keepIn (Y6 P) (.ref 35)=true:=by intro P;kernel_rfl
theorem xc:∀ P,findCls (Y6 P) (.type "Exception") (.type "type") (J0 "__init__")=some (.val (.builtin "Exception.__init__")):=by intro P;kernel_rfl
theorem sB:∀ P,isIn (Y6 P) (.ref 139) 139=true:=by intro P;kernel_rfl
theorem EF:∀ P,isIn (Y6 P) (.ref 167) 167=true:=by intro P;kernel_rfl
theorem CY:∀ P,wX (Y6 P) 139 167=true:=by intro P;kernel_rfl
theorem CX:∀ P,wX (Y6 P) 167 139=true:=by intro P;kernel_rfl
theorem C2:eV [.ref 38,.type "Exception",.type "BaseException",.type "object"]:=⟨by decide,by decide,by decide⟩
section
variable {G:cq}{dd:Nat}{fn:bW}{ls:List (Str×V)}{H H₁ H' l:List O}{f v a b:V}{args:List V}{i j:Nat}{x y:O}
theorem fW(h:Co G dd f args H v H₁)(e:H₁=H'):Co G dd f args H v H':=e▸h
theorem Co.up(h:Co G dd f args H v H'){d:Nat}(hd:dd≤d):Co G d f args H v H':=fun c A s ls ρ f' vs R ok=>h c A s ls ρ f' vs R (ok.low (by lia))
theorem lr{e k k' H₁}(h:Te G dd fn e ls H k H₁)(hk:k=k'):Te G dd fn e ls H k' H₁:=hk▸h
theorem dZ{k k'}(h:Tv G dd v H k)(hk:k=k'):Tv G dd v H k':=hk▸h
theorem dQ{op k k'}(h:Cm G dd op a b H k)(hk:k=k'):Cm G dd op a b H k':=hk▸h
theorem a9:BO G dd fn none ls H none H:=rfl
theorem aZ{e k H₁}(h:Ev G dd fn e ls H (.int k) H₁):BO G dd fn (some e) ls H (some k) H₁:=h
theorem sF{x k pos}:Ev G dd fn (.Constant (.bytes x) k pos) ls H (.byt x.toArray) H:=fun c s ρ Q E _ _ R hQ=>
 PySem.W.Constant_bytes (hQ ρ _ _ (J2 _) R.tok ⟨_,rfl⟩)
theorem cR(h:i<H.length):(H.set i x)[i]?=some x:=Q8 h
theorem AH(hn:j≠i)(h:H[i]?=some y):(H.set j x)[i]?=some y:=by rw[V5 hn];exact h
theorem cF(h:H[i]?=some y):(H++l)[i]?=some y:=by rw[Q0 (J4.mp h).1];exact h
theorem aB:(H++[x])[H.length]?=some x:=by simp
theorem bC(h:H[i]?=some y):i<H.length:=(J4.mp h).1
theorem fw(hi:H[i]?=some x)(hj:H[j]?=some y)(h:x≠y):i≠j:=fun e=>h (by subst e;rw[hi] at hj;exact Option.some.inj hj)
theorem vo{k:Int}:∀ n,V.int k≠.bi n:=fun _ h=>nomatch h
theorem z4{k:Str}:∀ n,V.str k≠.bi n:=fun _ h=>nomatch h
theorem Gp{k:Bool}:∀ n,V.bool k≠.bi n:=fun _ h=>nomatch h
theorem Go:∀ n,V.none≠.bi n:=fun _ h=>nomatch h
theorem Gv{k:Nat}:∀ n,V.obj k≠.bi n:=fun _ h=>nomatch h
theorem pO.nil{x}:pO x []:=fun _ h=>nomatch h
theorem pO.cons{x y:Str}{v:V}{fs}(h:y≠x)(r:pO x fs):pO x ((y,v)::fs):=fun p hp=>by
 rcases K2.mp hp with rfl | hp
 ·exact h
 exact r p hp
theorem ag{x y:Str}(h:(x==y)=false):x≠y:=fun e=>by subst e;simp at h
end
theorem aA:J0 "len"≠"__name__":=ag (by kernel_rfl)
theorem aJ:J0 "isinstance"≠"__name__":=ag (by kernel_rfl)
theorem Bg:J0 "ord"≠"__name__":=ag (by kernel_rfl)
theorem Et:J0 "min"≠"__name__":=ag (by kernel_rfl)
theorem Eu:J0 "all"≠"__name__":=ag (by kernel_rfl)
theorem iE:J0 "range"≠"__name__":=ag (by kernel_rfl)
theorem jV:J0 "bytearray"≠"__name__":=ag (by kernel_rfl)
theorem ux:J0 "bytes"≠"__name__":=ag (by kernel_rfl)
theorem kO:J0 "str"≠"__name__":=ag (by kernel_rfl)
theorem kN:J0 "zip"≠"__name__":=ag (by kernel_rfl)
theorem gx:J0 "tuple"≠"__name__":=ag (by kernel_rfl)
theorem jW:J0 "Exception"≠"__name__":=ag (by kernel_rfl)
theorem gE:J0 "at"≠J0 "column":=ag (by kernel_rfl)
theorem tH:J0 "at"≠J0 "found":=ag (by kernel_rfl)
theorem qi:J0 "at"≠J0 "row":=ag (by kernel_rfl)
theorem il:J0 "base"≠J0 "digits":=ag (by kernel_rfl)
theorem i5:J0 "base"≠J0 "found":=ag (by kernel_rfl)
theorem jF:J0 "base"≠J0 "sign":=ag (by kernel_rfl)
theorem fS:J0 "base"≠J0 "was_digit":=ag (by kernel_rfl)
theorem mt:J0 "begin"≠J0 "column":=ag (by kernel_rfl)
theorem pH:J0 "begin"≠J0 "head":=ag (by kernel_rfl)
theorem n7:J0 "begin"≠J0 "heads":=ag (by kernel_rfl)
theorem vn:J0 "begin"≠J0 "k":=ag (by kernel_rfl)
theorem mr:J0 "begin"≠J0 "octets":=ag (by kernel_rfl)
theorem rI:J0 "begin"≠J0 "row":=ag (by kernel_rfl)
theorem kz:J0 "begin"≠J0 "strings":=ag (by kernel_rfl)
theorem mq:J0 "begin"≠J0 "things":=ag (by kernel_rfl)
theorem f4:J0 "branch"≠J0 "due":=ag (by kernel_rfl)
theorem n6:J0 "branch"≠J0 "kind":=ag (by kernel_rfl)
theorem mm:J0 "branch"≠J0 "thing":=ag (by kernel_rfl)
theorem ml:J0 "branch"≠J0 "value":=ag (by kernel_rfl)
theorem ku:J0 "branch"≠J0 "wanted":=ag (by kernel_rfl)
theorem ji:J0 "branches"≠J0 "branch":=ag (by kernel_rfl)
theorem gX:J0 "branches"≠J0 "due":=ag (by kernel_rfl)
theorem mj:J0 "branches"≠J0 "far":=ag (by kernel_rfl)
theorem pG:J0 "branches"≠J0 "k":=ag (by kernel_rfl)
theorem jE:J0 "branches"≠J0 "kinds":=ag (by kernel_rfl)
theorem kt:J0 "branches"≠J0 "near":=ag (by kernel_rfl)
theorem kr:J0 "branches"≠J0 "text":=ag (by kernel_rfl)
theorem jD:J0 "branches"≠J0 "thing":=ag (by kernel_rfl)
theorem kq:J0 "branches"≠J0 "told":=ag (by kernel_rfl)
theorem jh:J0 "branches"≠J0 "values":=ag (by kernel_rfl)
theorem jC:J0 "branches"≠J0 "words":=ag (by kernel_rfl)
theorem i4:J0 "call"≠J0 "fault":=ag (by kernel_rfl)
theorem i0:J0 "column"≠J0 "due":=ag (by kernel_rfl)
theorem mi:J0 "column"≠J0 "found":=ag (by kernel_rfl)
theorem n0:J0 "column"≠J0 "head":=ag (by kernel_rfl)
theorem tG:J0 "column"≠J0 "k":=ag (by kernel_rfl)
theorem ko:J0 "column"≠J0 "octets":=ag (by kernel_rfl)
theorem pF:J0 "column"≠J0 "row":=ag (by kernel_rfl)
theorem jB:J0 "column"≠J0 "strings":=ag (by kernel_rfl)
theorem mh:J0 "column"≠J0 "thing":=ag (by kernel_rfl)
theorem kn:J0 "column"≠J0 "things":=ag (by kernel_rfl)
theorem ik:J0 "digits"≠J0 "sign":=ag (by kernel_rfl)
theorem tE:J0 "due"≠J0 "kind":=ag (by kernel_rfl)
theorem rH:J0 "due"≠J0 "value":=ag (by kernel_rfl)
theorem tD:J0 "far"≠J0 "near":=ag (by kernel_rfl)
theorem me:J0 "found"≠J0 "column":=ag (by kernel_rfl)
theorem gW:J0 "found"≠J0 "digits":=ag (by kernel_rfl)
theorem rG:J0 "found"≠J0 "row":=ag (by kernel_rfl)
theorem iZ:J0 "found"≠J0 "sign":=ag (by kernel_rfl)
theorem dU:J0 "found"≠J0 "token":=ag (by kernel_rfl)
theorem li:J0 "head"≠J0 "due":=ag (by kernel_rfl)
theorem xQ:J0 "head"≠J0 "k":=ag (by kernel_rfl)
theorem pE:J0 "head"≠J0 "thing":=ag (by kernel_rfl)
theorem md:J0 "heads"≠J0 "column":=ag (by kernel_rfl)
theorem pD:J0 "heads"≠J0 "head":=ag (by kernel_rfl)
theorem vm:J0 "heads"≠J0 "k":=ag (by kernel_rfl)
theorem mc:J0 "heads"≠J0 "things":=ag (by kernel_rfl)
theorem iY:J0 "is_let"≠J0 "due":=ag (by kernel_rfl)
theorem ma:J0 "is_let"≠J0 "thing":=ag (by kernel_rfl)
theorem ij:J0 "item"≠J0 "branch":=ag (by kernel_rfl)
theorem l7:J0 "items"≠J0 "branch":=ag (by kernel_rfl)
theorem l0:J0 "items"≠J0 "column":=ag (by kernel_rfl)
theorem jA:J0 "items"≠J0 "due":=ag (by kernel_rfl)
theorem rF:J0 "items"≠J0 "far":=ag (by kernel_rfl)
theorem nZ:J0 "items"≠J0 "kinds":=ag (by kernel_rfl)
theorem pC:J0 "items"≠J0 "near":=ag (by kernel_rfl)
theorem rE:J0 "items"≠J0 "row":=ag (by kernel_rfl)
theorem nY:J0 "items"≠J0 "thing":=ag (by kernel_rfl)
theorem pB:J0 "items"≠J0 "told":=ag (by kernel_rfl)
theorem lZ:J0 "items"≠J0 "values":=ag (by kernel_rfl)
theorem nX:J0 "items"≠J0 "words":=ag (by kernel_rfl)
theorem nW:J0 "kind"≠J0 "is_any":=ag (by kernel_rfl)
theorem ca:J0 "kind"≠J0 "value":=ag (by kernel_rfl)
theorem rD:J0 "kinds"≠J0 "far":=ag (by kernel_rfl)
theorem pA:J0 "kinds"≠J0 "near":=ag (by kernel_rfl)
theorem pz:J0 "kinds"≠J0 "told":=ag (by kernel_rfl)
theorem lY:J0 "kinds"≠J0 "values":=ag (by kernel_rfl)
theorem nV:J0 "kinds"≠J0 "words":=ag (by kernel_rfl)
theorem km:J0 "numbers"≠J0 "found":=ag (by kernel_rfl)
theorem jz:J0 "octets"≠J0 "strings":=ag (by kernel_rfl)
theorem lX:J0 "opened"≠J0 "found":=ag (by kernel_rfl)
theorem dG:J0 "opened"≠J0 "token":=ag (by kernel_rfl)
theorem b9:J0 "row"≠J0 "column":=ag (by kernel_rfl)
theorem nU:J0 "row"≠J0 "due":=ag (by kernel_rfl)
theorem rC:J0 "row"≠J0 "found":=ag (by kernel_rfl)
theorem tC:J0 "row"≠J0 "head":=ag (by kernel_rfl)
theorem rB:J0 "row"≠J0 "heads":=ag (by kernel_rfl)
theorem zZ:J0 "row"≠J0 "k":=ag (by kernel_rfl)
theorem pw:J0 "row"≠J0 "octets":=ag (by kernel_rfl)
theorem nT:J0 "row"≠J0 "strings":=ag (by kernel_rfl)
theorem rA:J0 "row"≠J0 "thing":=ag (by kernel_rfl)
theorem pv:J0 "row"≠J0 "things":=ag (by kernel_rfl)
theorem kl:J0 "script"≠J0 "branch":=ag (by kernel_rfl)
theorem jg:J0 "script"≠J0 "branches":=ag (by kernel_rfl)
theorem iX:J0 "script"≠J0 "due":=ag (by kernel_rfl)
theorem pu:J0 "script"≠J0 "far":=ag (by kernel_rfl)
theorem tA:J0 "script"≠J0 "k":=ag (by kernel_rfl)
theorem lW:J0 "script"≠J0 "kinds":=ag (by kernel_rfl)
theorem nS:J0 "script"≠J0 "near":=ag (by kernel_rfl)
theorem nR:J0 "script"≠J0 "text":=ag (by kernel_rfl)
theorem lV:J0 "script"≠J0 "thing":=ag (by kernel_rfl)
theorem nQ:J0 "script"≠J0 "told":=ag (by kernel_rfl)
theorem kj:J0 "script"≠J0 "values":=ag (by kernel_rfl)
theorem lU:J0 "script"≠J0 "words":=ag (by kernel_rfl)
theorem nP:J0 "self"≠J0 "column":=ag (by kernel_rfl)
theorem pq:J0 "self"≠J0 "found":=ag (by kernel_rfl)
theorem nO:J0 "self"≠J0 "octets":=ag (by kernel_rfl)
theorem tw:J0 "self"≠J0 "row":=ag (by kernel_rfl)
theorem lS:J0 "self"≠J0 "strings":=ag (by kernel_rfl)
theorem nN:J0 "sort"≠J0 "column":=ag (by kernel_rfl)
theorem tv:J0 "sort"≠J0 "row":=ag (by kernel_rfl)
theorem rz:J0 "sort"≠J0 "text":=ag (by kernel_rfl)
theorem pp:J0 "sort"≠J0 "value":=ag (by kernel_rfl)
theorem po:J0 "tape"≠J0 "begin":=ag (by kernel_rfl)
theorem nM:J0 "tape"≠J0 "column":=ag (by kernel_rfl)
theorem ru:J0 "tape"≠J0 "head":=ag (by kernel_rfl)
theorem pj:J0 "tape"≠J0 "heads":=ag (by kernel_rfl)
theorem xP:J0 "tape"≠J0 "k":=ag (by kernel_rfl)
theorem tr:J0 "tape"≠J0 "row":=ag (by kernel_rfl)
theorem nK:J0 "tape"≠J0 "things":=ag (by kernel_rfl)
theorem jf:J0 "text"≠J0 "at":=ag (by kernel_rfl)
theorem pi:J0 "text"≠J0 "begin":=ag (by kernel_rfl)
theorem nJ:J0 "text"≠J0 "branch":=ag (by kernel_rfl)
theorem dh:J0 "text"≠J0 "column":=ag (by kernel_rfl)
theorem ii:J0 "text"≠J0 "digits":=ag (by kernel_rfl)
theorem lh:J0 "text"≠J0 "due":=ag (by kernel_rfl)
theorem tm:J0 "text"≠J0 "far":=ag (by kernel_rfl)
theorem eD:J0 "text"≠J0 "found":=ag (by kernel_rfl)
theorem rt:J0 "text"≠J0 "head":=ag (by kernel_rfl)
theorem ph:J0 "text"≠J0 "heads":=ag (by kernel_rfl)
theorem qh:J0 "text"≠J0 "k":=ag (by kernel_rfl)
theorem pg:J0 "text"≠J0 "kinds":=ag (by kernel_rfl)
theorem rr:J0 "text"≠J0 "near":=ag (by kernel_rfl)
theorem nI:J0 "text"≠J0 "opened":=ag (by kernel_rfl)
theorem fR:J0 "text"≠J0 "row":=ag (by kernel_rfl)
theorem jy:J0 "text"≠J0 "sign":=ag (by kernel_rfl)
theorem pf:J0 "text"≠J0 "thing":=ag (by kernel_rfl)
theorem nH:J0 "text"≠J0 "things":=ag (by kernel_rfl)
theorem eC:J0 "text"≠J0 "token":=ag (by kernel_rfl)
theorem rq:J0 "text"≠J0 "told":=ag (by kernel_rfl)
theorem pe:J0 "text"≠J0 "value":=ag (by kernel_rfl)
theorem nG:J0 "text"≠J0 "values":=ag (by kernel_rfl)
theorem fQ:J0 "text"≠J0 "was_digit":=ag (by kernel_rfl)
theorem pd:J0 "text"≠J0 "words":=ag (by kernel_rfl)
theorem rn:J0 "thing"≠J0 "due":=ag (by kernel_rfl)
theorem iW:J0 "things"≠J0 "due":=ag (by kernel_rfl)
theorem nF:J0 "things"≠J0 "head":=ag (by kernel_rfl)
theorem tj:J0 "things"≠J0 "k":=ag (by kernel_rfl)
theorem lR:J0 "things"≠J0 "thing":=ag (by kernel_rfl)
theorem ti:J0 "told"≠J0 "far":=ag (by kernel_rfl)
theorem rm:J0 "told"≠J0 "near":=ag (by kernel_rfl)
theorem pc:J0 "told"≠J0 "words":=ag (by kernel_rfl)
theorem lQ:J0 "value"≠J0 "column":=ag (by kernel_rfl)
theorem lP:J0 "value"≠J0 "is_any":=ag (by kernel_rfl)
theorem rl:J0 "value"≠J0 "row":=ag (by kernel_rfl)
theorem pb:J0 "values"≠J0 "far":=ag (by kernel_rfl)
theorem nE:J0 "values"≠J0 "near":=ag (by kernel_rfl)
theorem nB:J0 "values"≠J0 "told":=ag (by kernel_rfl)
theorem lO:J0 "values"≠J0 "words":=ag (by kernel_rfl)
theorem pa:J0 "wanted"≠J0 "due":=ag (by kernel_rfl)
theorem nA:J0 "wanted"≠J0 "kind":=ag (by kernel_rfl)
theorem lN:J0 "wanted"≠J0 "value":=ag (by kernel_rfl)
theorem eK:J0 "was_digit"≠J0 "digits":=ag (by kernel_rfl)
theorem fu:J0 "was_digit"≠J0 "found":=ag (by kernel_rfl)
theorem fP:J0 "was_digit"≠J0 "sign":=ag (by kernel_rfl)
theorem qg:J0 "why"≠J0 "at":=ag (by kernel_rfl)
theorem iV:J0 "why"≠J0 "column":=ag (by kernel_rfl)
theorem nz:J0 "why"≠J0 "row":=ag (by kernel_rfl)
theorem rk:J0 "words"≠J0 "far":=ag (by kernel_rfl)
theorem o9:J0 "words"≠J0 "kind":=ag (by kernel_rfl)
theorem o8:J0 "words"≠J0 "near":=ag (by kernel_rfl)
theorem ny:J0 "words"≠J0 "value":=ag (by kernel_rfl)
noncomputable def jn(fce:List (Str×Nat)):List (Str×NameKind)→List (Str×Nat)→Option (List (Str×Nat))
 | [],acc=>some acc
 | (n,k)::r,acc=>match k with
  | .free=>match fce.lookup n with
   | some i=>jn fce r ((n,i)::acc)
   | none=>none
  | _=>jn fce r acc
theorem vq{fce:List (Str×Nat)}{n:Str}{i:Nat}(h:fce.lookup n=some i):(n,i)∈fce:=by
 induction fce with
 | nil=>cases h
 | cons p r ih=>
 obtain⟨x,j⟩:=p
 rw[List.lookup_cons] at h
 by_cases e:n==x
 ·rw[e] at h
  cases h
  have:=beq_iff_eq.mp e
  subst this
  exact K5
 have:(n==x)=false:=by simpa using e
 rw[this] at h
 exact K6 _ (ih h)
theorem AX{fce:List (Str×Nat)}{env:Env}{ρ:List Addr}(hc:∀ x i,(x,i)∈fce→∃ a,ρ[i]?=some a∧env.cells.lookup x=some a) :
  ∀ (names:List (Str×NameKind)) (acc ce:List (Str×Nat)) (cs:List (Str×Addr)),jn fce names acc=some ce→y0 ρ acc cs→
   ∃ cl,(forIn names cs fun(x:Str×NameKind) (r:List (Str×Addr))=>(do
    if x.2==.free then do
     let a←cellOf env x.1
     pure (ForInStep.yield ((x.1,a)::r))
    else pure (ForInStep.yield r):Sem (ForInStep (List (Str×Addr)))))=pure cl∧y0 ρ ce cl:=by
 intro names
 induction names with
 | nil=>intro acc ce cs h hr;cases h;exact⟨cs,rfl,hr⟩
 | cons x names ih=>
 obtain⟨n,k⟩:=x
 intro acc ce cs h hr
 rw[List.forIn_cons]
 by_cases hk:k=.free
 ·subst hk
  unfold jn at h
  dsimp only at h
  cases hl:fce.lookup n with
  | none=>rw[hl] at h;cases h
  | some i=>
  rw[hl] at h
  obtain⟨a,ha,hca⟩:=hc n i (vq hl)
  obtain⟨cl,e,r⟩:=ih ((n,i)::acc) ce ((n,a)::cs) h ⟨⟨rfl,ha⟩,hr⟩
  refine⟨cl,?_,r⟩
  rw[if_pos (show(NameKind.free==NameKind.free)=true from rfl)]
  unfold cellOf
  rw[hca]
  simp only[pure_bind]
  exact e
 have hc2:jn fce names acc=some ce:=by
  unfold jn at h
  cases k <;> first | exact absurd rfl hk | exact h
 obtain⟨cl,e,r⟩:=ih acc ce cs hc2 hr
 refine⟨cl,?_,r⟩
 rw[if_neg (by simpa using hk)]
 simp only[pure_bind]
 exact e
theorem b8.of{fn:bW}{scope:Scope}{ce:List (Str×Nat)}(h:jn fn.ce scope.names []=some ce)(nd:(ce.map (·.1)).Nodup):b8 fn scope ce:=fun c ρ hc hx=>by
 obtain⟨cl,e,r⟩:=AX (env:=c.env) (ρ:=ρ) (fce:=fn.ce) (fun x i hm=>by rw[c.env_cells];exact hx x i hm) scope.names [] ce [] h trivial
 refine⟨cl,?_,r,r.look nd⟩
 simp only[closureFor]
 rw[←e]
 simp only[pure_bind,bind_pure]
section
variable {G:cq}{dd d₁:Nat}{fn:bW}{ls ls' ls'':List (Str×V)}{H H' H₁:List O}{v:V}
noncomputable def yP(H:List O)(l:Nat):Prop:=∃ nm q pr bd sc ce cd,H[l]?=some (.fn nm q pr bd sc ce cd)
theorem yX{func pos}{i:Nat}(hf:Ev G dd fn func ls H (.obj i) H)(hi:yP H i)(h:Cl G d₁ (.obj i) [] H v H')(hd:d₁<dd:=by decide)
  (he:∀ env,eval (.Call func [] [] pos) env=(do callWith pos (←eval func env) [] (backTo pos (K7 [] env)) (backToKw pos (keywordEach [] env))):=by intro _;rfl):Ev G dd fn (.Call func [] [] pos) ls H v H':=by
 obtain⟨_,_,_,_,_,_,_,hi⟩:=hi
 exact BA hf hi h hd he
theorem oX{func pos}{i j:Nat}(hf:Ev G dd fn func ls H (.obj i) H)(hi:yP H i)(h:DJ G d₁ (.obj i) [] H j H')(hd:d₁<dd:=by decide)
  (he:∀ env,eval (.Call func [] [] pos) env=(do callWith pos (←eval func env) [] (backTo pos (K7 [] env)) (backToKw pos (keywordEach [] env))):=by intro _;rfl):ej G dd fn (.Call func [] [] pos) ls H j H':=by
 obtain⟨_,_,_,_,_,_,_,hi⟩:=hi
 exact yT hf hi h hd he
end
section
variable {G:cq}{dd:Nat}{fn fn':bW}{ls ls' ls'':List (Str×V)}{H H' H₁ H₂ H₃:List O}{v a b f ov iv:V}{vs first:List V}{d₁:Nat}{c:Cx}{ρ ρ':List Addr}{s:Shared}{own own':List (Addr×Obj)}{I Is:List Addr}{m:Str→Option Value}{fr:List (Addr×Obj)}{os:List Obj}
theorem uJ{nm q:Str}{params:Arguments}{body:Expr}{scope:Scope}{ce:List (Str×Nat)}{i cd:Nat}{c:Cx}{A:Around}{s:Shared}{ls:List (Str×V)}{ρ:List Addr}{Rr:Result→Shared→Prop}{a:Addr}
  (hi:H[i]?=some (.fn nm q params (.expr body) scope ce cd)) (hcd:H[cd]?=some (.code q)) (hb:∀ cl doc pm cdv ct,bindArgs (kdv_fn nm q params (.expr body) scope cl .none doc pm cdv ct) ⟨[],[]⟩=pure []) (hnd:(ce.map (·.1)).Nodup)
  (hk:scope.kind=.function) (hco:scope.isCoroutine=false) (hgen:scope.isGenerator=false) (hcell:∀ x∈scope.names,x.2≠.cell)
  (ok:c.Ok G (dd+1)) (hA:A.frames=some (c.fenv::c.outer)) (hh:A.handled=none) (hd:A.depth≤c.A₀.depth+2) (hu:A.units≤c.A₀.units+8) (R:aY c ls ρ H s) (ha:ρ[i]?=some a)
  (h:∀ (c':Cx) (s':Shared) (m:Str→Option Value) (fr:List (Addr×Obj)) (oL:Obj) (k:Addr),c'.fn=⟨q,scope,a,.ref k,ce⟩→c'.Ok G dd→aY c' [] ρ H s'→pT c ls ρ m fr oL→c'=c.sub A fr oL c'.L c'.fn c'.cl→
   wpAny (model G.prog c.w) c'.A (eval body c'.env) (fun v s'=>Rr (.ok (.ret v)) s')
    (fun e s'=>wpAny (model G.prog c.w) c'.A (leaving c'.env e) (fun _ s''=>Rr (.error e) s'') (fun e' s''=>Rr (.error e') s'') s') s') :
  codeAny (model G.prog c.w) A (.call (.ref a) ⟨[],[]⟩) Rr s:=by
 obtain⟨m,fr,os,W⟩:=R
 obtain⟨ob,_,_,⟨clos,k,doc,pm,ctv,rfl,hk',hclr⟩,hg⟩:=W.mem ha hi
 obtain⟨oc,_,_,⟨vs,t,hdc,hvc⟩,hgc⟩:=W.mem hk' hcd
 obtain⟨oL,hL,kp⟩:=W.split
 refine kla_callFunE (body:=body) ?_ hg rfl hco hgen rfl ⟨k,oc,vs,t,rfl,hgc,hdc,hvc⟩ ?_
 ·have:=ok.hd;lia
 rw[hb]
 refine K1 (wpAny_newFunctionEnv hcell (by intro y hy;simp at hy) (fun h₁ hns hsb=>⟨(ok.T.nolimit.keeps W.F.keep).fresh _ hsb,?_⟩) hk)
 have hk₁:∀ b o,s.heap.get? b=some o→h₁.get? b=some o:=fun b o e=>hsb.extBut b o (W3 (Heap.lt_size e)) (K3 _ e)
 have ok':=rh ok W kp (A:=A) (L':=s.heap.objs.size) (fn:=⟨q,scope,a,.ref k,ce⟩) (cl:=clos) hA hh hd hu hk
 have R':=u8 (A:=A) (t:=s.toks+([]:List (Str×Value)).length) (fn:=⟨q,scope,a,.ref k,ce⟩) (cl:=clos) (ls':=[]) W hL hns hk₁ ⟨fun p hp=>(nomatch hp),V7⟩ (y0.look hclr hnd)
 exact kla_codeExpr (h _ _ m fr oL k rfl ok' R' kp rfl)
theorem Dd{nm q:Str}{params:Arguments}{body:Expr}{scope:Scope}{ce:List (Str×Nat)}{i cd:Nat}
  (hi:H[i]?=some (.fn nm q params (.expr body) scope ce cd)) (hcd:H[cd]?=some (.code q)) (hb:∀ cl doc pm cdv ct,bindArgs (kdv_fn nm q params (.expr body) scope cl .none doc pm cdv ct) ⟨[],[]⟩=pure []) (hnd:(ce.map (·.1)).Nodup)
  (hk:scope.kind=.function) (hco:scope.isCoroutine=false) (hgen:scope.isGenerator=false) (hcell:∀ x∈scope.names,x.2≠.cell) (hS:∀ a k,bz ⟨q,scope,a,.ref k,ce⟩)
  (h:∀ a k,bz ⟨q,scope,a,.ref k,ce⟩→Ev G dd ⟨q,scope,a,.ref k,ce⟩ body [] H v H'):Co G dd (.obj i) [] H v H':=by
 intro c A s ls ρ f' vs Rr ok hA hh hd hu R rf ra hQ
 obtain⟨a,ha,rfl⟩:=rf
 obtain rfl:=bq.c0 ra
 ·refine uJ hi hcd hb hnd hk hco hgen hcell ok hA hh hd hu R ha fun c' s' m fr oL k hf ok' R' kp e=>?_
  have hw:c'.w=c.w:=by rw[e];rfl
  rw[←hw]
  refine h a k (hS a k) c' s' ρ _ _ hf ok' R' fun ρ'' s'' v' hp' R'' rv=>?_
  rw[e] at R''
  exact hQ ρ'' s'' _ hp' (fO kp hp' R'') rv
theorem uI{nm q:Str}{params:Arguments}{body:Expr}{scope:Scope}{ce:List (Str×Nat)}{i cd j:Nat}{C:Addr}{d:Option Nat}
  (hi:H[i]?=some (.fn nm q params (.expr body) scope ce cd)) (hcd:H[cd]?=some (.code q)) (hb:∀ cl doc pm cdv ct,bindArgs (kdv_fn nm q params (.expr body) scope cl .none doc pm cdv ct) ⟨[],[]⟩=pure []) (hnd:(ce.map (·.1)).Nodup)
  (hk:scope.kind=.function) (hco:scope.isCoroutine=false) (hgen:scope.isGenerator=false) (hcell:∀ x∈scope.names,x.2≠.cell) (hS:∀ a k,bz ⟨q,scope,a,.ref k,ce⟩)
  (h:∀ a k,bz ⟨q,scope,a,.ref k,ce⟩→ej G dd ⟨q,scope,a,.ref k,ce⟩ body [] H j H') (hH:H'[j]?=some (.exc C d)∨H'[j]?=some (.excT C d)):da G dd (.obj i) [] H j (H'.set j (.excT C d)):=by
 intro c A s ls ρ f' vs Rr ok hm hA hh hd hu R rf ra hQ
 obtain⟨a,ha,rfl⟩:=rf
 obtain rfl:=bq.c0 ra
 ·refine uJ hi hcd hb hnd hk hco hgen hcell ok hA hh hd hu R ha fun c' s' m fr oL k hf ok' R' kp e=>?_
  have hw:c'.w=c.w:=by rw[e];rfl
  have hm':c'.cm=none:=by rw[e];rfl
  rw[←hw]
  refine h a k (hS a k) c' s' ρ _ _ hf ok' hm' R' fun ρ'' s'' a' hp' R''=>?_
  refine wK ok' hm' R'' hH fun s₃ R₃=>?_
  rw[e] at R₃
  exact hQ ρ'' s₃ a' hp' (s9 kp hm hp' R₃)
end
theorem bz.sc{qual:Str}{scope:Scope}{f:Addr}{cdv:Value}{ce:List (Str×Nat)}(h:bz ⟨qual,scope,f,cdv,[]⟩):bz ⟨qual,scope,f,cdv,ce⟩:=⟨h.1,h.2⟩
theorem bz.sc2{qual:Str}{scope:Scope}{f:Addr}{cdv:Value}{ce:List (Str×Nat)}(h:bz ⟨"",scope,0,.none,[]⟩):bz ⟨qual,scope,f,cdv,ce⟩:=⟨h.1,h.2⟩
noncomputable def B5:Expr→Bool
 | .Starred ..=>false
 | _=>true
theorem af{e:Expr}{es:List Expr}(h:B5 e=true)(env:Env):K7 (e::es) env=(false,eval e env)::K7 es env:=by
 cases e <;> first | rfl | cases h
section
variable {G:cq}{dd:Nat}{fn:bW}{ls ls' ls'':List (Str×V)}{H H' H₁ H₂ H₃:List O}{v a b f ov iv:V}{vs first xs ys:List V}{d₁:Nat}{c:Cx}{ρ ρ':List Addr}{s:Shared}{Good:List O→Prop}
theorem iP{i:Nat}{xs:List V}(hi:H[i]?=some (.tup xs))(hz:xs.length≤1000):Cl G 0 (.bi "len") [.obj i] H (.int xs.length) H:=fun c s ls ρ f' vs Q E ok R rf ra hQ=>by
 obtain rfl:=rf
 obtain⟨x',rfl,⟨a,ha,e⟩,_⟩:=bq.c1 ra
 ·subst e
  obtain⟨ws,hl,r⟩:=R.tupAt ha hi
  have:=r.len
  refine len_tuple hl (by rw[Q2];lia) ?_
  have e:(ws.toArray.size:Int)=xs.length:=by rw[Q2,this]
  rw[e]
  exact hQ ρ _ _ (J2 _) R.tok ⟨_,rfl⟩
theorem qf{xs:List PyData}:SeqAt.noMix (.list xs) (.list [])=true:=by cases xs <;> rfl
theorem m7:SeqAt.shaped (.list [])=true:=by decide
theorem Fn:∀ ns:List Str,(∀ x∈ns,PyData.strOk x=true)→PyData.canLayAll0 (ns.map PyData.str)=true
 | [],_=>rfl
 | x::r,h=>by simp[PyData.canLayAll0,PyData.canLay0,Fn r (fun y hy=>h y (K6 _ hy)),h x K5]
theorem Fs:∀ ns:List Str,PyData.depthAll (ns.map PyData.str)=0
 | []=>rfl
 | _::r=>by simp[PyData.depthAll,PyData.depth,Fs r]
theorem lb(xs:List Str)(h:∀ x∈xs,PyData.strOk x=true):SeqAt.shaped (.list (xs.map PyData.str))=true:=by
 simp[SeqAt.shaped,PyData.canLay0,PyData.depth,Fn xs h,Fs]
theorem AK{ns:List Int}:EI H (ns.map V.int) (ns.map PyData.int):=by
 induction ns with
 | nil=>exact .nil
 | cons n ns ih=>exact .cons .int ih
theorem tU{ns:List Str}:EI H (ns.map V.str) (ns.map PyData.str):=by
 induction ns with
 | nil=>exact .nil
 | cons n ns ih=>exact .cons .str ih
theorem sK{i j:Nat}{ns:List Int}(hi:H[i]?=some (.list (ns.map V.int)))(hj:H[j]?=some (.list []))(hn:ns≠[])(hd:8≤dd:=by decide):Cm G dd .NotEq (.obj i) (.obj j) H true:=by
 have:=wu (G:=G) (dd:=dd) (.list hi AK) (.list hj .nil) (ke_shaped_ints ns) m7 qf hd
 cases ns with
 | nil=>exact(hn rfl).elim
 | cons n r=>exact this
theorem sJ{i j:Nat}{ns:List Str}(hi:H[i]?=some (.list (ns.map V.str)))(hj:H[j]?=some (.list []))(hn:ns≠[])(hs:∀ x∈ns,PyData.strOk x=true)(hd:8≤dd:=by decide):Cm G dd .NotEq (.obj i) (.obj j) H true:=by
 have:=wu (G:=G) (dd:=dd) (.list hi tU) (.list hj .nil) (lb ns hs) m7 qf hd
 cases ns with
 | nil=>exact(hn rfl).elim
 | cons n r=>exact this
theorem BH{x y:Array UInt8}:Cm G dd .NotEq (.byt x) (.byt y) H (x.toList != y.toList):=fun c s ls ρ a' b' Q E ok R ra rb hQ=>by obtain⟨t,rfl⟩:=ra;obtain⟨u,rfl⟩:=rb;exact ne_bytes (hQ s R)
theorem uL{i j:Nat}(hi:H[i]?=some (.list []))(hj:H[j]?=some (.list []))(hd:8≤dd:=by decide):Cm G dd .NotEq (.obj i) (.obj j) H false:=ff (d:=.list []) (.list hi .nil) (.list hj .nil) rfl rfl hd
theorem dD{i j:Nat}(hi:H[i]?=some (.list []))(hj:H[j]?=some (.list []))(hd:8≤dd:=by decide):Cm G dd .Eq (.obj i) (.obj j) H true:=kS (d:=.list []) (.list hi .nil) (.list hj .nil) rfl rfl hd
theorem wq{keys:List (Option Expr)}{values:List Expr}{dpos pos:Pos}{slice:Expr}{k:Int}{D:List (PyData×PyData)}{x:Str}(hi:Ev G dd fn slice ls H (.int k) H)(hD:litPairs keys values=some D)(hs:intKeyed D=true)(hn:(intKeysOf D).Nodup)
  (hall:keys.all (·.isSome)=true) (hl:keys.length=values.length) (h0:keys≠[]) (hlen:keys.length≤15) (hx:Spec.lookup (PyData.int k) D=some (.str x))
  (hss:∀ o i,subscripted slice false o i=operate [o,i] (getItem o i):=by intro _ _;rfl) :
  Ev G dd fn (.Subscript (.Dict keys values dpos) slice pos) ls H (.str x) H:=fun c s ρ Q E hc ok R hQ=>by
 refine Subscript_ (Dict_lits_int hD hs hn hall hl h0 hlen fun a o h₁ tk hle ho hT hk=>?_)
 have hna:s.heap.get? a=none:=V3 hle
 have R1:aC c [a] ls ρ H { s with heap:=h₁,toks:=tk}:=R.off hk (by simp) (fun b hb=>by rw[J6.mp hb];exact hna) (fun b hb=>by rw[J6.mp hb];exact hle)
 have R2:=aC.keep (own:=[(a,o)]) R1 (fun p hp=>by rw[J6.mp hp];exact ho)
 refine hi (c.keep [(a,o)]) _ ρ _ _ hc ok.keep R2 fun ρ' s' i' hp R' ri=>?_
 obtain⟨R3,ho3⟩:=aY.drop R'
 have ho':s'.heap.get? a=some o:=ho3 (a,o) (J6.mpr rfl)
 obtain⟨t,rfl⟩:=ri
 obtain⟨kvs,hdo,hfl⟩:=hT
 have hsys:(a==sysModules)=false:=by
  obtain⟨m,fr,os,W⟩:=R
  exact beq_eq_false_iff_ne.mpr (W5 (Nat.lt_of_lt_of_le (Nat.lt_trans (modules_low ok.T.nolimit) (Nat.lt_of_le_of_lt W.F.above W.F.ns.lt)) hle))
 have T:TabAt (intKind G.prog c.w) PyData.int s'.heap a D:=⟨hsys,kvs,Heap.dictOf_iff.mpr ⟨o,ho',hdo⟩,hfl⟩
 have hty:s'.TypeIs (.ref a) "dict":=by
  obtain⟨_,_,hd,_⟩:=T
  exact hd.typeIs
 refine tail_any hty slot_dict_getitem.lookup ?_ (hss _ _)
 refine kys_getItem (knd:=intKind G.prog c.w) (enc:=PyData.int) (k:=k) (D:=D) ?_ (intKind_is _ _ _ _) T ?_
 ·intro x y;simp[Spec.same];rfl
 unfold KysD
 rw[hx]
 intro v hf
 obtain⟨t',rfl⟩:=ow s'.heap hf
 exact hQ ρ' _ _ hp R3.rep.tok ⟨_,rfl⟩
end
noncomputable def bX(t:Nat)(q:Str)(H:List O):Prop:=∃ ps,H[t]?=some (.tab ps)∧∀ p∈ps,H[p.2]?=some (.code q)
theorem bX.keep{t:Nat}{q:Str}{I:List Nat}{m:Nat}{H H':List O}(h:bX t q H)(hI:KI I m H)(k:Kp I H H')(ht:t∉I):bX t q H':=by
 obtain⟨ps,h1,h2⟩:=h
 refine⟨ps,k.get h1 ht,fun p hp=>k.get (h2 p hp) fun x=>?_⟩
 obtain⟨_,o,ho,hs⟩:=hI _ x
 rw[h2 p hp] at ho;cases ho;cases hs
theorem bX.keep0{t:Nat}{q:Str}{H H':List O}(h:bX t q H)(k:Kp [] H H'):bX t q H':=h.keep (m:=0) KI.nil k (by simp)
theorem oM{pos:Pos}{j:Nat}:∀ {ps:List (Pos×Nat)},f9 pos ps=some j→∃ p∈ps,p.2=j
 | [],h=>by cases h
 | p::r,h=>by
  unfold f9 at h
  split at h
  ·cases h;exact⟨p,K5,rfl⟩
  obtain⟨p',hp,e⟩:=oM h;exact⟨p',K6 _ hp,e⟩
section
variable {G:cq}{dd d₁ t:Nat}{fn:bW}{ls ls' ls'' l':List (Str×V)}{H H' H₁:List O}{v:V}{st:Stmt}{sts rest:List Stmt}{P:V→List O→Prop}{Q:List O→Prop}
theorem yW{params:Arguments}{body:Expr}{scope:Scope}{pos:Pos}{ce:List (Str×Nat)}{k Pt:Addr}(hk:fn.cdv=.ref k)(hC:∀ P,codeHdIn (G.K P) k Pt=true)(hpn:G.pn[t]?=some Pt)(hcl:b8 fn scope ce)
  (hdef:∀ env,defaultsOf params env=([],[])) (hT:bX t (fn.qual++".<locals>."++"<lambda>") H) :
  ∃ l cd H1,Ev G dd fn (.Lambda params body scope pos) ls H (.obj l) H1∧Kp [t] H H1∧H.length≤l∧H1[l]?=some (.fn "<lambda>" (fn.qual++".<locals>."++"<lambda>") params (.expr body) scope ce cd)∧H1[cd]?=some (.code (fn.qual++".<locals>."++"<lambda>"))∧bX t (fn.qual++".<locals>."++"<lambda>") H1:=by
 obtain⟨ps,h1,h2⟩:=hT
 have hlt:t<H.length:=(J4.mp h1).1
 cases hn:f9 pos ps with
 | none=>
  generalize hq:fn.qual++".<locals>."++"<lambda>" = q at *
  have h:=yU (ls:=ls) (dd:=dd) (params:=params) (body:=body) hk hC hpn hcl hdef h1 hn
  rw[hq] at h
  refine⟨_,H.length,_,h,((Kp.set (.head _)).trans Kp.app).trans Kp.app,by lia,?_,?_,?_⟩
  ·rw[Q6 (by simp)];simp
  ·rw[Q0 (by simp),Q6 (by simp)];simp
  refine⟨ps++[(pos,H.length)],?_,fun p hp=>?_⟩
  ·rw[Q0 (by simp;lia),Q0 (by simp;lia),Q8 hlt]
  rcases Q1.mp hp with hp | hp
  ·have hp2:=h2 p hp
   have hne:t≠p.2:=fun e=>by rw[←e,h1] at hp2;cases hp2
   have hl:=(J4.mp hp2).1
   rw[Q0 (by simp;lia),Q0 (by simp;lia),V5 hne]
   exact hp2
  rw[J6.mp hp]
  show(H.set t _++[O.code q]++_)[H.length]?=_
  rw[Q0 (by simp),Q6 (by simp)];simp
 | some j=>
 obtain⟨p,hp,rfl⟩:=oM hn
 refine⟨_,p.2,_,yV hk hC hpn hcl hdef h1 hn,Kp.app,Nat.le_refl _,by simp,?_,?_⟩
 ·have:=h2 p hp
  rw[Q0 (J4.mp this).1];exact this
 refine⟨ps,by rw[Q0 hlt];exact h1,fun p' hp'=>?_⟩
 have:=h2 p' hp'
 rw[Q0 (J4.mp this).1];exact this
theorem mO{test pos}{body:List Stmt}(h:∃ H1,Te G dd fn test ls H false H1∧Q H1)(hr:∀ H1,Q H1→∃ v H',Es G dd fn rest ls H1 (.ret v) [] H'∧P v H'):∃ v H',Es G dd fn (.If test body [] pos::rest) ls H (.ret v) [] H'∧P v H':=by
 obtain⟨H1,ht,q⟩:=h
 obtain⟨v,H',h',p⟩:=hr H1 q
 exact⟨v,H',Es.cons (sE (b:=false) ht Es.nil) h',p⟩
theorem sg{a b:Expr}{pos:Pos}(h:∃ H1,Te G dd fn a ls H false H1∧∃ H2,Te G dd fn b ls H1 false H2∧Q H2):∃ H2,Te G dd fn (.BoolOp .Or [a,b] pos) ls H false H2∧Q H2:=by
 obtain⟨H1,h1,H2,h2,q⟩:=h
 exact⟨H2,ah (aw h1 (aw h2 bh)),q⟩
theorem mG{l r:Expr}{o:CmpOp}{pos:Pos}{b:Bool}(h:∃ v H1,Ev G dd fn l ls H v H1∧∃ w H2,Ev G dd fn r ls H1 w H2∧Cm G dd o v w H2 b∧Q H2)(hm:behindInMarks o r=false:=by rfl):∃ H2,Te G dd fn (.Compare l [o] [r] pos) ls H b H2∧Q H2:=by
 obtain⟨v,H1,h1,w,H2,h2,c,q⟩:=h
 exact⟨H2,gb h1 h2 c hm,q⟩
end
section
variable {G:cq}{dd d₁ t:Nat}{fn:bW}{ls ls' ls'' l':List (Str×V)}{H H' H₁ Hb:List O}{v:V}{st:Stmt}{sts rest:List Stmt}{P:V→List O→Prop}{Q:List O→Prop}
theorem pU:Cl G 0 (.bi "isinstance") [.none,.ty "str"] H (.bool false) H:=fun c s ls ρ f' vs Q E ok R rf ra hQ=>by
 obtain rfl:=rf
 obtain⟨x',c',rfl,e,e2,_⟩:=bq.c2 ra
 ·have e2':c'=.type "str":=e2
  have e1':x'=.none:=e
  subst e1' e2'
  exact IsiPair.NoneType_str (hQ ρ _ _ (J2 _) R.tok rfl)
theorem BG{f₀:Addr}{oc:Value}{od:Option Addr}{osl:Array (Option Value)}{name qual:Str}{params:Arguments}{body:List Stmt}{scope:Scope}{dV kV doc pm cdv ct:Value}{an:Option Addr}{a₁ a₂:V}{x y:Str}
  (ho:∀ P,(G.K P).lookup f₀=some ⟨oc,od,.func (fnOf name qual params body scope dV kV doc pm an cdv ct),osl⟩) (hcd:∀ P,codeIn (G.K P) cdv qual=true)
  (hb:∀ v₁ v₂,bindArgs (fnOf name qual params body scope dV kV doc pm an cdv ct) ⟨[v₁,v₂],[]⟩=pure [(x,v₁),(y,v₂)]) (hx:scope.names.lookup x=some .cell) (hy:scope.names.lookup y=some .local) (hxy:x≠y)
  (hcf:∀ n,cellsFrom n scope.names []=[(x,n)])
  (hk:scope.kind=.function) (hco:scope.isCoroutine=false) (hgen:scope.isGenerator=false) (hS:bz ⟨qual,scope,f₀,cdv,[(x,H.length)]⟩)
  (h:bz ⟨qual,scope,f₀,cdv,[(x,H.length)]⟩→∃ v H',Es G dd ⟨qual,scope,f₀,cdv,[(x,H.length)]⟩ body [(y,a₂)] (H++[.cell (some a₁)]) (.ret v) [] H'∧P v H'):∃ v H',Co G dd (.top f₀) [a₁,a₂] H v H'∧P v H':=by
 obtain⟨v,H',h1,p⟩:=h hS
 exact⟨v,H',Df ho hcd hb hx hy hxy hcf hk hco hgen hS fun _=>h1,p⟩
theorem yY(S:bz fn){elts k tpos k' p' pos}{e1 e2:Expr}{n1 n2:Str}{R:V→V→List O→Prop}{L:V→V→List (Str×V)}
  (h:∃ a H1,Ev G dd fn e1 ls H a H1∧∃ b H2,Ev G dd fn e2 ls H1 b H2∧R a b H2) (hst:∀ a b h,y7 fn [n2,n1] [b,a] ls h (L a b) h)
  (hr:∀ a b H2,R a b H2→∃ v H',Es G dd fn rest (L a b) (H2++[.tup [a,b]]) (.ret v) [] H'∧P v H')
  (hs:∀ env,swapsWithSole [.Tuple elts k tpos] (.Tuple [e1,e2] k' p') pos.line env=pure false:=by intro _;rfl) (hw:∀ env:Env,env.scope=fn.sc→Y2 [.Tuple elts k tpos] (.Tuple [e1,e2] k' p') env=pure (some [n1,n2]))
  (he1:∀ env,K7 [e1,e2] env=(false,eval e1 env)::K7 [e2] env:=by intro _;rfl) (he2:∀ env,K7 [e2] env=(false,eval e2 env)::K7 [] env:=by intro _;rfl) :
  ∃ v H',Es G dd fn (.Assign [.Tuple elts k tpos] (.Tuple [e1,e2] k' p') pos::rest) ls H (.ret v) [] H'∧P v H':=by
 obtain⟨a,H1,h1,b,H2,h2,r⟩:=h
 obtain⟨v,H',h3,p⟩:=hr a b H2 r
 exact⟨v,H',Es.cons (iH S (ap.cons h1 (ap.cons h2 ap.nil he2) he1) (hst a b _) hs hw) h3,p⟩
theorem vF{x:Str}{body:List Stmt}{Good:List O→Prop}{Inv:List O→Prop}(hg:∀ H,Inv H→Good H):∀ (ks:List V),(∀ k∈ks,∀ H,Inv H→∃ l₁ H₂,Sn fn x k ls H l₁ H∧Es G dd fn body l₁ H .next ls H₂∧Inv H₂)→∀ H,Inv H→∃ H',Fo G dd fn x body Good ks ls H .next ls H'∧Inv H'
 | [],_,H,hi=>⟨H,.nil (hg H hi),hi⟩
 | k::ks,ht,H,hi=>
 let ⟨l₁,H₂,hs,he,hi₂⟩:=ht k K5 H hi
 let ⟨H',hf,hi'⟩:=vF hg ks (fun k hk=>ht k (K6 _ hk)) H₂ hi₂
 ⟨H',.cons (hg H hi) hs he hf,hi'⟩
theorem C9(S:bz fn){x:Str}{px:Pos}{iter:Expr}{body:List Stmt}{pos:Pos}{xs:List V}{Good Inv:List O→Prop}(hi:Io G dd fn iter ls H xs Good H₁)(h0:Inv H₁)(hg:∀ H,Inv H→Good H)
  (ht:∀ k∈xs,∀ H,Inv H→∃ l₁ H₂,Sn fn x k ls H l₁ H∧Es G dd fn body l₁ H .next ls H₂∧Inv H₂) (hr:∀ H',Inv H'→∃ v H'',Es G dd fn rest ls H' (.ret v) [] H''∧P v H'')
  (hs:∀ env x,V1 iter env x=pure x:=by intro _ _;rfl):∃ v H'',Es G dd fn (.For (.Name x px) iter body [] pos::rest) ls H (.ret v) [] H''∧P v H'':=by
 obtain⟨H',hf,hi'⟩:=vF hg xs ht H₁ h0
 obtain⟨v,H'',h,p⟩:=hr H' hi'
 exact⟨v,H'',Es.cons (gM S hi hf hs) h,p⟩
theorem C8(S:bz fn){x:Str}{px:Pos}{iter:Expr}{body:List Stmt}{pos:Pos}{xs:List V}{Good Inv:List O→Prop}(hi:Io G dd fn iter ls H xs Good H₁)(h0:Inv H₁)(hg:∀ H,Inv H→Good H)
  (ht:∀ k∈xs,∀ H,Inv H→∃ l₁ H₂,Sn fn x k ls H l₁ H∧Es G dd fn body l₁ H .next ls H₂∧Inv H₂)
  (hs:∀ env x,V1 iter env x=pure x:=by intro _ _;rfl):∃ H',Es G dd fn [.For (.Name x px) iter body [] pos] ls H .next ls H'∧Inv H':=by
 obtain⟨H',hf,hi'⟩:=vF hg xs ht H₁ h0
 exact⟨H',Es.cons (gM S hi hf hs) Es.nil,hi'⟩
end
section
variable {G:cq}{dd d₁ t:Nat}{fn:bW}{ls ls' ls'' l':List (Str×V)}{H H' H₁ Hb:List O}{v:V}{st:Stmt}{sts rest:List Stmt}{P:V→List O→Prop}{Q:List O→Prop}
theorem uD{o name apos elts lp pos}{ov f:V}{first vs:List V}{H₂ H₃:List O}{pl:Env→Sem Bool}(ho:Ev G dd fn o ls H ov H₁)(hg:Gm G dd ov name H₁ f first)(hk:ey G f)(hl:ap G dd fn elts ls H₁ vs H₂)(hz:vs.length≤J5)(h:Cl G d₁ f (first++[.obj H₂.length]) (H₂++[.list vs]) v H₃)(hd:d₁<dd:=by decide)
  (he:∀ env,eval (.Call (.Attribute o name apos) [.List elts lp] [] pos) env=(do
   let ov←eval o env
   standAt apos.atName
   let (f,first)←holding [ov] (getMethod ov name (pl env))
   callWith pos f first (backTo pos (K7 [.List elts lp] env)) (backToKw pos (keywordEach [] env))):=by intro _;rfl):Ev G dd fn (.Call (.Attribute o name apos) [.List elts lp] [] pos) ls H v H₃:=au ho hg hk (ap.cons (Ev.list hl hz) ap.nil) h hd he
theorem qQ(S:bz fn){x pos' elts lp pos}{sts:List Stmt}{P:V→List O→Prop}{vs:List V}(h:ap G dd fn elts ls H vs H₁)(hz:vs.length≤J5)(hk:(x,NameKind.local)∈fn.sc.names)(hst:iz x (.obj H₁.length) ls ls')
  (r:∃ v H',Es G dd fn sts ls' (H₁++[.list vs]) (.ret v) [] H'∧P v H'):∃ v H',Es G dd fn (.Assign [.Name x pos'] (.List elts lp) pos::sts) ls H (.ret v) [] H'∧P v H':=cv (Ex.name S (Ev.list h hz) hk hst) r
theorem AI{α:Type}{x:Str}{body:List Stmt}{Good:List O→Prop}(L:α→List (Str×V))(St:α→List O→Prop)(sz:α→Nat)(hg:∀ a H,St a H→Good H)(top:Nat)
  (ht:∀ k a H,St a H→sz a<top→∃ l₁ a' H₂,Sn fn x k (L a) H l₁ H∧Es G dd fn body l₁ H .next (L a') H₂∧St a' H₂∧sz a'=sz a+1) :
  ∀ (ks:List V) a H,St a H→sz a+ks.length≤top→∃ a' H',Fo G dd fn x body Good ks (L a) H .next (L a') H'∧St a' H'∧sz a'=sz a+ks.length
 | [],a,H,hi,_=>⟨a,H,.nil (hg a H hi),hi,rfl⟩
 | k::ks,a,H,hi,hl=>by
  obtain⟨l₁,a',H₂,hs,he,hi₂,e⟩:=ht k a H hi (by simp at hl;lia)
  obtain⟨a'',H',hf,hi',e'⟩:=AI L St sz hg top ht ks a' H₂ hi₂ (by simp at hl;lia)
  exact⟨a'',H',.cons (hg a H hi) hs he hf,hi',by simp;lia⟩
theorem C7{α:Type}(S:bz fn){x:Str}{px:Pos}{iter:Expr}{body:List Stmt}{pos:Pos}{xs:List V}{Good:List O→Prop}(L:α→List (Str×V))(St:α→List O→Prop)(sz:α→Nat)(a:α)(hi:Io G dd fn iter (L a) H xs Good H₁)(h0:St a H₁)(hg:∀ a H,St a H→Good H)(h00:sz a=0)
  (ht:∀ k a H,St a H→sz a<xs.length→∃ l₁ a' H₂,Sn fn x k (L a) H l₁ H∧Es G dd fn body l₁ H .next (L a') H₂∧St a' H₂∧sz a'=sz a+1) (hr:∀ a' H',St a' H'→sz a'=xs.length→∃ v H'',Es G dd fn rest (L a') H' (.ret v) [] H''∧P v H'')
  (hs:∀ env x,V1 iter env x=pure x:=by intro _ _;rfl):∃ v H'',Es G dd fn (.For (.Name x px) iter body [] pos::rest) (L a) H (.ret v) [] H''∧P v H'':=by
 obtain⟨a',H',hf,hi',e⟩:=AI L St sz hg xs.length ht xs a H₁ h0 (by lia)
 obtain⟨v,H'',h,p⟩:=hr a' H' hi' (by lia)
 exact⟨v,H'',Es.cons (gM S hi hf hs) h,p⟩
theorem GV{x:Str}{k:V}{l₁:List (Str×V)}{body:List Stmt}{α:Type}{L:α→List (Str×V)}{a:α}{R:α→List O→Prop}(h1:Sn fn x k ls H l₁ H)(h2:∃ a' H₂,Es G dd fn body l₁ H .next (L a') H₂∧R a' H₂) :
  ∃ l₁ a' H₂,Sn fn x k ls H l₁ H∧Es G dd fn body l₁ H .next (L a') H₂∧R a' H₂:=by
 obtain⟨a',H₂,h,i⟩:=h2
 exact⟨l₁,a',H₂,h1,h,i⟩
theorem uG{α:Type}{L:α→List (Str×V)}{R:α→List O→Prop}(a:α){l':List (Str×V)}(h:Es G dd fn sts ls H .next ls' H')(e:L a=l')(hs:∀ p∈l',p∈ls')(nd:(l'.map (·.1)).Nodup)(p:R a H'):∃ a' H',Es G dd fn sts ls H .next (L a') H'∧R a' H':=⟨a,H',by rw[e];exact Es.less h hs nd,p⟩
theorem j3{α:Type}{L:α→List (Str×V)}{R:α→List O→Prop}(h₁:Ex G dd fn st ls H .next ls' H₁)(h₂:∃ a H',Es G dd fn rest ls' H₁ .next (L a) H'∧R a H'):∃ a H',Es G dd fn (st::rest) ls H .next (L a) H'∧R a H':=by
 obtain⟨a,H',h,p⟩:=h₂
 exact⟨a,H',Es.cons h₁ h,p⟩
theorem BB{α:Type}{L:α→List (Str×V)}{R:α→List O→Prop}(h:∀ H0,H0=H→∃ a H',Es G dd fn sts ls H0 .next (L a) H'∧R a H'):∃ a H',Es G dd fn sts ls H .next (L a) H'∧R a H':=h H rfl
theorem An{α:Type}{target elt:Expr}{Good:List O→Prop}(it:α→hM)(L:α→List (Str×V))(Inv:List α→List V→List O→Prop)(hg:∀ d vs H,Inv d vs H→Good H) :
  ∀ (xs:List α),(∀ x∈xs,∀ l H' d vs,(l=[]∨∃ y,l=L y)→Inv d vs H'→∃ H1 v H2,Tn fn target (it x) l H' (L x) H1∧Ev G dd fn elt (L x) H1 v H2∧Inv (d++[x]) (vs++[v]) H2)→
   ∀ l H' d vs,(l=[]∨∃ y,l=L y)→Inv d vs H'→∃ vs' H'',Lc G dd fn target elt Good (xs.map it) l H' vs' H''∧Inv (d++xs) (vs++vs') H''
 | [],_,l,H',d,vs,_,hi=>⟨[],H',.nil (hg d vs H' hi),by simpa using hi⟩
 | x::xs,h,l,H',d,vs,hl,hi=>by
  obtain⟨H1,v,H2,ht,he,hi2⟩:=h x K5 l H' d vs hl hi
  obtain⟨vs',H'',hc,hi3⟩:=An it L Inv hg xs (fun y hy=>h y (K6 _ hy)) (L x) H2 (d++[x]) (vs++[v]) (.inr ⟨x,rfl⟩) hi2
  exact⟨v::vs',H'',.cons (hg d vs H' hi) ht he hc,by simpa using hi3⟩
end
section
variable {G:cq}{dd:Nat}{fn fn':bW}{ls ls' ls'':List (Str×V)}{H H' H₁ H₂ H₃:List O}{v a b f ov iv:V}{vs first:List V}{d₁:Nat}{c:Cx}{ρ ρ':List Addr}{s:Shared}{own own':List (Addr×Obj)}{I Is:List Addr}{Good:List O→Prop}{m:Str→Option Value}{fr:List (Addr×Obj)}{os:List Obj}
theorem wj(S₀:bz fn){elt target iter:Expr}{scope:Scope}{pos spos py:Pos}{y:Str}{xs:List hM}{ce:List (Str×Nat)}
  (S:bz { fn with sc:=cZ scope fn.sc,ce:=ce,cdv:=.none}) (hcl:b8 fn scope ce) (hcell:∀ y∈scope.names,y.2≠.cell) (hkind:scope.kind=.function) (hnames:∀ x∈scope.names,x.2=.local→scope.names.lookup x.1=some .local)
  (hi:js G dd fn iter ls H xs Good H₁) (h:bz { fn with sc:=cZ scope fn.sc,ce:=ce,cdv:=.none}→Lc G dd { fn with sc:=cZ scope fn.sc,ce:=ce,cdv:=.none} target elt Good xs [] H₁ vs H')
  (hsz:xs.length≤1000) (hst:Sn fn y (.obj H'.length) ls (H'++[.list vs]) ls' H₂) (hs:∀ env x,V1 iter env x=pure x:=by intro _ _;rfl)
  (hsw:∀ env:Env,env.scope=fn.sc→Y3 (.ListComp elt [⟨target,iter,[],0⟩] scope pos) (some (.Name y py)) spos.line env=pure true) :
  Ex G dd fn (.Assign [.Name y py] (.ListComp elt [⟨target,iter,[],0⟩] scope pos) spos) ls H .next ls' H₂:=fun c s ρ Q E hc ok R hQ=>by
 rw[exec_Assign_Name_used _ _ _ _ (hsw _ (by rw[c.env_scope,hc]))]
 refine J1 (wpAny_standAt (J1 ?_))
 show wpAny _ c.A (do let _←comprehension (.ListComp elt [⟨target,iter,[],0⟩] scope pos) scope c.env _ (newList []) false (eval iter c.env) (some (assign (.Name y py) c.env))) _ _ s
 refine J1 (wpAny_mono (tX (use:=some (assign (.Name y py) c.env)) (Q:=fun _ s'=>Q .next s') S hcl hcell hkind hnames hi (h S) hsz hs hc ok R fun ρ' s' C D hp R' hD hns=>?_) (fun _ s' hq=>K1 (K1 hq)) fun _ _ e=>e)
 obtain⟨m',oC,es,ep,hC,hns⟩:=hns
 show wpAny _ c.A (assign (.Name y py) c.env (.ref D)) _ _ _
 have R₂:aC (c.keep [(C,oC)]) [] ls (ρ'++[D]) (H'++[.list vs]) s':=dI (own:=[(C,oC)]) R' fun p hp=>by rw[J6.mp hp];exact hC
 refine wpAny_assign_Name ?_
 refine hst.run (c:=c.keep [(C,oC)]) S₀ hc ok.keep R₂.rep ⟨D,hD,rfl⟩ fun s₃ R₃=>?_
 obtain⟨R₄,hk⟩:=aY.drop R₃
 refine⟨m',⟨oC,es,ep,hk (C,oC) (.head _),hns⟩,fun h' hs'=>?_⟩
 exact hQ _ _ _ (hp.trans (K4 _ _)) (R₄.but (t:=s₃.toks) (h:=h') fun b o hb e=>hs'.extBut b o (by simpa using hb) e).rep rfl
end
section
variable {G:cq}{dd d₁ t:Nat}{fn:bW}{ls ls' ls'' l':List (Str×V)}{H H' H₁ Hb:List O}{v:V}{st:Stmt}{sts rest:List Stmt}{P:V→List O→Prop}{Q:List O→Prop}
theorem gN(S₀:bz fn){elt target iter:Expr}{scope:Scope}{pos spos py:Pos}{y:Str}{xs:List hM}{ce:List (Str×Nat)}{Good:List O→Prop}{R:List V→List O→Prop}{L':Nat→List (Str×V)}
  (S:bz { fn with sc:=cZ scope fn.sc,ce:=ce,cdv:=.none}) (hcl:b8 fn scope ce) (hcell:∀ y∈scope.names,y.2≠.cell) (hkind:scope.kind=.function) (hnames:∀ x∈scope.names,x.2=.local→scope.names.lookup x.1=some .local)
  (hi:js G dd fn iter ls H xs Good H₁) (h:bz { fn with sc:=cZ scope fn.sc,ce:=ce,cdv:=.none}→∃ vs H',Lc G dd { fn with sc:=cZ scope fn.sc,ce:=ce,cdv:=.none} target elt Good xs [] H₁ vs H'∧R vs H')
  (hsz:xs.length≤1000) (hst:∀ n h,Sn fn y (.obj n) ls h (L' n) h) (hr:∀ vs H',R vs H'→∃ v H'',Es G dd fn rest (L' H'.length) (H'++[.list vs]) (.ret v) [] H''∧P v H'') (hs:∀ env x,V1 iter env x=pure x:=by intro _ _;rfl)
  (hsw:∀ env:Env,env.scope=fn.sc→Y3 (.ListComp elt [⟨target,iter,[],0⟩] scope pos) (some (.Name y py)) spos.line env=pure true) :
  ∃ v H'',Es G dd fn (.Assign [.Name y py] (.ListComp elt [⟨target,iter,[],0⟩] scope pos) spos::rest) ls H (.ret v) [] H''∧P v H'':=by
 obtain⟨vs,H',hc,r⟩:=h S
 obtain⟨v,H'',h',p⟩:=hr vs H' r
 exact⟨v,H'',Es.cons (wj S₀ S hcl hcell hkind hnames hi (fun _=>hc) hsz (hst _ _) hs hsw) h',p⟩
theorem Gz{elt target iter:Expr}{scope:Scope}{pos:Pos}{xs:List hM}{ce:List (Str×Nat)}{Good:List O→Prop}{R:V→List O→Prop}
  (S:bz { fn with sc:=cZ scope fn.sc,ce:=ce,cdv:=.none}) (hcl:b8 fn scope ce) (hcell:∀ y∈scope.names,y.2≠.cell) (hkind:scope.kind=.function) (hnames:∀ x∈scope.names,x.2=.local→scope.names.lookup x.1=some .local)
  (hi:js G dd fn iter ls H xs Good H₁) (h:bz { fn with sc:=cZ scope fn.sc,ce:=ce,cdv:=.none}→∃ vs H',Lc G dd { fn with sc:=cZ scope fn.sc,ce:=ce,cdv:=.none} target elt Good xs [] H₁ vs H'∧R (.obj H'.length) (H'++[.list vs]))
  (hsz:xs.length≤1000) (hs:∀ env x,V1 iter env x=pure x:=by intro _ _;rfl) :
  ∃ v H',Ev G dd fn (.ListComp elt [⟨target,iter,[],0⟩] scope pos) ls H v H'∧R v H':=by
 obtain⟨vs,H',hc,r⟩:=h S
 exact⟨_,_,Gk S hcl hcell hkind hnames hi (fun _=>hc) hsz hs,r⟩
theorem Fm{α:Type}{target elt:Expr}{Good:List O→Prop}{R:List V→List O→Prop}{ys:List hM}(it:α→hM)(L:α→List (Str×V))(Inv:List α→List V→List O→Prop)(xs:List α)(e:ys=xs.map it)(hg:∀ d vs H,Inv d vs H→Good H)
  (ht:∀ x∈xs,∀ l H' d vs,(l=[]∨∃ y,l=L y)→Inv d vs H'→∃ H1 v H2,Tn fn target (it x) l H' (L x) H1∧Ev G dd fn elt (L x) H1 v H2∧Inv (d++[x]) (vs++[v]) H2) (h0:Inv [] [] H) (fin:∀ vs H',Inv xs vs H'→R vs H') :
  ∃ vs H',Lc G dd fn target elt Good ys [] H vs H'∧R vs H':=by
 subst e
 obtain⟨vs,H',hc,hi⟩:=An it L Inv hg xs ht [] H [] [] (.inl rfl) h0
 exact⟨vs,H',hc,fin vs H' (by simpa using hi)⟩
end
section
variable {α:Type}{a b c d e f g h i j k l m x:α}{r:List α}
theorem M0:x∈x::r:=.head _
theorem M1:x∈a::x::r:=.tail _ M0
theorem M2:x∈a::b::x::r:=.tail _ M1
theorem M3:x∈a::b::c::x::r:=.tail _ M2
theorem M4:x∈a::b::c::d::x::r:=.tail _ M3
theorem M5:x∈a::b::c::d::e::x::r:=.tail _ M4
theorem M6:x∈a::b::c::d::e::f::x::r:=.tail _ M5
theorem M7:x∈a::b::c::d::e::f::g::x::r:=.tail _ M6
theorem M8:x∈a::b::c::d::e::f::g::h::x::r:=.tail _ M7
theorem M9:x∈a::b::c::d::e::f::g::h::i::x::r:=.tail _ M8
theorem sP:x∈a::b::c::d::e::f::g::h::i::j::x::r:=.tail _ M9
theorem G1:x∈a::b::c::d::e::f::g::h::i::j::k::x::r:=.tail _ sP
theorem Hg:x∈a::b::c::d::e::f::g::h::i::j::k::l::x::r:=.tail _ G1
end
theorem bG{n:Nat}(h:Nat.ble n 16777216=true):n≤J5:=Nat.le_of_ble_eq_true h
theorem cQ{n:Nat}(h:n≤1000):n≤J5:=J7 h (by decide)
theorem zC{n:Nat}(h:n≤10000):n≤J5:=J7 h (by decide)
theorem Gw{x:Str}{k:NameKind}{l:List (Str×NameKind)}(h:(l.any fun y=>y.1==x && y.2==k)=true):(x,k)∈l:=by
 obtain⟨⟨a,b⟩,hm,h⟩:=List.any_eq_true.mp h
 obtain⟨h1,h2⟩:=Bool.and_eq_true_iff.mp h
 rw[show a=x from eq_of_beq h1,show b=k from eq_of_beq h2] at hm
 exact hm
theorem Fe{x:Str}{fs:List (Str×V)}(h:(fs.any fun y=>y.1==x)=false):pO x fs:=fun p hp e=>by
 rw[List.any_eq_false] at h;exact h p hp (beq_iff_eq.mpr e)
noncomputable def V.isBi:V→Bool
 | .bi _=>true
 | _=>false
theorem Hd{v:V}(h:v.isBi=false):∀ n,v≠.bi n:=fun n e=>by rw[e] at h;exact Bool.noConfusion h
theorem jj{x:Addr}{y:Option Obj}(h:∀ P,List.lookup x (Y6 P)=y:=by intro P;k_is):∀ P,(GG.K P).lookup x=y:=h
theorem jk{x:Value}{y:Str}(h:∀ P,codeIn (Y6 P) x y=true:=by intro P;k_is):∀ P,codeIn (GG.K P) x y=true:=h
theorem m9{α:Type}{l l':List α}(h:l.Sublist l':=by repeat (first | exact .slnil | exact List.nil_sublist _ | apply List.Sublist.cons₂ | apply List.Sublist.cons)):∀ p∈l,p∈l':=h.subset
theorem GH{b:Bool}(h:b=true):(!b)=false:=by rw[h];rfl
theorem Fy{b:Bool}(h:b=false):(!b)=true:=by rw[h];rfl
noncomputable def CK(sc:Scope):Env:=⟨sc,0,0,[],Str.empty,none,.none,none,0⟩
theorem DS{ts:List Expr}{v:Expr}{env env':Env}(h:env.scope=env'.scope):Y2 ts v env=Y2 ts v env':=by
 unfold Y2 Env.blockKind Env.kindOf;rw[h]
theorem BX{v:Expr}{t:Option Expr}{n:Nat}{env env':Env}(h:env.scope=env'.scope):Y3 v t n env=Y3 v t n env':=by
 unfold Y3 Env.blockKind Env.kindOf;rw[h]
section
variable {G:cq}{fd:FuncData}{ns:List Str}{a b c d e f:V}{ρ:List Addr}{vs:List Value}
theorem Hi(hl:ns.length=0:=by rfl)(hd:ns.Nodup:=by decide)(h:∀ s,BindsTo s fd ⟨[],[]⟩ (ns.zip []):=by intros;exact BindsTo.of_eq rfl):d9 G fd [] ns []:=⟨hl,hd,fun P s ρ vs _ hv=>by cases hv.c0;exact⟨_,h s,trivial⟩⟩
theorem cI(hl:ns.length=1:=by rfl)(hd:ns.Nodup:=by decide)(h:∀ s x,BindsTo s fd ⟨[x],[]⟩ (ns.zip [x]):=by intros;exact BindsTo.of_eq rfl):d9 G fd [a] ns [a]:=⟨hl,hd,fun P s ρ vs _ hv=>by obtain⟨x,rfl,h1,_⟩:=hv.c1;exact⟨_,h s x,h1,trivial⟩⟩
theorem jZ(hl:ns.length=2:=by rfl)(hd:ns.Nodup:=by decide)(h:∀ s x y,BindsTo s fd ⟨[x,y],[]⟩ (ns.zip [x,y]):=by intros;exact BindsTo.of_eq rfl):d9 G fd [a,b] ns [a,b]:=⟨hl,hd,fun P s ρ vs _ hv=>by obtain⟨x,y,rfl,h1,h2,_⟩:=hv.c2;exact⟨_,h s x y,h1,h2,trivial⟩⟩
theorem iN(hl:ns.length=3:=by rfl)(hd:ns.Nodup:=by decide)(h:∀ s x y z,BindsTo s fd ⟨[x,y,z],[]⟩ (ns.zip [x,y,z]):=by intros;exact BindsTo.of_eq rfl):d9 G fd [a,b,c] ns [a,b,c]:=⟨hl,hd,fun P s ρ vs _ hv=>by obtain⟨x,y,z,rfl,h1,h2,h3,_⟩:=hv.c3;exact⟨_,h s x y z,h1,h2,h3,trivial⟩⟩
theorem GR(hl:ns.length=4:=by rfl)(hd:ns.Nodup:=by decide)(h:∀ s x y z u,BindsTo s fd ⟨[x,y,z,u],[]⟩ (ns.zip [x,y,z,u]):=by intros;exact BindsTo.of_eq rfl):d9 G fd [a,b,c,d] ns [a,b,c,d]:=⟨hl,hd,fun P s ρ vs _ hv=>by obtain⟨x,w0,rfl,h1,hv0⟩:=hv.cc;obtain⟨y,z,u,rfl,h2,h3,h4,_⟩:=hv0.c3;exact⟨_,h s x y z u,h1,h2,h3,h4,trivial⟩⟩
theorem Hh(hl:ns.length=6:=by rfl)(hd:ns.Nodup:=by decide)(h:∀ s x y z u v w,BindsTo s fd ⟨[x,y,z,u,v,w],[]⟩ (ns.zip [x,y,z,u,v,w]):=by intros;exact BindsTo.of_eq rfl):d9 G fd [a,b,c,d,e,f] ns [a,b,c,d,e,f]:=⟨hl,hd,fun P s ρ vs _ hv=>by obtain⟨x,w0,rfl,h1,hv0⟩:=hv.cc;obtain⟨y,w1,rfl,h2,hv1⟩:=hv0.cc;obtain⟨z,w2,rfl,h3,hv2⟩:=hv1.cc;obtain⟨u,v,w,rfl,h4,h5,h6,_⟩:=hv2.c3;exact⟨_,h s x y z u v w,h1,h2,h3,h4,h5,h6,trivial⟩⟩
end
section
variable {G:cq}{dd d₁:Nat}{fn:bW}{ls ls' ls'':List (Str×V)}{H H' H₁ H₂ H₃ H₄ H₅ H₆:List O}{v a b f v1 v2 v3 v4 v5:V}{vs:List V}{e e1 e2 e3 e4 e5:Expr}{fl:Fl}
theorem EL(S:bz fn){x pos}(hm:(x,v)∈ls)(hk:(x,NameKind.local)∈fn.sc.names:=by walk_at"mem"):Ev G dd fn (.Name x pos) ls H v H:=Ev.loc S hm hk
theorem EC(S:bz fn){x pos}{i:Nat}(hce:(x,i)∈fn.ce:=by walk_at"mem")(hi:H[i]?=some (.cell (some v)):=by walk_at"lk")(hk:(x,NameKind.cell)∈fn.sc.names:=by walk_at"mem"):Ev G dd fn (.Name x pos) ls H v H:=Bz S hce hi hk
theorem EG(S:bz fn){x pos a}(hn:∀ P,nsIn (G.K P) J3 x=some (some (.ref a)))(hk:(x,NameKind.globalImplicit)∈fn.sc.names:=by walk_at"mem"):Ev G dd fn (.Name x pos) ls H (.top a) H:=cK S hn hk
theorem sR(S:bz fn){x pos t}{u:Str}(hn:∀ P,nsIn (G.K P) J3 x=some (some (.str u t)))(hk:(x,NameKind.globalImplicit)∈fn.sc.names:=by walk_at"mem"):Ev G dd fn (.Name x pos) ls H (.str u) H:=wm S hn hk
theorem Da(S:bz fn){x pos t}{u:Int}(hn:∀ P,nsIn (G.K P) J3 x=some (some (.int u t)))(hk:(x,NameKind.globalImplicit)∈fn.sc.names:=by walk_at"mem"):Ev G dd fn (.Name x pos) ls H (.int u) H:=wo S hn hk
theorem ET(S:bz fn){x pos n}(hn:∀ P,nsIn (G.K P) J3 x=some none)(hb:W9 x=some (.type n))(hne:x≠"__name__")(hk:(x,NameKind.globalImplicit)∈fn.sc.names:=by walk_at"mem"):Ev G dd fn (.Name x pos) ls H (.ty n) H:=d5 S hn hb hne hk
theorem CG(S:bz fn){x xp a as pos}(hn:∀ P,nsIn (G.K P) J3 x=some (some (.ref a)))(hk:∀ P,keepIn (G.K P) (.ref a)=true)(hl:ap G dd fn as ls H vs H₁)(h:Cl G d₁ (.top a) vs H₁ v H₂)(hm:(x,NameKind.globalImplicit)∈fn.sc.names:=by walk_at"mem")(hd:d₁<dd:=by decide):Ev G dd fn (.Call (.Name x xp) as [] pos) ls H v H₂:=Ev.call (cK S hn hm) hk hl h hd
theorem CB(S:bz fn){x xp n as pos}(hn:∀ P,nsIn (G.K P) J3 x=some none)(hb:W9 x=some (.builtin n))(hne:x≠"__name__")(hl:ap G dd fn as ls H vs H₁)(h:Cl G d₁ (.bi n) vs H₁ v H₂)(hm:(x,NameKind.globalImplicit)∈fn.sc.names:=by walk_at"mem")(hd:d₁<dd:=by decide):Ev G dd fn (.Call (.Name x xp) as [] pos) ls H v H₂:=Ev.call (mN S hn hb hne hm) trivial hl h hd
theorem CT(S:bz fn){x xp n as pos}(hn:∀ P,nsIn (G.K P) J3 x=some none)(hb:W9 x=some (.type n))(hne:x≠"__name__")(hl:ap G dd fn as ls H vs H₁)(h:Cl G d₁ (.ty n) vs H₁ v H₂)(hm:(x,NameKind.globalImplicit)∈fn.sc.names:=by walk_at"mem")(hd:d₁<dd:=by decide):Ev G dd fn (.Call (.Name x xp) as [] pos) ls H v H₂:=Ev.call (d5 S hn hb hne hm) trivial hl h hd
theorem AT{x y pos xp}{i d:Nat}{C:Addr}{fs:List (Str×V)}(h:Ev G dd fn (.Name y xp) ls H (.obj i) H)(hC:∀ P,cG (G.K P) C x=true)(hi:H[i]?=some (.inst C d):=by walk_at"lk")(hd:H[d]?=some (.dict fs):=by walk_at"lk")(hf:Fd x v fs:=by walk_at"st")(hv:∀ n,v≠.bi n:=by first | assumption | exact Hd rfl) :
  Ev G dd fn (.Attribute (.Name y xp) x pos) ls H v H:=C5 h hi hd hf hC hv
theorem L0:ap G dd fn [] ls H [] H:=ap.nil
theorem AA(h1:Ev G dd fn e1 ls H v1 H₁)(s1:∀ env,K7 [e1] env=(false,eval e1 env)::K7 [] env:=by intro _;rfl):ap G dd fn [e1] ls H [v1] H₁:=.cons h1 .nil s1
theorem AB(h1:Ev G dd fn e1 ls H v1 H₁)(h2:Ev G dd fn e2 ls H₁ v2 H₂)(s1:∀ env,K7 [e1,e2] env=(false,eval e1 env)::K7 [e2] env:=by intro _;rfl)(s2:∀ env,K7 [e2] env=(false,eval e2 env)::K7 [] env:=by intro _;rfl):ap G dd fn [e1,e2] ls H [v1,v2] H₂:=.cons h1 (AA h2 s2) s1
theorem AC(h1:Ev G dd fn e1 ls H v1 H₁)(h2:Ev G dd fn e2 ls H₁ v2 H₂)(h3:Ev G dd fn e3 ls H₂ v3 H₃)(s1:∀ env,K7 [e1,e2,e3] env=(false,eval e1 env)::K7 [e2,e3] env:=by intro _;rfl)(s2:∀ env,K7 [e2,e3] env=(false,eval e2 env)::K7 [e3] env:=by intro _;rfl)(s3:∀ env,K7 [e3] env=(false,eval e3 env)::K7 [] env:=by intro _;rfl):ap G dd fn [e1,e2,e3] ls H [v1,v2,v3] H₃:=.cons h1 (AB h2 h3 s2 s3) s1
theorem TC{l r op pos}{k k':Bool}(hl:Ev G dd fn l ls H a H₁)(hr:Ev G dd fn r ls H₁ b H₂)(hc:Cm G dd op a b H₂ k)(hk:k=k':=by first | rfl | assumption | simp <;> assumption)(hm:behindInMarks op r=false:=by rfl):Te G dd fn (.Compare l [op] [r] pos) ls H k' H₂:=hk▸gb hl hr hc hm
theorem TT{k k':Bool}(h:Te G dd fn e ls H k H₁)(hk:k=k':=by first | rfl | assumption | simp <;> assumption):Te G dd fn e ls H k' H₁:=hk▸h
theorem IT{test body orelse pos}(h:Te G dd fn test ls H true H₁)(h₂:Es G dd fn body ls H₁ fl ls' H₂):Ex G dd fn (.If test body orelse pos) ls H fl ls' H₂:=sE (b:=true) h h₂
theorem IF{test body orelse pos}(h:Te G dd fn test ls H false H₁)(h₂:Es G dd fn orelse ls H₁ fl ls' H₂):Ex G dd fn (.If test body orelse pos) ls H fl ls' H₂:=sE (b:=false) h h₂
theorem NM(S:bz fn){x pos' pos}(h:Ev G dd fn e ls H v H₁)(hk:(x,NameKind.local)∈fn.sc.names:=by walk_at"mem")(hst:iz x v ls ls':=by walk_at"st")(hs:∀ env,Y3 e (some (.Name x pos')) pos.line env=pure false:=by intro _;rfl):Ex G dd fn (.Assign [.Name x pos'] e pos) ls H .next ls' H₁:=Ex.name S h hk hst hs
theorem NN(S:bz fn){x pos' pos}(h:g9 G dd fn e ls H v H₁)(hk:(x,NameKind.local)∈fn.sc.names:=by walk_at"mem")(hst:iz x v ls ls':=by walk_at"st")(hs:∀ env,Y3 e (some (.Name x pos')) pos.line env=pure false:=by intro _;rfl):dz G dd fn (.Assign [.Name x pos'] e pos) ls H .next ls' H₁:=dz.name S h hk hst hs
theorem SL{x:Str}{l l':List (Str×V)}{h:List O}(hk:(x,NameKind.local)∈fn.sc.names:=by walk_at"mem")(hst:iz x v l l':=by walk_at"st"):Sn fn x v l h l' h:=.loc hk hst
theorem SC{x:Str}{l:List (Str×V)}{h:List O}{i:Nat}{w:Option V}(hk:(x,NameKind.cell)∈fn.sc.names:=by walk_at"mem")(hce:(x,i)∈fn.ce:=by walk_at"mem")(hi:h[i]?=some (.cell w):=by walk_at"lk"):Sn fn x v l h l (h.set i (.cell (some v))):=.cell hk hce hi
theorem GI{i d:Nat}{C g:Addr}{x:Str}{fs:List (Str×V)}(hC:∀ P,eJ (G.K P) C x g=true)(hi:H[i]?=some (.inst C d):=by walk_at"lk")(hd:H[d]?=some (.dict fs):=by walk_at"lk")(hf:(fs.any fun y=>y.1==x)=false:=by kernel_rfl):Gm G dd (.obj i) x H (.top g) [.obj i]:=Gm.inst hi hd (Fe hf) hC
theorem aG{f₀:Addr}{oc:Value}{od:Option Addr}{osl:Array (Option Value)}{name qual:Str}{params:Arguments}{body:List Stmt}{scope:Scope}{dV kV doc pm cdv ct:Value}{an:Option Addr}{args:List V}{ns:List Str}{ls':List (Str×V)}
  (h:bz ⟨qual,scope,f₀,cdv,[]⟩→Es GG dd ⟨qual,scope,f₀,cdv,[]⟩ body (ns.zip args) H (.ret v) ls' H') (ho:∀ P,List.lookup f₀ (Y6 P)=some ⟨oc,od,.func (fnOf name qual params body scope dV kV doc pm an cdv ct),osl⟩:=by intro P;k_is) (hcd:∀ P,codeIn (Y6 P) cdv qual=true:=by intro P;k_is)
  (hb:d9 GG (fnOf name qual params body scope dV kV doc pm an cdv ct) args ns args) (hloc:∀ x∈ns,scope.names.lookup x=some .local:=by decide) (hk:scope.kind=.function:=by rfl) (hco:scope.isCoroutine=false:=by rfl) (hgen:scope.isGenerator=false:=by rfl) (hcell:∀ x∈scope.names,x.2≠.cell:=by decide) (hS:bz ⟨qual,scope,f₀,cdv,[]⟩:=by exact⟨by decide,by decide⟩):Co GG dd (.top f₀) args H v H':=fJ ho hcd hb hloc hk hco hgen hcell hS h
theorem cx{f₀:Addr}{oc:Value}{od:Option Addr}{osl:Array (Option Value)}{name qual:Str}{params:Arguments}{body:List Stmt}{scope:Scope}{dV kV doc pm cdv ct:Value}{an:Option Addr}{args:List V}{ns:List Str}{ls':List (Str×V)}{i:Nat}{C:Addr}{d:Option Nat}
  (h:bz ⟨qual,scope,f₀,cdv,[]⟩→bv GG dd ⟨qual,scope,f₀,cdv,[]⟩ body (ns.zip args) H i ls' H') (hH:H'[i]?=some (.exc C d)∨H'[i]?=some (.excT C d)) (ho:∀ P,List.lookup f₀ (Y6 P)=some ⟨oc,od,.func (fnOf name qual params body scope dV kV doc pm an cdv ct),osl⟩:=by intro P;k_is) (hcd:∀ P,codeIn (Y6 P) cdv qual=true:=by intro P;k_is)
  (hb:d9 GG (fnOf name qual params body scope dV kV doc pm an cdv ct) args ns args) (hloc:∀ x∈ns,scope.names.lookup x=some .local:=by decide) (hk:scope.kind=.function:=by rfl) (hco:scope.isCoroutine=false:=by rfl) (hgen:scope.isGenerator=false:=by rfl) (hcell:∀ x∈scope.names,x.2≠.cell:=by decide) (hS:bz ⟨qual,scope,f₀,cdv,[]⟩:=by exact⟨by decide,by decide⟩):da GG dd (.top f₀) args H i (H'.set i (.excT C d)):=De ho hcd hb hloc hk hco hgen hcell hS h hH
theorem GL{i:Nat}{xs:List V}{k:Int}(hi:H[i]?=some (.list xs):=by walk_at"lk")(h0:0≤k:=by decide)(hk:k<2 ^ 63:=by decide)(hx:xs[k.toNat]?=some v:=by rfl):bE G dd (.obj i) (.int k) H v:=bE.list hi h0 hk hx
theorem GT{i:Nat}{xs:List V}{k:Int}{j:Nat}(hi:H[i]?=some (.tup xs):=by walk_at"lk")(h0:-(2 ^ 63)≤k:=by decide)(hk:k<2 ^ 63:=by decide)(hj:seqIndex? k xs.length=some j:=by rfl)(hx:xs[j]?=some v:=by rfl):bE G dd (.obj i) (.int k) H v:=bE.tup hi h0 hk hj hx
theorem SW{ts:List Expr}{e:Expr}{sc:Scope}{X:Sem (Option (List Str))}(h:Y2 ts e (CK sc)=X:=by rfl)(env:Env)(he:env.scope=sc):Y2 ts e env=X:=(DS (env':=CK sc) he).trans h
theorem Gr{e:Expr}{t:Option Expr}{n:Nat}{sc:Scope}{X:Sem Bool}(h:Y3 e t n (CK sc)=X:=by rfl)(env:Env)(he:env.scope=sc):Y3 e t n env=X:=(BX (env':=CK sc) he).trans h
end
local macro_rules | `(tactic| walk_at "mem") => `(tactic| (first | exact Gw (by kernel_rfl) | (repeat (first | exact List.Mem.head _ | apply List.Mem.tail))))
local macro_rules | `(tactic| walk_at "lk") => `(tactic| (first | with_reducible assumption | with_reducible exact cR (by walk_at "lt") | with_reducible exact aB | (with_reducible refine AH (by walk_at "ne") ?_; walk_at "lk") | (with_reducible refine cF ?_; walk_at "lk")))
local macro_rules | `(tactic| walk_at "st") => `(tactic| (repeat (first | with_reducible exact iz.new | with_reducible exact iz.here | with_reducible exact Fd.here | exact iz.new | (apply iz.there; exact ag (by kernel_rfl)) | (apply Fd.there; exact ag (by kernel_rfl)) | exact iz.here)))
theorem bx{H:List O}{x y z:O}:(H++[x]++[y]).set H.length z=H++[z]++[y]:=by
 rw[K0,List.set_append_right _ _ (Nat.le_refl _),Nat.sub_self];simp
theorem aF{H:List O}{x y:O}:(H++[x]++[y])[H.length]?=some x:=by rw[K0];simp
theorem cj{H:List O}{x y:O}:(H++[x]++[y])[H.length+1]?=some y:=by rw[K0,Q6 (by lia)];simp
theorem uY{H:List O}{self d:Nat}{sort text:Str}{v:V}{row col:Int}(hi:H[self]?=some (.inst 139 d))(hd:H[d]?=some (.dict [])) :
  Co GG 0 (.top 136) [.obj self,.str sort,.str text,v,.int row,.int col] H .none (H.set d (fM sort text v row col)):=by
 have hne:d≠self:=fw hd hi (by simp)
 have hlt:=bC hd
 refine' fW (H₁:=_) ?c ?e
 rotate_left
 refine' d8 (args':=[.obj self,.str sort,.str text,v,.int row,.int col]) (ns:=[J0 "self",J0 "sort",J0 "text",J0 "value",J0 "row",J0 "column"]) ?ho ?hcd ?hb ?hloc ?hk ?hco ?hgen ?hcell ?hS ?h
 case ho=>exact jj
 case hcd=>exact jk
 case hloc=>decide
 case hk=>rfl
 case hco=>rfl
 case hgen=>rfl
 case hcell=>decide
 case hS=>exact⟨by decide,by decide⟩
 case hb=>exact Hh
 case h=>
  intro S
  exact(Es.cons (aR (EL S M1) (EL S M0) (by walk_at"lk") (by walk_at"lk") .new v7 (by simp))
  (Es.cons (aR (EL S M2) (EL S M0) (by walk_at"lk") (by walk_at"lk") (.there rz .new) v0 (by simp))
  (Es.cons (aR (EL S M3) (EL S M0) (by walk_at"lk") (by walk_at"lk") (.there pp (.there pe .new)) ur (by simp))
  (Es.cons (aR (EL S M4) (EL S M0) (by walk_at"lk") (by walk_at"lk") (.there tv (.there fR (.there rl .new))) yF (by simp))
  (Es.cons (aR (EL S M5) (EL S M0) (by walk_at"lk") (by walk_at"lk") (.there nN (.there dh (.there lQ (.there b9 .new)))) so (by simp))
  Es.nil)))))
 case e=>simp[List.set_set]
theorem gB{H:List O}{sort text:Str}{v:V}{row col:Int} :
  Cl GG 0 (.top 139) [.str sort,.str text,v,.int row,.int col] H (.obj (H.length+1)) (H++[fM sort text v row col]++[.inst 139 H.length]):=
 mP EB (fW (uY cj aF) bx)
theorem uf{H:List O}{self d items:Nat}{row col:Int}(hi:H[self]?=some (.inst 167 d))(hd:H[d]?=some (.dict [])) :
  Co GG 0 (.top 157) [.obj self,.obj items,.int row,.int col] H .none (H.set d (dA items row col)):=by
 have hne:d≠self:=fw hd hi (by simp)
 have hlt:=bC hd
 refine' fW (H₁:=_) ?c ?e
 rotate_left
 refine' d8 (args':=[.obj self,.obj items,.int row,.int col]) (ns:=[J0 "self",J0 "items",J0 "row",J0 "column"]) ?ho ?hcd ?hb ?hloc ?hk ?hco ?hgen ?hcell ?hS ?h
 case ho=>exact jj
 case hcd=>exact jk
 case hloc=>decide
 case hk=>rfl
 case hco=>rfl
 case hgen=>rfl
 case hcell=>decide
 case hS=>exact⟨by decide,by decide⟩
 case hb=>exact GR
 case h=>
  intro S
  exact(Es.cons (aR (EL S M1) (EL S M0) (by walk_at"lk") (by walk_at"lk") .new uq (by simp))
  (Es.cons (aR (EL S M2) (EL S M0) (by walk_at"lk") (by walk_at"lk") (.there rE .new) yE (by simp))
  (Es.cons (aR (EL S M3) (EL S M0) (by walk_at"lk") (by walk_at"lk") (.there l0 (.there b9 .new)) sm (by simp))
  Es.nil)))
 case e=>simp[List.set_set]
theorem ue{H:List O}{items:Nat}{row col:Int} :
  Cl GG 0 (.top 167) [.obj items,.int row,.int col] H (.obj (H.length+1)) (H++[dA items row col]++[.inst 167 H.length]):=
 mP EA (fW (uf cj aF) bx)
theorem sT{H:List O}{self d:Nat}{kind value:V}{b:Bool}(hi:H[self]?=some (.inst 399 d))(hd:H[d]?=some (.dict [])) :
  Co GG 0 (.top 382) [.obj self,kind,value,.bool b] H .none (H.set d (eu kind value b)):=by
 have hne:d≠self:=fw hd hi (by simp)
 have hlt:=bC hd
 refine' fW (H₁:=_) ?c ?e
 rotate_left
 refine' d8 (args':=[.obj self,kind,value,.bool b]) (ns:=[J0 "self",J0 "kind",J0 "value",J0 "is_any"]) ?ho ?hcd ?hb ?hloc ?hk ?hco ?hgen ?hcell ?hS ?h
 case ho=>exact jj
 case hcd=>exact jk
 case hloc=>decide
 case hk=>rfl
 case hco=>rfl
 case hgen=>rfl
 case hcell=>decide
 case hS=>exact⟨by decide,by decide⟩
 case hb=>exact GR
 case h=>
  intro S
  exact(Es.cons (aR (EL S M1) (EL S M0) (by walk_at"lk") (by walk_at"lk") .new vY (by simp))
  (Es.cons (aR (EL S M2) (EL S M0) (by walk_at"lk") (by walk_at"lk") (.there ca .new) um (by simp))
  (Es.cons (aR (EL S M3) (EL S M0) (by walk_at"lk") (by walk_at"lk") (.there nW (.there lP .new)) sj (by simp))
  Es.nil)))
 case e=>simp[List.set_set]
theorem a0{H:List O}{kind value:V}{b:Bool} :
  Cl GG 0 (.top 399) [kind,value,.bool b] H (.obj (H.length+1)) (H++[eu kind value b]++[.inst 399 H.length]):=
 mP Ey (fW (sT cj aF) bx)
theorem vw{H:List O}{self d:Nat}{T:Str}(hi:H[self]?=some (.inst 295 d))(hd:H[d]?=some (.dict [])) :
  Co GG 0 (.top 214) [.obj self,.str T] H .none (H.set d (bI T 0 1 1 H.length)++[.list []]):=by
 have hne:d≠self:=fw hd hi (by simp)
 have hlt:=bC hd
 have hls:=bC hi
 refine' fW (H₁:=_) ?c ?e
 rotate_left
 refine' d8 (args':=[.obj self,.str T]) (ns:=[J0 "self",J0 "text"]) ?ho ?hcd ?hb ?hloc ?hk ?hco ?hgen ?hcell ?hS ?h
 case ho=>exact jj
 case hcd=>exact jk
 case hloc=>decide
 case hk=>rfl
 case hco=>rfl
 case hgen=>rfl
 case hcell=>decide
 case hS=>exact⟨by decide,by decide⟩
 case hb=>exact jZ
 case h=>
  intro S
  exact(Es.cons (aR (EL S M1) (EL S M0) (by walk_at"lk") (by walk_at"lk") .new vZ (by simp))
  (Es.cons (aR ac (EL S M0) (by walk_at"lk") (by walk_at"lk") (.there jf .new) oN (by simp))
  (Es.cons (aR ac (EL S M0) (by walk_at"lk") (by walk_at"lk") (.there fR (.there qi .new)) qC (by simp))
  (Es.cons (aR ac (EL S M0) (by walk_at"lk") (by walk_at"lk") (.there dh (.there gE (.there b9 .new))) gG (by simp))
  (Es.cons (aR (Ev.list ap.nil (bG rfl)) (EL S M0) (by walk_at"lk") (by walk_at"lk") (.there eD (.there tH (.there rC (.there mi .new)))) uo (by simp))
  Es.nil)))))
 case e=>simp[List.set_set,List.set_append_left,hlt]
theorem vu{H:List O}{T:Str} :
  Cl GG 0 (.top 295) [.str T] H (.obj (H.length+1)) (H++[bI T 0 1 1 (H.length+2)]++[.inst 295 H.length]++[.list []]):=by
 have h:=vw (T:=T) (H:=H++[.dict []]++[.inst 295 H.length]) cj aF
 rw[bx] at h
 exact mP Ez (fW h (by simp))
theorem x5{H:List O}{self d f:Nat}{T:Str}{n r c:Int}(hi:H[self]?=some (.inst 295 d))(hd:H[d]?=some (bI T n r c f))(hz:T.length≤J5) :
  Co GG 0 (.top 221) [.obj self] H (.str (Txt.slice T (some n) (some (n+1)))) H:=by
 refine' aG (hb:=cI) (ns:=["self"]) ?h
 case h=>
 intro S
 exact(Es.ret (Ex.ret (bJ (AT (EL S M0) dL) (aZ (AT (EL S M0) cO)) (aZ (ak (AT (EL S M0) cO) ac dq)) (by assumption))))
theorem DI:∀ P,List.lookup 58 (Y6 P)=some (excClassObj "BadText" "BadText" 58 57 [.ref 38] [.ref 38,.type "Exception",.type "BaseException",.type "object"] true [] [] false none none (some (.ref 42)) none (some (.str "BadText" 228)) (some (.str "BadText" 236)) (some (.bool true)) "Exception.__new__"):=by intro P;k_is
theorem DH:∀ P,List.lookup 77 (Y6 P)=some (excClassObj "LeftOut" "LeftOut" 77 76 [.ref 38] [.ref 38,.type "Exception",.type "BaseException",.type "object"] true [] [] false none none (some (.ref 61)) none (some (.str "LeftOut" 256)) (some (.str "LeftOut" 264)) (some (.bool true)) "Exception.__new__"):=by intro P;k_is
theorem Dq:typeOf (.type "Exception")=pure (.type "type"):=by kernel_rfl
theorem wS:Manifest.isStub "Exception" = false:=by kernel_rfl
theorem uV{H:List O}{self:Nat}{why:Str}(hi:H[self]?=some (.exc 58 none)) :
  Co GG 2 (.top 35) [.obj self,.str why] H .none (H.set self (.exc 58 (some H.length))++[.dict [(J0 "why",.str why)]]):=by
 refine' d8 (args':=[.obj self,.str why]) (ns:=[J0 "self",J0 "why"]) ?ho ?hcd ?hb ?hloc ?hk ?hco ?hgen ?hcell ?hS ?h
 case ho=>exact jj
 case hcd=>exact jk
 case hloc=>decide
 case hk=>rfl
 case hco=>rfl
 case hgen=>rfl
 case hcell=>decide
 case hS=>exact⟨by decide,by decide⟩
 case hb=>exact jZ
 case h=>
 intro S
 exact(Es.cons (Ex.expr (au (ET S lB lI jW) (Bs Dq wS xc rfl) trivial (AB (EL S M0) (EL S M1)) (oZ hi DI C2 (by simp))))
 (Es.cons (lF (EL S M1) (EL S M0) (by walk_at"lk") yH)
 Es.nil))
theorem uU{H:List O}{self:Nat}{why:Str}(hi:H[self]?=some (.exc 77 none)) :
  Co GG 2 (.top 35) [.obj self,.str why] H .none (H.set self (.exc 77 (some H.length))++[.dict [(J0 "why",.str why)]]):=by
 refine' d8 (args':=[.obj self,.str why]) (ns:=[J0 "self",J0 "why"]) ?ho ?hcd ?hb ?hloc ?hk ?hco ?hgen ?hcell ?hS ?h
 case ho=>exact jj
 case hcd=>exact jk
 case hloc=>decide
 case hk=>rfl
 case hco=>rfl
 case hgen=>rfl
 case hcell=>decide
 case hS=>exact⟨by decide,by decide⟩
 case hb=>exact jZ
 case h=>
 intro S
 exact(Es.cons (Ex.expr (au (ET S lB lI jW) (Bs Dq wS xc rfl) trivial (AB (EL S M0) (EL S M1)) (oZ hi DH C2 (by simp))))
 (Es.cons (lF (EL S M1) (EL S M0) (by walk_at"lk") yG)
 Es.nil))
noncomputable abbrev bU(why:Str)(row col:Int):O:=.dict [(J0 "why",.str why),(J0 "row",.int row),(J0 "column",.int col)]
noncomputable abbrev ll(why:Str)(at_:Int):O:=.dict [(J0 "why",.str why),(J0 "at",.int at_)]
theorem CV{H:List O}{self:Nat}{why:Str}{row col:Int}(hi:H[self]?=some (.exc 58 none)) :
  Co GG 6 (.top 55) [.obj self,.str why,.int row,.int col] H .none (H.set self (.exc 58 (some H.length))++[bU why row col]):=by
 have hlt:=bC hi
 have hne:H.length≠self:=by lia
 have h2:(H.set self (.exc 58 (some H.length))++[O.dict [(J0 "why",.str why)]])[self]?=some (.exc 58 (some H.length)):=cF (cR hlt)
 have h3:(H.set self (.exc 58 (some H.length))++[O.dict [(J0 "why",.str why)]])[H.length]?=some (O.dict [(J0 "why",.str why)]):=by
  have:H.length=(H.set self (.exc 58 (some H.length))).length:=by simp
  rw[this];simp
 have h4:=bC h3
 refine' fW (H₁:=_) ?c ?e
 rotate_left
 refine' d8 (args':=[.obj self,.str why,.int row,.int col]) (ns:=[J0 "self",J0 "why",J0 "row",J0 "column"]) ?ho ?hcd ?hb ?hloc ?hk ?hco ?hgen ?hcell ?hS ?h
 case ho=>exact jj
 case hcd=>exact jk
 case hloc=>decide
 case hk=>rfl
 case hco=>rfl
 case hgen=>rfl
 case hcell=>decide
 case hS=>exact⟨by decide,by decide⟩
 case hb=>exact GR
 case h=>
  intro S
  exact(Es.cons (Ex.expr (au (EG S lA) (Gm.cls xe xf) F8 (AB (EL S M0) (EL S M1)) ((uV hi).cl)))
  (Es.cons (gJ (EL S M2) (EL S M0) (by walk_at"lk") (by walk_at"lk") (.there nz .new) yI (by simp))
  (Es.cons (gJ (EL S M3) (EL S M0) (by walk_at"lk") (by walk_at"lk") (.there iV (.there b9 .new)) sq (by simp))
  Es.nil)))
 case e=>
 have:H.length=(H.set self (.exc 58 (some H.length))).length:=by simp
 simp[List.set_set,List.set_append_right]
theorem dH{H:List O}{why:Str}{row col:Int}:Cl GG 6 (.top 58) [.str why,.int row,.int col] H (.obj H.length) (H++[.exc 58 (some (H.length+1))]++[bU why row col]):=by
 refine uN DI C2 FV (fW (CV aB) ?_) (hz:=by simp)
 simp[List.set_append_right]
theorem Cg{H:List O}{self:Nat}{why:Str}{at_:Int}(hi:H[self]?=some (.exc 77 none)) :
  Co GG 6 (.top 74) [.obj self,.str why,.int at_] H .none (H.set self (.exc 77 (some H.length))++[ll why at_]):=by
 have hlt:=bC hi
 have hne:H.length≠self:=by lia
 have h2:(H.set self (.exc 77 (some H.length))++[O.dict [(J0 "why",.str why)]])[self]?=some (.exc 77 (some H.length)):=cF (cR hlt)
 have h3:(H.set self (.exc 77 (some H.length))++[O.dict [(J0 "why",.str why)]])[H.length]?=some (O.dict [(J0 "why",.str why)]):=by
  have:H.length=(H.set self (.exc 77 (some H.length))).length:=by simp
  rw[this];simp
 have h4:=bC h3
 refine' fW (H₁:=_) ?c ?e
 rotate_left
 refine' d8 (args':=[.obj self,.str why,.int at_]) (ns:=[J0 "self",J0 "why",J0 "at"]) ?ho ?hcd ?hb ?hloc ?hk ?hco ?hgen ?hcell ?hS ?h
 case ho=>exact jj
 case hcd=>exact jk
 case hloc=>decide
 case hk=>rfl
 case hco=>rfl
 case hgen=>rfl
 case hcell=>decide
 case hS=>exact⟨by decide,by decide⟩
 case hb=>exact iN
 case h=>
  intro S
  exact(Es.cons (Ex.expr (au (EG S lA) (Gm.cls xe xf) F8 (AB (EL S M0) (EL S M1)) ((uU hi).cl)))
  (Es.cons (gJ (EL S M2) (EL S M0) (by walk_at"lk") (by walk_at"lk") (.there qg .new) A9 (by simp))
  Es.nil))
 case e=>simp[List.set_set,List.set_append_right]
theorem Cf{H:List O}{why:Str}{at_:Int}:Cl GG 6 (.top 77) [.str why,.int at_] H (.obj H.length) (H++[.exc 77 (some (H.length+1))]++[ll why at_]):=by
 refine uN DH C2 FU (fW (Cg aB) ?_) (hz:=by simp)
 simp[List.set_append_right]
section
variable {H:List O}{tk br d bd its:Nat}{sort text want:Str}{v:V}{row col:Int}{xs:List V}
theorem ci(hi:H[tk]?=some (.inst 139 d))(hD:H[d]?=some (fM sort text v row col))(hs:sort=want):Co GG 1 (.top 179) [.obj tk,.str want] H (.bool true) H:=by
 have hs':(sort==want)=true:=by simp[hs]
 refine' fJ (args':=[.obj tk,.str want,.none]) (ns:=[J0 "item",J0 "sort",J0 "text"]) ?ho ?hcd ?hb ?hloc ?hk ?hco ?hgen ?hcell ?hS ?h
 case ho=>exact jj
 case hcd=>exact jk
 case hloc=>decide
 case hk=>rfl
 case hco=>rfl
 case hgen=>rfl
 case hcell=>decide
 case hS=>exact⟨by decide,by decide⟩
 case hb=>exact⟨rfl,by decide,fun P s ρ vs X h=>by obtain⟨a,b,rfl,h1,h2,_⟩:=h.c2;exact⟨[a,b,.none],binds_K (K:=hd.heap_39 P) X rfl (show List.lookup _ (hd.heap_39 P)=_ from by k_is) rfl rfl rfl,h1,h2,rfl,trivial⟩⟩
 case h=>
 intro S
 exact(Es.ret (Ex.ret (fU (CB S aU aV aJ (AB (EL S M0) (EG S eS)) (gA hi ⟨_,hD⟩ sB)) (dZ Tv.bool rfl) (fU (bo (AT (EL S M0) cz) (EL S M1) ae) (dZ Tv.bool (by assumption)) (fV (wl (bo (EL S M2) ai bk) (dZ Tv.bool rfl)))))))
theorem jK(hi:H[tk]?=some (.inst 139 d))(hD:H[d]?=some (fM sort text v row col))(hs:sort≠want):Co GG 1 (.top 179) [.obj tk,.str want] H (.bool false) H:=by
 have hs':(sort==want)=false:=by simpa using hs
 rw[←hs']
 refine' fJ (args':=[.obj tk,.str want,.none]) (ns:=[J0 "item",J0 "sort",J0 "text"]) ?ho ?hcd ?hb ?hloc ?hk ?hco ?hgen ?hcell ?hS ?h
 case ho=>exact jj
 case hcd=>exact jk
 case hloc=>decide
 case hk=>rfl
 case hco=>rfl
 case hgen=>rfl
 case hcell=>decide
 case hS=>exact⟨by decide,by decide⟩
 case hb=>exact⟨rfl,by decide,fun P s ρ vs X h=>by obtain⟨a,b,rfl,h1,h2,_⟩:=h.c2;exact⟨[a,b,.none],binds_K (K:=hd.heap_39 P) X rfl (show List.lookup _ (hd.heap_39 P)=_ from by k_is) rfl rfl rfl,h1,h2,rfl,trivial⟩⟩
 case h=>
 intro S
 exact(Es.ret (Ex.ret (fU (CB S aU aV aJ (AB (EL S M0) (EG S eS)) (gA hi ⟨_,hD⟩ sB)) (dZ Tv.bool rfl) (iO (bo (AT (EL S M0) cz) (EL S M1) ae) (dZ Tv.bool (by assumption))))))
theorem jL(hi:H[br]?=some (.inst 167 bd))(hD:H[bd]?=some (dA its row col)):Co GG 1 (.top 179) [.obj br,.str want] H (.bool false) H:=by
 refine' fJ (args':=[.obj br,.str want,.none]) (ns:=[J0 "item",J0 "sort",J0 "text"]) ?ho ?hcd ?hb ?hloc ?hk ?hco ?hgen ?hcell ?hS ?h
 case ho=>exact jj
 case hcd=>exact jk
 case hloc=>decide
 case hk=>rfl
 case hco=>rfl
 case hgen=>rfl
 case hcell=>decide
 case hS=>exact⟨by decide,by decide⟩
 case hb=>exact⟨rfl,by decide,fun P s ρ vs X h=>by obtain⟨a,b,rfl,h1,h2,_⟩:=h.c2;exact⟨[a,b,.none],binds_K (K:=hd.heap_39 P) X rfl (show List.lookup _ (hd.heap_39 P)=_ from by k_is) rfl rfl rfl,h1,h2,rfl,trivial⟩⟩
 case h=>
 intro S
 exact(Es.ret (Ex.ret (iO (CB S aU aV aJ (AB (EL S M0) (EG S eS)) (uO hi ⟨_,hD⟩ CX)) (dZ Tv.bool rfl))))
end
theorem o4{H:List O}{x bits:Int}(h0:0≤bits)(h1:bits≤1000000):Co GG 0 (.top 21) [.int x,.int bits] H (.int (Builtin.bitAnd x (1*2 ^ bits.toNat-1))) H:=by
 refine' aG (hb:=jZ) (ns:=["x","bits"]) ?h
 case h=>
 intro S
 exact(Es.ret (Ex.ret (ak (EL S M0) (ak (ak ac (EL S M1) (fY (by assumption) (by assumption) (by lia))) ac cU) Dg)))
section
variable {H:List O}{tk br d bd its:Nat}{sort text want why:Str}{v:V}{row col r c:Int}{xs:List V}
theorem qt(hB:H[br]?=some (.inst 167 bd))(hBd:H[bd]?=some (dA its r c))(hL:H[its]?=some (.list (.obj tk::xs)))(hz:(V.obj tk::xs).length≤J5)(hi:H[tk]?=some (.inst 139 d))(hD:H[d]?=some (fM sort text v row col))(hs:sort="word") :
  Co GG 1 (.top 164) [.obj br] H (.str text) H:=by
 have hs':(sort == "word")=true:=by simp[hs]
 refine' aG (hb:=cI) (ns:=["self"]) ?h
 case h=>
 intro S
 exact(Es.cons (NM S (aj (k:=true) (TC (CB S aM aN aA (AA (AT (EL S M0) aW)) (ar hL hz)) ac gP) (Ev.item (AT (EL S M0) aW) ac GL)))
 (Es.ret (Ex.ret (aj (k:=true) (TT (ah (av (TT (Te.val (CB S aU aV aJ (AB (EL S M1) (EG S eS)) (gA hi ⟨_,hD⟩ sB)) Tv.bool)) (av (TC (AT (EL S M1) cz) aa ae) cD)))) (AT (EL S M1) bK)))))
theorem yb(hB:H[br]?=some (.inst 167 bd))(hBd:H[bd]?=some (dA its r c))(hL:H[its]?=some (.list (.obj tk::xs)))(hz:(V.obj tk::xs).length≤J5)(hi:H[tk]?=some (.inst 139 d))(hD:H[d]?=some (fM sort text v row col))(hs:sort≠"word") :
  Co GG 1 (.top 164) [.obj br] H (.str "") H:=by
 have hs':(sort == "word")=false:=by simpa using hs
 refine' aG (hb:=cI) (ns:=["self"]) ?h
 case h=>
 intro S
 exact(Es.cons (NM S (aj (k:=true) (TC (CB S aM aN aA (AA (AT (EL S M0) aW)) (ar hL hz)) ac gP) (Ev.item (AT (EL S M0) aW) ac GL)))
 (Es.ret (Ex.ret (aj (k:=false) (TT (ah (av (TT (Te.val (CB S aU aV aJ (AB (EL S M1) (EG S eS)) (gA hi ⟨_,hD⟩ sB)) Tv.bool)) (am (TC (AT (EL S M1) cz) aa ae))))) aa))))
theorem kB{w:Str}(hB:H[br]?=some (.inst 167 bd))(hBd:H[bd]?=some (dA its r c))(h:Co GG 1 (.top 164) [.obj br] H (.str w) H):Co GG 3 (.top 335) [.obj br] H (.str w) H:=by
 refine' aG (hb:=cI) (ns:=["item"]) ?h
 case h=>
 intro S
 exact(Es.ret (Ex.ret (aj (k:=true) (TT (Te.val (CB S aU aV aJ (AB (EL S M0) (EG S oR)) (gA hB ⟨_,hBd⟩ EF)) Tv.bool)) (au (EL S M0) (GI wh) Gh ap.nil (h.cl)))))
theorem om(hi:H[tk]?=some (.inst 139 d))(hD:H[d]?=some (fM sort text v row col)):Co GG 3 (.top 335) [.obj tk] H (.str "") H:=by
 refine' aG (hb:=cI) (ns:=["item"]) ?h
 case h=>
 intro S
 exact(Es.ret (Ex.ret (aj (k:=false) (TT (Te.val (CB S aU aV aJ (AB (EL S M0) (EG S oR)) (uO hi ⟨_,hD⟩ CY)) Tv.bool)) aa)))
theorem fp(hB:H[br]?=some (.inst 167 bd))(hBd:H[bd]?=some (dA its r c)):Co GG 8 (.top 342) [.str why,.obj br] H (.obj H.length) (H++[.exc 58 (some (H.length+1))]++[bU why r c]):=by
 refine' aG (hb:=jZ) (ns:=["why","item"]) ?h
 case h=>
 intro S
 exact(Es.ret (Ex.ret (CG S bR mz (AC (EL S M0) (AT (EL S M1) iS) (AT (EL S M1) gU)) (dH))))
theorem ig(hi:H[tk]?=some (.inst 139 d))(hD:H[d]?=some (fM sort text v row col)):Co GG 8 (.top 342) [.str why,.obj tk] H (.obj H.length) (H++[.exc 58 (some (H.length+1))]++[bU why row col]):=by
 refine' aG (hb:=jZ) (ns:=["why","item"]) ?h
 case h=>
 intro S
 exact(Es.ret (Ex.ret (CG S bR mz (AC (EL S M0) (AT (EL S M1) cX) (AT (EL S M1) bN)) (dH))))
theorem rP{w:Str}(hB:H[br]?=some (.inst 167 bd))(hBd:H[bd]?=some (dA its r c))(h:Co GG 1 (.top 164) [.obj br] H (.str w) H):Co GG 8 (.top 424) [.obj br] H (.obj H.length) (H++[.exc 77 (some (H.length+1))]++[ll w r]):=by
 refine' aG (hb:=cI) (ns:=["branch"]) ?h
 case h=>
 intro S
 exact(Es.ret (Ex.ret (CG S qJ GP (AB (CG S aL cW (AA (EL S M0)) ((kB hB hBd h).cl)) (AT (EL S M0) iS)) (Cf))))
end
theorem qc{α:Type}:∀ xs:List α,(List.range xs.length).filterMap (fun i=>xs[i]?)=xs
 | []=>rfl
 | x::xs=>by
  rw[List.length_cons,List.range_succ_eq_map,List.filterMap_cons,List.filterMap_map]
  simp only[List.getElem?_cons_zero]
  congr 1
  have:((fun i=>(x::xs)[i]?) ∘ Nat.succ)=fun i=>xs[i]?:=by funext i;simp
  rw[this];exact qc xs
theorem dg{x:V}{xs:List V}:ft (x::xs) (some 1) none none=xs:=by
 have e1:(sliceBounds (some 1) none none (x::xs).length)=(1,((xs.length+1:Nat):Int),1):=by
  unfold sliceBounds
  simp
  lia
 unfold ft
 rw[e1]
 unfold sliceRange
 simp only[show((1:Int) > 0) from by decide,if_true]
 have e2:(if(1:Int)<((xs.length+1:Nat):Int) then(((xs.length+1:Nat):Int)-1+1-1) / 1 else 0).toNat=xs.length:=by
  by_cases h:xs.length=0
  ·simp[h]
  rw[if_pos (by lia)];simp
 rw[e2,List.filterMap_map]
 have:((fun i=>(x::xs)[i]?) ∘ fun(k:Nat)=>(1+1*(k:Int)).toNat)=fun i=>xs[i]?:=by
  funext i
  have:(1+(i:Int)).toNat=i+1:=by lia
  simp[Function.comp,this]
 rw[this];exact qc xs
section
variable {H:List O}{tk br d bd its:Nat}{sort text want why:Str}{v:V}{row col r c least most:Int}{x0:V}{xs:List V}
theorem xK(hi:H[tk]?=some (.inst 139 d))(hD:H[d]?=some (fM sort text v row col))(hs:sort="string")(hb:∀ n,v≠.bi n):Co GG 10 (.top 349) [.obj tk] H v H:=by
 refine' aG (hb:=cI) (ns:=["item"]) ?h
 case h=>
 intro S
 exact(Es.cons (IF (TT (aO (Te.val (CG S aP dC (AB (EL S M0) aa) ((ci hi hD hs).cl)) Tv.bool))) Es.nil)
 (Es.ret (Ex.ret (AT (EL S M0) aX))))
theorem nt(hi:H[tk]?=some (.inst 139 d))(hD:H[d]?=some (fM sort text v row col))(hs:sort≠"string"):da GG 10 (.top 349) [.obj tk] H H.length (H++[.excT 58 (some (H.length+1))]++[bU "a string is wanted" row col]):=by
 have e:(H++[O.exc 58 (some (H.length+1))]++[bU "a string is wanted" row col]).set H.length (.excT 58 (some (H.length+1)))=H++[.excT 58 (some (H.length+1))]++[bU "a string is wanted" row col]:=bx
 rw[←e]
 refine' cx (hb:=cI) (ns:=["item"]) ?h ?hH
 case h=>
  intro S
  exact(bv.one (bA (b:=true) (TT (aO (Te.val (CG S aP dC (AB (EL S M0) aa) ((jK hi hD hs).cl)) Tv.bool))) (bv.one (bj (CG S dN lC (AB aa (EL S M0)) ((ig hi hD).cl)) (by walk_at"lk") ek))))
 case hH=>exact .inl aF
theorem xM(hB:H[br]?=some (.inst 167 bd))(hBd:H[bd]?=some (dA its r c)):da GG 10 (.top 349) [.obj br] H H.length (H++[.excT 58 (some (H.length+1))]++[bU "a string is wanted" r c]):=by
 have e:(H++[O.exc 58 (some (H.length+1))]++[bU "a string is wanted" r c]).set H.length (.excT 58 (some (H.length+1)))=H++[.excT 58 (some (H.length+1))]++[bU "a string is wanted" r c]:=bx
 rw[←e]
 refine' cx (hb:=cI) (ns:=["item"]) ?h ?hH
 case h=>
  intro S
  exact(bv.one (bA (b:=true) (TT (aO (Te.val (CG S aP dC (AB (EL S M0) aa) ((jL hB hBd).cl)) Tv.bool))) (bv.one (bj (CG S dN lC (AB aa (EL S M0)) ((fp hB hBd).cl)) (by walk_at"lk") ek))))
 case hH=>exact .inl aF
end
section
variable {H:List O}{tk br d bd its:Nat}{sort text want why:Str}{v:V}{row col r c least most:Int}{x0:V}{xs:List V}
theorem xF(hB:H[br]?=some (.inst 167 bd))(hBd:H[bd]?=some (dA its r c))(hL:H[its]?=some (.list (x0::xs)))(hz:xs.length+1≤1000)(h1:least≤xs.length) :
  Co GG 10 (.top 356) [.obj br,.int least,.none] H (.obj H.length) (H++[.list xs]):=by
 have hz1:(x0::xs).length≤J5:=by rw[J9];simp;lia
 have hz2:xs.length≤J5:=by rw[J9];lia
 have e:H++[O.list (ft (x0::xs) (some 1) none none)]=H++[O.list xs]:=by rw[dg]
 have hN:(H++[O.list (ft (x0::xs) (some 1) none none)])[H.length]?=some (.list xs):=by rw[e];simp
 have c1:decide ((xs.length:Int)<least)=false:=by simp;lia
 rw[←e]
 refine' aG (hb:=iN) (ns:=["branch","least","most"]) ?h
 case h=>
 intro S
 exact(Es.cons (NM S (fe (AT (EL S M0) aW) (aZ ac) a9 a9 (by walk_at"lk") (by simp) (by assumption)))
 (Es.cons (IF (TT (ah (aw (TC (CB S aM aN aA (AA (EL S M3)) (ar hN hz2)) (EL S M1) bQ) (aw (TT (ah (am (TC (EL S M2) ai aS)))) bh)))) Es.nil)
 (Es.ret (Ex.ret (EL S M3)))))
theorem zP{most:Int}(hB:H[br]?=some (.inst 167 bd))(hBd:H[bd]?=some (dA its r c))(hL:H[its]?=some (.list (x0::xs)))(hz:xs.length+1≤1000)(h1:least≤xs.length)(h2:(xs.length:Int)≤most) :
  Co GG 10 (.top 356) [.obj br,.int least,.int most] H (.obj H.length) (H++[.list xs]):=by
 have hz1:(x0::xs).length≤J5:=by rw[J9];simp;lia
 have hz2:xs.length≤J5:=by rw[J9];lia
 have e:H++[O.list (ft (x0::xs) (some 1) none none)]=H++[O.list xs]:=by rw[dg]
 have hN:(H++[O.list (ft (x0::xs) (some 1) none none)])[H.length]?=some (.list xs):=by rw[e];simp
 have c1:decide ((xs.length:Int)<least)=false:=by simp;lia
 have c2:decide (most<(xs.length:Int))=false:=by simp;lia
 rw[←e]
 refine' aG (hb:=iN) (ns:=["branch","least","most"]) ?h
 case h=>
 intro S
 exact(Es.cons (NM S (fe (AT (EL S M0) aW) (aZ ac) a9 a9 (by walk_at"lk") (by simp) (by assumption)))
 (Es.cons (IF (TT (ah (aw (TC (CB S aM aN aA (AA (EL S M3)) (ar hN hz2)) (EL S M1) bQ) (aw (TT (ah (av (TC (EL S M2) ai aS) (am (TC (CB S aM aN aA (AA (EL S M3)) (ar hN hz2)) (EL S M2) gP))))) bh)))) Es.nil)
 (Es.ret (Ex.ret (EL S M3)))))
noncomputable abbrev zQ(xs:List V)(H:List O)(r c:Int):List O:=H++[.list xs]++[.excT 58 (some (H.length+2))]++[bU "another number of parts is wanted" r c]
theorem xG{mo:V}(hB:H[br]?=some (.inst 167 bd))(hBd:H[bd]?=some (dA its r c))(hL:H[its]?=some (.list (x0::xs)))(hz:xs.length+1≤1000)(h1:(xs.length:Int)<least) :
  da GG 10 (.top 356) [.obj br,.int least,mo] H (H.length+1) (zQ xs H r c):=by
 have hz1:(x0::xs).length≤J5:=by rw[J9];simp;lia
 have hz2:xs.length≤J5:=by rw[J9];lia
 have hN:(H++[O.list xs])[H.length]?=some (.list xs):=by simp
 have c1:decide ((xs.length:Int)<least)=true:=by simp;lia
 have hr:=fp (why:="another number of parts is wanted") (cF (l:=[.list xs]) hB) (cF (l:=[.list xs]) hBd)
 have e:zQ xs H r c=((H++[O.list xs])++[O.exc 58 (some ((H++[O.list xs]).length+1))]++[bU "another number of parts is wanted" r c]).set (H++[O.list xs]).length (.excT 58 (some ((H++[O.list xs]).length+1))):=by
  rw[bx];simp
 have e2:H.length+1=(H++[O.list xs]).length:=by simp
 rw[e,e2]
 rw[←dg (x:=x0) (xs:=xs)] at hr hN c1 ⊢
 refine' cx (hb:=iN) (ns:=["branch","least","most"]) ?h ?hH
 case h=>
  intro S
  exact(bv.cons (NM S (fe (AT (EL S M0) aW) (aZ ac) a9 a9 (by walk_at"lk") (by simp) (by assumption)))
  (bv.one (bA (b:=true) (TT (ah (cJ (TC (CB S aM aN aA (AA (EL S M3)) (ar hN (by rw[dg];exact hz2))) (EL S M1) bQ)))) (bv.one (bj (CG S dN lC (AB aa (EL S M0)) (hr.cl)) (by walk_at"lk") ek)))))
 case hH=>exact .inl aF
theorem vg{most:Int}(hB:H[br]?=some (.inst 167 bd))(hBd:H[bd]?=some (dA its r c))(hL:H[its]?=some (.list (x0::xs)))(hz:xs.length+1≤1000)(h1:least≤xs.length)(h2:most<(xs.length:Int)) :
  da GG 10 (.top 356) [.obj br,.int least,.int most] H (H.length+1) (zQ xs H r c):=by
 have hz1:(x0::xs).length≤J5:=by rw[J9];simp;lia
 have hz2:xs.length≤J5:=by rw[J9];lia
 have hN:(H++[O.list xs])[H.length]?=some (.list xs):=by simp
 have c1:decide ((xs.length:Int)<least)=false:=by simp;lia
 have c2:decide (most<(xs.length:Int))=true:=by simp;lia
 have hr:=fp (why:="another number of parts is wanted") (cF (l:=[.list xs]) hB) (cF (l:=[.list xs]) hBd)
 have e:zQ xs H r c=((H++[O.list xs])++[O.exc 58 (some ((H++[O.list xs]).length+1))]++[bU "another number of parts is wanted" r c]).set (H++[O.list xs]).length (.excT 58 (some ((H++[O.list xs]).length+1))):=by
  rw[bx];simp
 have e2:H.length+1=(H++[O.list xs]).length:=by simp
 rw[e,e2]
 rw[←dg (x:=x0) (xs:=xs)] at hr hN c1 c2 ⊢
 refine' cx (hb:=iN) (ns:=["branch","least","most"]) ?h ?hH
 case h=>
  intro S
  exact(bv.cons (NM S (fe (AT (EL S M0) aW) (aZ ac) a9 a9 (by walk_at"lk") (by simp) (by assumption)))
  (bv.one (bA (b:=true) (TT (ah (aw (TC (CB S aM aN aA (AA (EL S M3)) (ar hN (by rw[dg];exact hz2))) (EL S M1) bQ) (cJ (TT (ah (av (TC (EL S M2) ai aS) (av (TC (CB S aM aN aA (AA (EL S M3)) (ar hN (by rw[dg];exact hz2))) (EL S M2) gP) cD)))))))) (bv.one (bj (CG S dN lC (AB aa (EL S M0)) (hr.cl)) (by walk_at"lk") ek)))))
 case hH=>exact .inl aF
end
noncomputable abbrev fZ(text:Str):Bool:=!(Builtin.Str.occurrences (J0 "+-") (Txt.item text 0) 0 (J0 "+-").length 1).isEmpty
section
variable {H:List O}{tk br d bd its:Nat}{sort text want why:Str}{v:V}{row col r c half bits val:Int}
theorem Av(hi:H[tk]?=some (.inst 139 d))(hD:H[d]?=some (fM "int" text (.int val) row col))(hb:1≤bits)(hb2:bits≤1000)(hh:1*2 ^ (bits-1).toNat=half)(ht:0<text.length)
  (h1:-half≤val) (h2:val<if fZ text then half else 2*half):Co GG 10 (.top 320) [.obj tk,.int bits] H (.int (if half≤val then val-2*half else val)) H:=by
 subst hh
 have b1:(0:Int)≤bits-1:=by lia
 have b2:bits-1≤1000000:=by lia
 have c1:decide (-(1*2 ^ (bits-1).toNat)≤val)=true:=by simpa using h1
 cases hs:fZ text with
 | true=>
  rw[hs,if_pos rfl] at h2
  have c2:decide (val<1*2 ^ (bits-1).toNat)=true:=by simpa using h2
  have c3:decide (1*2 ^ (bits-1).toNat≤val)=false:=by rw[decide_eq_false_iff_not];lia
  rw[if_neg (by simpa using c3)]
  refine' aG (hb:=jZ) (ns:=["token","bits"]) ?h
  case h=>
  intro S
  exact(Es.cons (IF (TT (aO (Te.val (CG S aP dC (AB (EL S M0) aa) ((ci hi hD rfl).cl)) Tv.bool))) Es.nil)
  (Es.cons (NM S (ak ac (ak (EL S M1) ac cU) (fY (by assumption) (by assumption) (by lia))))
  (Es.cons (NM S (aj (k:=true) (TC (Ev.item (AT (EL S M0) bK) ac (bE.str (by lia) (by lia) (by decide))) aa aT) (EL S M2)))
  (Es.cons (IF (TT (aO (d0 (aK (EL S M2)) (AT (EL S M0) aX) (dQ cC (by assumption)) (EL S M3) bQ)) (GH (by assumption))) Es.nil)
  (Es.ret (Ex.ret (aj (k:=false) (TC (AT (EL S M0) aX) (EL S M2) oY) (AT (EL S M0) aX))))))))
 | false=>
 rw[hs,if_neg (by decide)] at h2
 have c2:decide (val<2*(1*2 ^ (bits-1).toNat))=true:=by simpa using h2
 by_cases c3':1*2 ^ (bits-1).toNat≤val
 ·have c3:decide (1*2 ^ (bits-1).toNat≤val)=true:=by simpa using c3'
  rw[if_pos c3']
  refine' aG (hb:=jZ) (ns:=["token","bits"]) ?h
  case h=>
  intro S
  exact(Es.cons (IF (TT (aO (Te.val (CG S aP dC (AB (EL S M0) aa) ((ci hi hD rfl).cl)) Tv.bool))) Es.nil)
  (Es.cons (NM S (ak ac (ak (EL S M1) ac cU) (fY (by assumption) (by assumption) (by lia))))
  (Es.cons (NM S (aj (k:=false) (TC (Ev.item (AT (EL S M0) bK) ac (bE.str (by lia) (by lia) (by decide))) aa aT) (ak ac (EL S M2) (gS (IntMulOk.of_left (by decide))))))
  (Es.cons (IF (TT (aO (d0 (aK (EL S M2)) (AT (EL S M0) aX) (dQ cC (by assumption)) (EL S M3) bQ)) (GH (by assumption))) Es.nil)
  (Es.ret (Ex.ret (aj (k:=true) (TC (AT (EL S M0) aX) (EL S M2) oY) (ak (AT (EL S M0) aX) (ak ac (EL S M2) (gS (IntMulOk.of_left (by decide)))) cU))))))))
 have c3:decide (1*2 ^ (bits-1).toNat≤val)=false:=by simpa using c3'
 rw[if_neg c3']
 refine' aG (hb:=jZ) (ns:=["token","bits"]) ?h
 case h=>
 intro S
 exact(Es.cons (IF (TT (aO (Te.val (CG S aP dC (AB (EL S M0) aa) ((ci hi hD rfl).cl)) Tv.bool))) Es.nil)
 (Es.cons (NM S (ak ac (ak (EL S M1) ac cU) (fY (by assumption) (by assumption) (by lia))))
 (Es.cons (NM S (aj (k:=false) (TC (Ev.item (AT (EL S M0) bK) ac (bE.str (by lia) (by lia) (by decide))) aa aT) (ak ac (EL S M2) (gS (IntMulOk.of_left (by decide))))))
 (Es.cons (IF (TT (aO (d0 (aK (EL S M2)) (AT (EL S M0) aX) (dQ cC (by assumption)) (EL S M3) bQ)) (GH (by assumption))) Es.nil)
 (Es.ret (Ex.ret (aj (k:=false) (TC (AT (EL S M0) aX) (EL S M2) oY) (AT (EL S M0) aX))))))))
end
section
variable {H:List O}{tk br d bd its:Nat}{sort text want why:Str}{v:V}{row col r c half bits val:Int}
theorem xY(hi:H[tk]?=some (.inst 139 d))(hD:H[d]?=some (fM sort text v row col))(hs:sort≠"int"):da GG 10 (.top 320) [.obj tk,.int bits] H H.length (H++[.excT 58 (some (H.length+1))]++[bU "unexpected token" row col]):=by
 have e:(H++[O.exc 58 (some (H.length+1))]++[bU "unexpected token" row col]).set H.length (.excT 58 (some (H.length+1)))=H++[.excT 58 (some (H.length+1))]++[bU "unexpected token" row col]:=bx
 rw[←e]
 refine' cx (hb:=jZ) (ns:=["token","bits"]) ?h ?hH
 case h=>
  intro S
  exact(bv.one (bA (b:=true) (TT (aO (Te.val (CG S aP dC (AB (EL S M0) aa) ((jK hi hD hs).cl)) Tv.bool))) (bv.one (bj (CG S bR mz (AC aa (AT (EL S M0) cX) (AT (EL S M0) bN)) (dH)) (by walk_at"lk") ek))))
 case hH=>exact .inl aF
theorem Aw(hB:H[br]?=some (.inst 167 bd))(hBd:H[bd]?=some (dA its r c)):da GG 10 (.top 320) [.obj br,.int bits] H H.length (H++[.excT 58 (some (H.length+1))]++[bU "unexpected token" r c]):=by
 have e:(H++[O.exc 58 (some (H.length+1))]++[bU "unexpected token" r c]).set H.length (.excT 58 (some (H.length+1)))=H++[.excT 58 (some (H.length+1))]++[bU "unexpected token" r c]:=bx
 rw[←e]
 refine' cx (hb:=jZ) (ns:=["token","bits"]) ?h ?hH
 case h=>
  intro S
  exact(bv.one (bA (b:=true) (TT (aO (Te.val (CG S aP dC (AB (EL S M0) aa) ((jL hB hBd).cl)) Tv.bool))) (bv.one (bj (CG S bR mz (AC aa (AT (EL S M0) iS) (AT (EL S M0) gU)) (dH)) (by walk_at"lk") ek))))
 case hH=>exact .inl aF
theorem xZ(hi:H[tk]?=some (.inst 139 d))(hD:H[d]?=some (fM "int" text (.int val) row col))(hb:1≤bits)(hb2:bits≤1000)(hh:1*2 ^ (bits-1).toNat=half)(ht:0<text.length)
  (hn:¬ (-half≤val∧val<if fZ text then half else 2*half)):da GG 10 (.top 320) [.obj tk,.int bits] H H.length (H++[.excT 58 (some (H.length+1))]++[bU "constant out of range" row col]):=by
 have e:(H++[O.exc 58 (some (H.length+1))]++[bU "constant out of range" row col]).set H.length (.excT 58 (some (H.length+1)))=H++[.excT 58 (some (H.length+1))]++[bU "constant out of range" row col]:=bx
 rw[←e]
 subst hh
 have b1:(0:Int)≤bits-1:=by lia
 have b2:bits-1≤1000000:=by lia
 by_cases h1:-(1*2 ^ (bits-1).toNat)≤val
 ·have c1:decide (-(1*2 ^ (bits-1).toNat)≤val)=true:=decide_eq_true h1
  cases hs:fZ text with
  | true=>
   have c2:decide (val<1*2 ^ (bits-1).toNat)=false:=decide_eq_false fun h=>hn ⟨h1,by rw[hs,if_pos rfl];exact h⟩
   refine' cx (hb:=jZ) (ns:=["token","bits"]) ?h ?hH
   case h=>
    intro S
    exact(bv.cons (IF (TT (aO (Te.val (CG S aP dC (AB (EL S M0) aa) ((ci hi hD rfl).cl)) Tv.bool))) Es.nil)
    (bv.cons (NM S (ak ac (ak (EL S M1) ac cU) (fY (by assumption) (by assumption) (by lia))))
    (bv.cons (NM S (aj (k:=true) (TC (Ev.item (AT (EL S M0) bK) ac (bE.str (by lia) (by lia) (by decide))) aa aT) (EL S M2)))
    (bv.one (bA (b:=true) (TT (aO (d0 (aK (EL S M2)) (AT (EL S M0) aX) (dQ cC (by assumption)) (EL S M3) bQ)) (Fy (by assumption))) (bv.one (bj (CG S bR mz (AC aa (AT (EL S M0) cX) (AT (EL S M0) bN)) (dH)) (by walk_at"lk") ek)))))))
   case hH=>exact .inl aF
  | false=>
  have c2:decide (val<2*(1*2 ^ (bits-1).toNat))=false:=decide_eq_false fun h=>hn ⟨h1,by rw[hs,if_neg (by decide)];exact h⟩
  refine' cx (hb:=jZ) (ns:=["token","bits"]) ?h ?hH
  case h=>
   intro S
   exact(bv.cons (IF (TT (aO (Te.val (CG S aP dC (AB (EL S M0) aa) ((ci hi hD rfl).cl)) Tv.bool))) Es.nil)
   (bv.cons (NM S (ak ac (ak (EL S M1) ac cU) (fY (by assumption) (by assumption) (by lia))))
   (bv.cons (NM S (aj (k:=false) (TC (Ev.item (AT (EL S M0) bK) ac (bE.str (by lia) (by lia) (by decide))) aa aT) (ak ac (EL S M2) (gS (IntMulOk.of_left (by decide))))))
   (bv.one (bA (b:=true) (TT (aO (d0 (aK (EL S M2)) (AT (EL S M0) aX) (dQ cC (by assumption)) (EL S M3) bQ)) (Fy (by assumption))) (bv.one (bj (CG S bR mz (AC aa (AT (EL S M0) cX) (AT (EL S M0) bN)) (dH)) (by walk_at"lk") ek)))))))
  case hH=>exact .inl aF
 have c1:decide (-(1*2 ^ (bits-1).toNat)≤val)=false:=decide_eq_false h1
 cases hs:fZ text with
 | true=>
  refine' cx (hb:=jZ) (ns:=["token","bits"]) ?h ?hH
  case h=>
   intro S
   exact(bv.cons (IF (TT (aO (Te.val (CG S aP dC (AB (EL S M0) aa) ((ci hi hD rfl).cl)) Tv.bool))) Es.nil)
   (bv.cons (NM S (ak ac (ak (EL S M1) ac cU) (fY (by assumption) (by assumption) (by lia))))
   (bv.cons (NM S (aj (k:=true) (TC (Ev.item (AT (EL S M0) bK) ac (bE.str (by lia) (by lia) (by decide))) aa aT) (EL S M2)))
   (bv.one (bA (b:=true) (TT (aO (fC (aK (EL S M2)) (AT (EL S M0) aX) (dQ cC (by assumption))))) (bv.one (bj (CG S bR mz (AC aa (AT (EL S M0) cX) (AT (EL S M0) bN)) (dH)) (by walk_at"lk") ek)))))))
  case hH=>exact .inl aF
 | false=>
 refine' cx (hb:=jZ) (ns:=["token","bits"]) ?h ?hH
 case h=>
  intro S
  exact(bv.cons (IF (TT (aO (Te.val (CG S aP dC (AB (EL S M0) aa) ((ci hi hD rfl).cl)) Tv.bool))) Es.nil)
  (bv.cons (NM S (ak ac (ak (EL S M1) ac cU) (fY (by assumption) (by assumption) (by lia))))
  (bv.cons (NM S (aj (k:=false) (TC (Ev.item (AT (EL S M0) bK) ac (bE.str (by lia) (by lia) (by decide))) aa aT) (ak ac (EL S M2) (gS (IntMulOk.of_left (by decide))))))
  (bv.one (bA (b:=true) (TT (aO (fC (aK (EL S M2)) (AT (EL S M0) aX) (dQ cC (by assumption))))) (bv.one (bj (CG S bR mz (AC aa (AT (EL S M0) cX) (AT (EL S M0) bN)) (dH)) (by walk_at"lk") ek)))))))
 case hH=>exact .inl aF
end
section
variable {H:List O}{tk br d bd its:Nat}{sort text want why:Str}{v:V}{row col r c half bits val:Int}
theorem DP(hi:H[tk]?=some (.inst 139 d))(hD:H[d]?=some (fM "int" text (.int val) row col))(ht:0<text.length)(hs:fZ text=false)(h:val<2 ^ 32):Co GG 10 (.top 327) [.obj tk] H (.int val) H:=by
 have c1:decide ((2:Int) ^ (32:Int).toNat≤val)=false:=decide_eq_false (Int.not_le.mpr h)
 refine' aG (hb:=cI) (ns:=["token"]) ?h
 case h=>
 intro S
 exact(Es.cons (IF (TT (ah (aw (TT (aO (Te.val (CG S aP dC (AB (EL S M0) aa) ((ci hi hD rfl).cl)) Tv.bool))) (aw (TC (Ev.item (AT (EL S M0) bK) ac (bE.str (by lia) (by lia) (by decide))) aa aT) bh)))) Es.nil)
 (Es.cons (IF (TC (AT (EL S M0) aX) (ak ac ac (bM (by lia) (by lia) (by lia))) oY) Es.nil)
 (Es.ret (Ex.ret (AT (EL S M0) aX)))))
theorem BT(hi:H[tk]?=some (.inst 139 d))(hD:H[d]?=some (fM sort text v row col))(hs:sort≠"int"):da GG 10 (.top 327) [.obj tk] H H.length (H++[.excT 58 (some (H.length+1))]++[bU "unexpected token" row col]):=by
 have e:(H++[O.exc 58 (some (H.length+1))]++[bU "unexpected token" row col]).set H.length (.excT 58 (some (H.length+1)))=H++[.excT 58 (some (H.length+1))]++[bU "unexpected token" row col]:=bx
 rw[←e]
 refine' cx (hb:=cI) (ns:=["token"]) ?h ?hH
 case h=>
  intro S
  exact(bv.one (bA (b:=true) (TT (ah (cJ (TT (aO (Te.val (CG S aP dC (AB (EL S M0) aa) ((jK hi hD hs).cl)) Tv.bool)))))) (bv.one (bj (CG S bR mz (AC aa (AT (EL S M0) cX) (AT (EL S M0) bN)) (dH)) (by walk_at"lk") ek))))
 case hH=>exact .inl aF
theorem DQ(hB:H[br]?=some (.inst 167 bd))(hBd:H[bd]?=some (dA its r c)):da GG 10 (.top 327) [.obj br] H H.length (H++[.excT 58 (some (H.length+1))]++[bU "unexpected token" r c]):=by
 have e:(H++[O.exc 58 (some (H.length+1))]++[bU "unexpected token" r c]).set H.length (.excT 58 (some (H.length+1)))=H++[.excT 58 (some (H.length+1))]++[bU "unexpected token" r c]:=bx
 rw[←e]
 refine' cx (hb:=cI) (ns:=["token"]) ?h ?hH
 case h=>
  intro S
  exact(bv.one (bA (b:=true) (TT (ah (cJ (TT (aO (Te.val (CG S aP dC (AB (EL S M0) aa) ((jL hB hBd).cl)) Tv.bool)))))) (bv.one (bj (CG S bR mz (AC aa (AT (EL S M0) iS) (AT (EL S M0) gU)) (dH)) (by walk_at"lk") ek))))
 case hH=>exact .inl aF
theorem zm(hi:H[tk]?=some (.inst 139 d))(hD:H[d]?=some (fM "int" text (.int val) row col))(ht:0<text.length)(hs:fZ text=true):da GG 10 (.top 327) [.obj tk] H H.length (H++[.excT 58 (some (H.length+1))]++[bU "unexpected token" row col]):=by
 have e:(H++[O.exc 58 (some (H.length+1))]++[bU "unexpected token" row col]).set H.length (.excT 58 (some (H.length+1)))=H++[.excT 58 (some (H.length+1))]++[bU "unexpected token" row col]:=bx
 rw[←e]
 refine' cx (hb:=cI) (ns:=["token"]) ?h ?hH
 case h=>
  intro S
  exact(bv.one (bA (b:=true) (TT (ah (aw (TT (aO (Te.val (CG S aP dC (AB (EL S M0) aa) ((ci hi hD rfl).cl)) Tv.bool))) (cJ (TC (Ev.item (AT (EL S M0) bK) ac (bE.str (by lia) (by lia) (by decide))) aa aT))))) (bv.one (bj (CG S bR mz (AC aa (AT (EL S M0) cX) (AT (EL S M0) bN)) (dH)) (by walk_at"lk") ek))))
 case hH=>exact .inl aF
theorem BU(hi:H[tk]?=some (.inst 139 d))(hD:H[d]?=some (fM "int" text (.int val) row col))(ht:0<text.length)(hs:fZ text=false)(h:2 ^ 32≤val):da GG 10 (.top 327) [.obj tk] H H.length (H++[.excT 58 (some (H.length+1))]++[bU "i32 constant out of range" row col]):=by
 have e:(H++[O.exc 58 (some (H.length+1))]++[bU "i32 constant out of range" row col]).set H.length (.excT 58 (some (H.length+1)))=H++[.excT 58 (some (H.length+1))]++[bU "i32 constant out of range" row col]:=bx
 rw[←e]
 have c1:decide ((2:Int) ^ (32:Int).toNat≤val)=true:=decide_eq_true h
 refine' cx (hb:=cI) (ns:=["token"]) ?h ?hH
 case h=>
  intro S
  exact(bv.cons (IF (TT (ah (aw (TT (aO (Te.val (CG S aP dC (AB (EL S M0) aa) ((ci hi hD rfl).cl)) Tv.bool))) (aw (TC (Ev.item (AT (EL S M0) bK) ac (bE.str (by lia) (by lia) (by decide))) aa aT) bh)))) Es.nil)
  (bv.one (bA (b:=true) (TC (AT (EL S M0) aX) (ak ac ac (bM (by lia) (by lia) (by lia))) oY) (bv.one (bj (CG S bR mz (AC aa (AT (EL S M0) cX) (AT (EL S M0) bN)) (dH)) (by walk_at"lk") ek)))))
 case hH=>exact .inl aF
end
theorem d7{G:cq}{dd:Nat}{f:V}{args:List V}{H H₁ H':List O}{i:Nat}(h:da G dd f args H i H₁)(e:H₁=H'):da G dd f args H i H':=e▸h
section
variable {H H' H₁:List O}{tk br d bd its i C:Nat}{dx:Option Nat}{sort text want why:Str}{v it:V}{row col r c half bits val x:Int}
theorem zV(h1:Co GG 10 (.top 356) [.obj br,.int 1,.int 1] H (.obj H.length) (H++[.list [it]]))(h2:Co GG 10 (.top 320) [it,.int bits] (H++[.list [it]]) (.int x) (H++[.list [it]]))(hb:0≤bits)(hb2:bits≤1000) :
  Co GG 12 (.top 410) [.obj br,.int bits] H (.int (Builtin.bitAnd x (1*2 ^ bits.toNat-1))) (H++[.list [it]]):=by
 have hb3:bits≤1000000:=by lia
 refine' aG (hb:=jZ) (ns:=["branch","bits"]) ?h
 case h=>
 intro S
 exact(Es.ret (Ex.ret (CG S jq EE (AB (CG S oQ Bq (AB (Ev.item (CG S bw fH (AC (EL S M0) ac ac) (h1.cl)) ac GL) (EL S M1)) (h2.cl)) (EL S M1)) ((o4 hb hb3).cl))))
theorem vi(h1:da GG 10 (.top 356) [.obj br,.int 1,.int 1] H i H')(he:H'[i]?=some (.excT C dx)):da GG 12 (.top 410) [.obj br,.int bits] H i H':=by
 refine d7 (H₁:=H'.set i (.excT C dx)) ?_ (bP he)
 refine' cx (hb:=jZ) (ns:=["branch","bits"]) ?h ?hH
 case h=>
  intro S
  exact(bv.one (dl.ret (ej.args (EG S jq) EE (gc.here (ej.args (EG S oQ) Bq (gc.here (ej.item (ej.call (EG S bw) fH (AC (EL S M0) ac ac) (h1.cl))) (by repeat (first | exact bD.nil | refine bD.cons ?_ (fun _=>rfl))))) (by repeat (first | exact bD.nil | refine bD.cons ?_ (fun _=>rfl)))))))
 case hH=>exact .inr he
theorem nv(h1:Co GG 10 (.top 356) [.obj br,.int 1,.int 1] H (.obj H.length) (H++[.list [it]]))(h2:da GG 10 (.top 320) [it,.int bits] (H++[.list [it]]) i H')(he:H'[i]?=some (.excT C dx)):da GG 12 (.top 410) [.obj br,.int bits] H i H':=by
 refine d7 (H₁:=H'.set i (.excT C dx)) ?_ (bP he)
 refine' cx (hb:=jZ) (ns:=["branch","bits"]) ?h ?hH
 case h=>
  intro S
  exact(bv.one (dl.ret (ej.args (EG S jq) EE (gc.here (ej.call (EG S oQ) Bq (AB (Ev.item (CG S bw fH (AC (EL S M0) ac ac) (h1.cl)) ac GL) (EL S M1)) (h2.cl)) (by repeat (first | exact bD.nil | refine bD.cons ?_ (fun _=>rfl)))))))
 case hH=>exact .inr he
end
noncomputable abbrev ip:List (Int×PyData):=[(-16,.str "func"),(-17,.str "extern")]
noncomputable abbrev Ar:List (Int×PyData):=[(-1,.str "i32"),(-2,.str "i64"),(-16,.str "funcref"),(-17,.str "externref")]
theorem si:∀ P,KTD.keyedLook (fun b=>List.lookup b (Y6 P)) 93 ip=true:=by intro P;kernel_rfl
theorem FH:∀ P,KTD.keyedLook (fun b=>List.lookup b (Y6 P)) 92 Ar=true:=by intro P;kernel_rfl
section
variable {H H' H₁:List O}{k:Int}{w:Str}
theorem fy:Co GG 0 (.top 100) [.int k] H (.bool (KTD.inKeys k ip)) H:=by
 refine' aG (hb:=cI) (ns:=["kind"]) ?h
 case h=>
 intro S
 exact(Es.ret (Ex.ret (bo (EL S M0) (EG S bY) (BI si))))
theorem i6(hk:(Spec.lookup (PyData.int k) (Ar.map fun p=>(PyData.int p.1,p.2))).getD (.str "unknown")=.str w):Co GG 2 (.top 107) [.int k] H (.str w) H:=by
 refine' aG (hb:=cI) (ns:=["kind"]) ?h
 case h=>
 intro S
 exact(Es.ret (Ex.ret (au (EG S sv) (Gm.get FH) trivial (AB (EL S M0) aa) (y6 FH hk))))
end
section
variable {H H' H₁:List O}{k val:Int}{w x:Str}{self d:Nat}
theorem u5{kv:V}:Co GG 4 (.top 363) [kv,.none] H (.str "null") H:=by
 refine' aG (hb:=jZ) (ns:=["kind","value"]) ?h
 case h=>
 intro S
 exact(Es.ret (Ex.ret (aj (k:=true) (TC (EL S M1) ai bk) aa)))
theorem xz(hw:Co GG 2 (.top 107) [.int k] H (.str w) H)(h1:val.natAbs.log2<1920)(hz:w.length+1≤1000)(hz2:(J0 (toString val)).length≤10000) :
  Co GG 4 (.top 363) [.int k,.int val] H (.str (w++" "++J0 (toString val))) H:=by
 have z1:w.length+(J0 " ").length≤J5:=by rw[J9];have:(J0 " ").length=1:=rfl;lia
 have z2:(w++(J0 " ")).length+(J0 (toString val)).length≤J5:=by
  rw[J9]
  have e:(w++J0 " ").length=w.length+1:=Str.length_append _ _
  lia
 refine' aG (hb:=jZ) (ns:=["kind","value"]) ?h
 case h=>
 intro S
 exact(Es.ret (Ex.ret (aj (k:=false) (TC (EL S M1) ai bk) (ak (ak (CG S lx DG (AA (EL S M0)) (hw.cl)) aa (bS (by assumption))) (CT S qG qU kO (AA (EL S M1)) (kT h1)) (bS (by assumption))))))
end
section
variable {H H' H₁:List O}{k kk val:Int}{w x:Str}{self d:Nat}{vv wv:V}
theorem xu{b:Bool}(hi:H[self]?=some (.inst 399 d))(hD:H[d]?=some (eu .none vv b)):Co GG 6 (.top 396) [.obj self] H (.str "a null") H:=by
 refine' aG (hb:=cI) (ns:=["self"]) ?h
 case h=>
 intro S
 exact(Es.ret (IT (TC (AT (EL S M0) ay) ai bk) (Es.ret (Ex.ret aa))))
theorem zA(hi:H[self]?=some (.inst 399 d))(hD:H[d]?=some (eu (.int k) vv true))(hw:Co GG 2 (.top 107) [.int k] H (.str w) H)(hz:w.length≤1000):Co GG 6 (.top 396) [.obj self] H (.str ("some "++w)) H:=by
 have z1:(J0 "some ").length+w.length≤J5:=by rw[J9];have:(J0 "some ").length=5:=rfl;lia
 refine' aG (hb:=cI) (ns:=["self"]) ?h
 case h=>
 intro S
 exact(Es.cons (IF (TC (AT (EL S M0) ay) ai bk) Es.nil)
 (Es.ret (Ex.ret (aj (k:=true) (TT (Te.val (AT (EL S M0) bu) Tv.bool)) (ak aa (CG S lx DG (AA (AT (EL S M0) ay)) (hw.cl)) (bS (by assumption)))))))
theorem zu(hi:H[self]?=some (.inst 399 d))(hD:H[d]?=some (eu (.int k) vv false))(hv:∀ n,vv≠.bi n)(hw:Co GG 4 (.top 363) [.int k,vv] H (.str w) H):Co GG 6 (.top 396) [.obj self] H (.str w) H:=by
 refine' aG (hb:=cI) (ns:=["self"]) ?h
 case h=>
 intro S
 exact(Es.cons (IF (TC (AT (EL S M0) ay) ai bk) Es.nil)
 (Es.ret (Ex.ret (aj (k:=false) (TT (Te.val (AT (EL S M0) bu) Tv.bool)) (CG S sr Bo (AB (AT (EL S M0) ay) (AT (EL S M0) cg)) (hw.cl))))))
end
section
variable {H H' H₁:List O}{k kk val wal:Int}{w x:Str}{self d:Nat}{vv wv:V}{b:Bool}
theorem yi(hi:H[self]?=some (.inst 399 d))(hD:H[d]?=some (eu (.int kk) wv b))(hn:k≠kk):Co GG 6 (.top 389) [.obj self,.int k,vv] H (.bool false) H:=by
 have c1:(k != kk)=true:=by simpa using hn
 refine' aG (hb:=iN) (ns:=["self","kind","value"]) ?h
 case h=>
 intro S
 exact(Es.ret (IT (TT (ah (av (TC (AT (EL S M0) ay) ai aS) (av (TC (EL S M1) (AT (EL S M0) ay) bZ) cD)))) (Es.ret (Ex.ret bn))))
theorem vH(hi:H[self]?=some (.inst 399 d))(hD:H[d]?=some (eu .none wv b))(hn:KTD.inKeys k ip=false):Co GG 6 (.top 389) [.obj self,.int k,vv] H (.bool false) H:=by
 refine' aG (hb:=iN) (ns:=["self","kind","value"]) ?h
 case h=>
 intro S
 exact(Es.cons (IF (TT (ah (am (TC (AT (EL S M0) ay) ai aS)))) Es.nil)
 (Es.ret (IT (TT (ah (av (TC (AT (EL S M0) ay) ai bk) (av (TT (aO (Te.val (CG S iB uB (AA (EL S M1)) (fy.cl)) Tv.bool))) cD)))) (Es.ret (Ex.ret bn)))))
theorem vI(hi:H[self]?=some (.inst 399 d))(hD:H[d]?=some (eu (.int k) wv true)):Co GG 6 (.top 389) [.obj self,.int k,vv] H (.bool (!vv.isNone)) H:=by
 have c1:(k != k)=false:=by simp
 refine' aG (hb:=iN) (ns:=["self","kind","value"]) ?h
 case h=>
 intro S
 exact(Es.cons (IF (TT (ah (av (TC (AT (EL S M0) ay) ai aS) (am (TC (EL S M1) (AT (EL S M0) ay) bZ))))) Es.nil)
 (Es.cons (IF (TT (ah (am (TC (AT (EL S M0) ay) ai bk)))) Es.nil)
 (Es.ret (Ex.ret (aj (k:=true) (TT (Te.val (AT (EL S M0) bu) Tv.bool)) (bo (EL S M2) ai aS))))))
theorem ym(hi:H[self]?=some (.inst 399 d))(hD:H[d]?=some (eu (.int k) (.int wal) false)):Co GG 6 (.top 389) [.obj self,.int k,(.int val)] H (.bool (val==wal)) H:=by
 have c1:(k != k)=false:=by simp
 refine' aG (hb:=iN) (ns:=["self","kind","value"]) ?h
 case h=>
 intro S
 exact(Es.cons (IF (TT (ah (av (TC (AT (EL S M0) ay) ai aS) (am (TC (EL S M1) (AT (EL S M0) ay) bZ))))) Es.nil)
 (Es.cons (IF (TT (ah (am (TC (AT (EL S M0) ay) ai bk)))) Es.nil)
 (Es.ret (Ex.ret (aj (k:=false) (TT (Te.val (AT (EL S M0) bu) Tv.bool)) (bo (EL S M2) (AT (EL S M0) cg) bF))))))
theorem yl(hi:H[self]?=some (.inst 399 d))(hD:H[d]?=some (eu (.int k) .none false)):Co GG 6 (.top 389) [.obj self,.int k,(.int val)] H (.bool false) H:=by
 have c1:(k != k)=false:=by simp
 refine' aG (hb:=iN) (ns:=["self","kind","value"]) ?h
 case h=>
 intro S
 exact(Es.cons (IF (TT (ah (av (TC (AT (EL S M0) ay) ai aS) (am (TC (EL S M1) (AT (EL S M0) ay) bZ))))) Es.nil)
 (Es.cons (IF (TT (ah (am (TC (AT (EL S M0) ay) ai bk)))) Es.nil)
 (Es.ret (Ex.ret (aj (k:=false) (TT (Te.val (AT (EL S M0) bu) Tv.bool)) (bo (EL S M2) (AT (EL S M0) cg) sN))))))
theorem yk(hi:H[self]?=some (.inst 399 d))(hD:H[d]?=some (eu (.int k) (.int wal) false)):Co GG 6 (.top 389) [.obj self,.int k,.none] H (.bool false) H:=by
 have c1:(k != k)=false:=by simp
 refine' aG (hb:=iN) (ns:=["self","kind","value"]) ?h
 case h=>
 intro S
 exact(Es.cons (IF (TT (ah (av (TC (AT (EL S M0) ay) ai aS) (am (TC (EL S M1) (AT (EL S M0) ay) bZ))))) Es.nil)
 (Es.cons (IF (TT (ah (am (TC (AT (EL S M0) ay) ai bk)))) Es.nil)
 (Es.ret (Ex.ret (aj (k:=false) (TT (Te.val (AT (EL S M0) bu) Tv.bool)) (bo (EL S M2) (AT (EL S M0) cg) sM))))))
theorem yj(hi:H[self]?=some (.inst 399 d))(hD:H[d]?=some (eu (.int k) .none false)):Co GG 6 (.top 389) [.obj self,.int k,.none] H (.bool true) H:=by
 have c1:(k != k)=false:=by simp
 refine' aG (hb:=iN) (ns:=["self","kind","value"]) ?h
 case h=>
 intro S
 exact(Es.cons (IF (TT (ah (av (TC (AT (EL S M0) ay) ai aS) (am (TC (EL S M1) (AT (EL S M0) ay) bZ))))) Es.nil)
 (Es.cons (IF (TT (ah (am (TC (AT (EL S M0) ay) ai bk)))) Es.nil)
 (Es.ret (Ex.ret (aj (k:=false) (TT (Te.val (AT (EL S M0) bu) Tv.bool)) (bo (EL S M2) (AT (EL S M0) cg) sL))))))
theorem yh(hi:H[self]?=some (.inst 399 d))(hD:H[d]?=some (eu .none (.int wal) false))(hn:KTD.inKeys k ip=true):Co GG 6 (.top 389) [.obj self,.int k,(.int val)] H (.bool (val==wal)) H:=by
 refine' aG (hb:=iN) (ns:=["self","kind","value"]) ?h
 case h=>
 intro S
 exact(Es.cons (IF (TT (ah (am (TC (AT (EL S M0) ay) ai aS)))) Es.nil)
 (Es.cons (IF (TT (ah (av (TC (AT (EL S M0) ay) ai bk) (am (TT (aO (Te.val (CG S iB uB (AA (EL S M1)) (fy.cl)) Tv.bool))))))) Es.nil)
 (Es.ret (Ex.ret (aj (k:=false) (TT (Te.val (AT (EL S M0) bu) Tv.bool)) (bo (EL S M2) (AT (EL S M0) cg) bF))))))
theorem yg(hi:H[self]?=some (.inst 399 d))(hD:H[d]?=some (eu .none .none false))(hn:KTD.inKeys k ip=true):Co GG 6 (.top 389) [.obj self,.int k,(.int val)] H (.bool false) H:=by
 refine' aG (hb:=iN) (ns:=["self","kind","value"]) ?h
 case h=>
 intro S
 exact(Es.cons (IF (TT (ah (am (TC (AT (EL S M0) ay) ai aS)))) Es.nil)
 (Es.cons (IF (TT (ah (av (TC (AT (EL S M0) ay) ai bk) (am (TT (aO (Te.val (CG S iB uB (AA (EL S M1)) (fy.cl)) Tv.bool))))))) Es.nil)
 (Es.ret (Ex.ret (aj (k:=false) (TT (Te.val (AT (EL S M0) bu) Tv.bool)) (bo (EL S M2) (AT (EL S M0) cg) sN))))))
theorem yf(hi:H[self]?=some (.inst 399 d))(hD:H[d]?=some (eu .none (.int wal) false))(hn:KTD.inKeys k ip=true):Co GG 6 (.top 389) [.obj self,.int k,.none] H (.bool false) H:=by
 refine' aG (hb:=iN) (ns:=["self","kind","value"]) ?h
 case h=>
 intro S
 exact(Es.cons (IF (TT (ah (am (TC (AT (EL S M0) ay) ai aS)))) Es.nil)
 (Es.cons (IF (TT (ah (av (TC (AT (EL S M0) ay) ai bk) (am (TT (aO (Te.val (CG S iB uB (AA (EL S M1)) (fy.cl)) Tv.bool))))))) Es.nil)
 (Es.ret (Ex.ret (aj (k:=false) (TT (Te.val (AT (EL S M0) bu) Tv.bool)) (bo (EL S M2) (AT (EL S M0) cg) sM))))))
theorem ye(hi:H[self]?=some (.inst 399 d))(hD:H[d]?=some (eu .none .none false))(hn:KTD.inKeys k ip=true):Co GG 6 (.top 389) [.obj self,.int k,.none] H (.bool true) H:=by
 refine' aG (hb:=iN) (ns:=["self","kind","value"]) ?h
 case h=>
 intro S
 exact(Es.cons (IF (TT (ah (am (TC (AT (EL S M0) ay) ai aS)))) Es.nil)
 (Es.cons (IF (TT (ah (av (TC (AT (EL S M0) ay) ai bk) (am (TT (aO (Te.val (CG S iB uB (AA (EL S M1)) (fy.cl)) Tv.bool))))))) Es.nil)
 (Es.ret (Ex.ret (aj (k:=false) (TT (Te.val (AT (EL S M0) bu) Tv.bool)) (bo (EL S M2) (AT (EL S M0) cg) sL))))))
end
section
variable {H:List O}{why text:Str}
theorem xv:Co GG 2 (.top 445) [.str why,.str text] H (.bool (Txt.startswith why text || Txt.startswith text why)) H:=by
 cases hs:Txt.startswith why text with
 | true=>
  rw[Bool.true_or,← hs]
  refine' aG (hb:=jZ) (ns:=["why","text"]) ?h
  case h=>
  intro S
  exact(Es.ret (Ex.ret (wl (au (EL S M0) (Gm.str PySem.GM.startswith) trivial (AA (EL S M1)) (kU)) (dZ Tv.bool (by assumption)))))
 | false=>
 rw[Bool.false_or]
 refine' aG (hb:=jZ) (ns:=["why","text"]) ?h
 case h=>
 intro S
 exact(Es.ret (Ex.ret (By (au (EL S M0) (Gm.str PySem.GM.startswith) trivial (AA (EL S M1)) (kU)) (dZ Tv.bool (by assumption)) (fV (au (EL S M1) (Gm.str PySem.GM.startswith) trivial (AA (EL S M0)) (kU))))))
end
section
open PyProof.V
section
variable {G:cq}{dd:Nat}{fn:bW}{ls:List (Str×V)}{H H₁:List O}{c:Cx}{ρ:List Addr}{s:Shared}
theorem yc{kvs:List (Int×Value)}{D:List (PyData×PyData)}(h:FlatPairs PyData.int kvs D):kvs.map (fun p=>PyData.int p.1)=D.map (·.1):=by
 induction h with
 | nil=>rfl
 | cons _ _ ih=>simp[ih]
theorem uQ.keys{I a₀:Addr}{ρ₀:List Addr}{kvs:List (Int×Value)}{ep:Nat}(hh:c.A.handled=none)(hd:Heap.DictAt (intKind G.prog c.w) c.base a₀ kvs ep) :
  uQ G c I ρ₀ (kvs.map fun p=>V.int p.1) (fun i o=>o.cls=.type "dict_keyiterator"∧o.data=.fields #[.ref a₀,.int i 0,.int kvs.length 0,.int ep 0]) (fun _=>True) where
 item:=fun i x ls H ρ o s Q E hx hg hp R ho st hQ=>by
  rw[List.getElem?_map,Option.map_eq_some_iff] at hx
  obtain⟨⟨k,v⟩,hk,rfl⟩:=hx
  obtain⟨m,fr,os,W⟩:=R
  have hd':Heap.DictAt (intKind G.prog c.w) s.heap a₀ kvs ep:=by obtain⟨o,es,e1,r⟩:=hd;exact⟨o,es,W.F.keep _ _ e1,r⟩
  refine wpAny_pyNext_dict_item ⟨o,ho,st⟩ hd' hk fun key h' hkey hit' hs=>?_
  obtain⟨o',ho',st'⟩:=hit'
  obtain⟨t,rfl⟩:=Value.isInt_shape hkey
  exact hQ _ h' o' s.toks ⟨t,rfl⟩ ho' st' hs.extBut
 done:=fun ls H ρ o s Q E hg hp R ho st hQ=>by
  obtain⟨m,fr,os,W⟩:=R
  have hd':Heap.DictAt (intKind G.prog c.w) s.heap a₀ kvs ep:=by obtain⟨o,es,e1,r⟩:=hd;exact⟨o,es,W.F.keep _ _ e1,r⟩
  rw[K8] at st
  exact wpAny_pyNext_dict_end hh ⟨o,ho,st⟩ hd' (by simp) fun h' he=>hQ h' s.toks he
theorem Io.keys{e:Expr}{a₀:Addr}{D:List (Int×PyData)}(h:Ev G dd fn e ls H (.top a₀) H₁)(hK:∀ P,KTD.keyedLook (fun b=>(G.K P).lookup b) a₀ D=true)(hs:(a₀==sysModules)=false):Io G dd fn e ls H (D.map fun p=>V.int p.1) (fun _=>True) H₁:=fun c s ρ Q E hc ok R hQ=>by
 refine h c s ρ _ _ hc ok R fun ρ' s' v' hp R' rv=>?_
 obtain rfl:=rv
 obtain⟨_,kvs,⟨o,es,ep,ho,r⟩,hf⟩:=kt_keyed_in ok.X (hK _) G.prog c.w
 have hd:Heap.DictAt (intKind G.prog c.w) c.base a₀ kvs ep:=⟨o,es,ho,r⟩
 have hd':Heap.DictAt (intKind G.prog c.w) s'.heap a₀ kvs ep:=by obtain⟨m,fr,os,W⟩:=R';exact⟨o,es,W.F.keep _ _ ho,r⟩
 have hk:(kvs.map fun p=>V.int p.1)=D.map fun p=>V.int p.1:=by
  have h1:=yc hf
  rw[List.map_map] at h1
  have h2:kvs.map (·.1)=D.map (·.1):=by
   have h3:=congrArg (List.map fun d=>match d with | PyData.int i=>i | _=>0) h1
   simpa [List.map_map,Function.comp_def] using h3
  have h4:=congrArg (List.map V.int) h2
  simpa [List.map_map,Function.comp_def] using h4
 refine wpAny_pyIter_dict hs hd' ?_
 rw[←hk] at hQ
 exact hQ ρ' _ _ _ _ hp (R'.offPush (t:=s'.toks) _) (uQ.keys ok.hA hd) (Q5 _ rfl) ⟨rfl,rfl⟩
end
end
theorem ED:Spec.lookup (PyData.int (-16)) (ip.map fun p=>(PyData.int p.1,p.2))=some (.str "func"):=by first | kernel_rfl | rfl | simp[Spec.lookup,Spec.same]
theorem FX:Spec.lookup (PyData.int (-17)) (ip.map fun p=>(PyData.int p.1,p.2))=some (.str "extern"):=by first | kernel_rfl | rfl | simp[Spec.lookup,Spec.same]
section
variable {H:List O}{w:Str}
theorem tN  : Co GG 2 (.top 114) [.str "func"] H (.int (-16)) H:=by
 refine' aG (hb:=cI) (ns:=["name"]) ?h
 case h=>
 intro S
 exact(Es.ret (gM S (Io.keys (EG S bY) si rfl) (.ret trivial SL (Es.ret (IT (TC (Ev.item (EG S bY) (EL S M1) (bE.tab si ED)) (EL S M0) ae) (Es.ret (Ex.ret (EL S M1))))))))
theorem pJ  : Co GG 2 (.top 114) [.str "extern"] H (.int (-17)) H:=by
 refine' aG (hb:=cI) (ns:=["name"]) ?h
 case h=>
 intro S
 exact(Es.ret (gM S (Io.keys (EG S bY) si rfl) (.cons trivial SL (Es.cons (IF (TC (Ev.item (EG S bY) (EL S M1) (bE.tab si ED)) (EL S M0) ae) Es.nil)
 Es.nil)
  (.ret trivial SL (Es.ret (IT (TC (Ev.item (EG S bY) (EL S M1) (bE.tab si FX)) (EL S M0) ae) (Es.ret (Ex.ret (EL S M1)))))))))
theorem tM(h1:w≠"func")(h2:w≠"extern"):Co GG 2 (.top 114) [.str w] H .none H:=by
 have c1:((J0 "func")==w)=false:=by simpa using Ne.symm h1
 have c2:((J0 "extern")==w)=false:=by simpa using Ne.symm h2
 refine' aG (hb:=cI) (ns:=["name"]) ?h
 case h=>
 intro S
 exact(Es.cons (gM S (Io.keys (EG S bY) si rfl) (.cons trivial SL (Es.cons (IF (TC (Ev.item (EG S bY) (EL S M1) (bE.tab si ED)) (EL S M0) ae) Es.nil)
 Es.nil)
  (.cons trivial SL (Es.cons (IF (TC (Ev.item (EG S bY) (EL S M1) (bE.tab si FX)) (EL S M0) ae) Es.nil)
 Es.nil)
  (.nil trivial))))
 (Es.ret (Ex.ret ai)))
end
inductive gs(dd:Nat)(f:V)(args:List V)(H:List O)(w:Str)(r c:Int):Prop
 | mk (i d:Nat) (H':List O) (p0:da GG dd f args H i H') (p1:Kp [] H H') (p2:H'[i]?=some (.excT 58 (some d))) (p3:H'[d]?=some (bU w r c)):gs dd f args H w r c
inductive BN(dd:Nat)(f:V)(args:List V)(H:List O)(w:Str)(r:Int):Prop
 | mk (i d:Nat) (H':List O) (p0:da GG dd f args H i H') (p1:Kp [] H H') (p2:H'[i]?=some (.excT 77 (some d))) (p3:H'[d]?=some (ll w r)):BN dd f args H w r
inductive PB(H:List O)(i:Nat)(b:LB):Prop
 | mk (e l ht:Nat) (xs:List V) (p0:H[i]?=some (.inst 167 e)) (p1:H[e]?=some (dA l b.row b.col)) (p2:H[l]?=some (.list (.obj ht::xs))) (p3:gq 0 H ht (gF b.head b.row b.col)) (p4:cM 2 H xs (b.things.map (LT.it b.row))) (p5:2≤l):PB H i b
theorem PB.keepI{I:List Nat}{H H':List O}{i:Nat}{b:LB}(h:PB H i b)(hI:KI I 2 H)(k:Kp I H H'):PB H' i b:=
 let ⟨e,l,ht,xs,a1,a2,a3,a4,a5,a6⟩:=h
 have ni:∀ {j:Nat} {o:O},H[j]?=some o→zF o=false→j∉I:=fun {j o} hj hs x=>by
  obtain⟨_,o',ho,hs'⟩:=hI _ x
  rw[hj] at ho;cases ho;rw[hs] at hs';cases hs'
 ⟨e,l,ht,xs,k.get a1 (ni a1 rfl),k.get a2 (ni a2 rfl),k.getLow hI a3 a6,hI.tk k a4,cM.keep hI k a5,a6⟩
theorem PB.keep{H H':List O}{i:Nat}{b:LB}(h:PB H i b)(k:Kp [] H H'):PB H' i b:=
 h.keepI KI.nil k
theorem cM.one{m:Nat}{H:List O}{t:It}{xs:List V}(h:cM m H xs [t]):∃ v,xs=[v]∧iF m H v t:=by
 cases xs with
 | nil=>exact h.elim
 | cons v vs=>
 cases vs with
 | nil=>exact⟨v,rfl,h.1⟩
 | cons _ _=>exact h.2.elim
theorem cM.len{m:Nat}{H:List O}:∀ {vs:List V} {ts:List It},cM m H vs ts→vs.length=ts.length
 | [],[],_=>rfl
 | _::_,_::_,⟨_,b⟩=>by simp[cM.len b]
 | [],_::_,h=>h.elim
 | _::_,[],h=>h.elim
theorem yn{H:List O}{C:Nat}{y:O}:(H++[O.excT C (some (H.length+1))]++[y])[H.length]?=some (.excT C (some (H.length+1)))∧(H++[O.excT C (some (H.length+1))]++[y])[H.length+1]?=some y:=⟨aF,cj⟩
theorem gs.of{dd:Nat}{f:V}{args:List V}{H:List O}{w:Str}{r c:Int}(h:da GG dd f args H H.length (H++[.excT 58 (some (H.length+1))]++[bU w r c])):gs dd f args H w r c:=⟨_,_,_,h,Kp.app.trans Kp.app,yn.1,yn.2⟩
theorem oo{H:List O}{i:Nat}{b:LB}(h:PB H i b)(ok:b.ok):Co GG 1 (.top 164) [.obj i] H (.str b.name) H:=by
 obtain⟨e,l,ht,xs,a1,a2,a3,⟨td,_,_,t1,t2⟩,a5,_⟩:=h
 have o:=AD ok.1
 have hz:(V.obj ht::xs).length≤J5:=by
  have:=a5.len
  rw[J9];simp at this ⊢;have:=ok.2.2;lia
 unfold LB.name rJ
 unfold gF at t2
 by_cases hs:b.head=cps "\"s\""
 ·rw[if_pos hs] at t2 ⊢
  exact(yb a1 a2 a3 hz t1 t2 (by show(J0 "string")≠J0 "word";decide))
 rw[if_neg hs] at t2 ⊢
 rw[o.word hs] at t2
 exact(qt a1 a2 a3 hz t1 t2 rfl)
theorem aD{H:List O}{i:Nat}{b:LB}(h:PB H i b)(ok:b.ok):Co GG 3 (.top 335) [.obj i] H (.str b.name) H:=by
 have hm:=oo h ok
 obtain⟨e,l,ht,xs,a1,a2,_⟩:=h
 exact kB a1 a2 hm
theorem ya{H:List O}{v:V}{t:Th}{r p:Int}(ht:t∈ch)(h:iF 0 H v (fN t r p)):Co GG 3 (.top 335) [v] H (.str (if t.sort="branch" then "a" else "")) H:=by
 have o:=jb ht
 by_cases e:t.sort="branch"
 ·rw[if_pos e]
  unfold fN at h
  rw[if_pos e] at h
  obtain⟨i,b,l,j,rfl,_,a1,a2,a3,td,_,_,t1,t2⟩:=h
  exact kB a1 a2 (qt a1 a2 a3 (by rw[J9];simp) t1 t2 rfl)
 rw[if_neg e]
 unfold fN at h
 rw[if_neg e] at h
 split at h
 ·obtain⟨i,rfl,td,_,_,t1,t2⟩:=h
  exact om t1 t2
 obtain⟨i,rfl,td,_,_,t1,t2⟩:=h
 exact om t1 t2
theorem wD{H:List O}{xs:List V}{r c:Int}{dd:Nat}{f:V}{args:List V}(h:da GG dd f args H (H.length+1) (zQ xs H r c)):gs dd f args H "another number of parts is wanted" r c:=by
 refine⟨_,H.length+2,_,h,(Kp.app.trans Kp.app).trans Kp.app,?_,?_⟩
 ·exact g8 (by rw[Q6 (by simp)];simp)
 rw[Q6 (by simp)];simp
noncomputable def dF(n:Nat)(least:Int)(most:Option Int):Bool:=decide (least≤n) && (match most with | none=>true | some m=>decide ((n:Int)≤m))
theorem gC{H:List O}{i:Nat}{b:LB}{least:Int}{most:Option Int}(h:PB H i b)(ok:b.ok) :
  (dF b.things.length least most=true→∃ xs,Co GG 10 (.top 356) [.obj i,.int least,aI most] H (.obj H.length) (H++[.list xs])∧cM 0 H xs (b.things.map (LT.it b.row)))∧
  (dF b.things.length least most=false→gs 10 (.top 356) [.obj i,.int least,aI most] H "another number of parts is wanted" b.row b.col):=by
 obtain⟨e,l,ht,xs,a1,a2,a3,a4,a5',_⟩:=h
 have a5:=a5'.low (Nat.zero_le 2)
 have hl:xs.length=b.things.length:=by rw[a5.len];simp
 have:=ok.2.2
 unfold dF
 rw[←hl]
 constructor
 ·intro q
  refine⟨xs,?_,a5⟩
  simp only[V2,decide_eq_true_eq] at q
  cases most with
  | none=>exact xF a1 a2 a3 (by lia) q.1
  | some m=>exact zP a1 a2 a3 (by lia) q.1 (by simpa using q.2)
 intro q
 by_cases hle:least≤(xs.length:Int)
 ·cases most with
  | none=>simp[hle] at q
  | some m=>
  have:¬ ((xs.length:Int)≤m):=by simpa [hle] using q
  exact wD (vg a1 a2 a3 (by lia) hle (by lia))
 exact wD (xG a1 a2 a3 (by lia) (by lia))
noncomputable def wb(dd:Nat)(f:V)(args:List V)(H:List O):NR→Prop
 | .bad w r c=>gs dd f args H w r c
 | .num x=>∃ H',Co GG dd f args H (.int x) H'∧Kp [] H H'
theorem gs.low{dd:Nat}{f:V}{args:List V}{H H₀:List O}{w:Str}{r c:Int}{i d:Nat}{H':List O}(h:da GG dd f args H₀ i H')(k:Kp [] H₀ H')(p:H'[i]?=some (.excT 58 (some d)))(q:H'[d]?=some (bU w r c)):True:=trivial
theorem vA{H:List O}{v:V}{t:Th}{r p:Int}{bits:Nat}(ht:t∈ch)(h:iF 0 H v (fN t r p))(hb:1≤bits)(hb2:bits≤1000) :
  (t.sort≠"int"→gs 10 (.top 320) [v,.int bits] H "unexpected token" r p)∧
  (t.sort="int"→(-(2 ^ (bits-1))≤t.value∧t.value<(if lL t.told=true then 2 ^ (bits-1) else 2 ^ bits))→Co GG 10 (.top 320) [v,.int bits] H (.int (if 2 ^ (bits-1)≤t.value then t.value-2*2 ^ (bits-1) else t.value)) H)∧
  (t.sort="int"→¬ (-(2 ^ (bits-1))≤t.value∧t.value<(if lL t.told=true then 2 ^ (bits-1) else 2 ^ bits))→gs 10 (.top 320) [v,.int bits] H "constant out of range" r p):=by
 have o:=jb ht
 have hsg:fZ (aq t.told)=lL t.told:=eq_of_beq (mV oE ht)
 have hh:(1:Int)*2 ^ ((bits:Int)-1).toNat=2 ^ (bits-1):=by
  rw[Int.one_mul];exact congrArg ((2:Int) ^ ·) (Int.toNat_sub bits 1)
 have h2:(2:Int) ^ bits=2*2 ^ (bits-1):=by
  obtain⟨k,rfl⟩:∃ k,bits=k+1:=⟨bits-1,(Nat.sub_add_cancel hb).symm⟩
  rw[Nat.add_sub_cancel,Int.pow_succ,Int.mul_comm]
 have hb':(1:Int)≤(bits:Int):=by lia
 have hb2':(bits:Int)≤1000:=by lia
 refine⟨fun e=>?_,fun e hr=>?_,fun e hr=>?_⟩
 ·rcases fx (r:=r) (c:=p) o e with⟨s,v',q,hs,_⟩ | ⟨_,o',a,c',q,q1,q2,_⟩
  ·rw[q] at h
   obtain⟨i,rfl,td,_,_,t1,t2⟩:=h
   exact gs.of (xY t1 t2 hs)
  rw[q] at h
  obtain⟨i,b,l,j,rfl,_,a1,a2,_⟩:=h
  rw[q1,q2] at a2
  exact gs.of (Aw a1 a2)
 ·rw[eE o e] at h
  obtain⟨i,rfl,td,_,_,t1,t2⟩:=h
  exact Av t1 t2 hb' hb2' hh (by rw[az];exact o.pos) hr.1 (by rw[hsg,← h2];exact hr.2)
 rw[eE o e] at h
 obtain⟨i,rfl,td,_,_,t1,t2⟩:=h
 exact gs.of (xZ t1 t2 hb' hb2' hh (by rw[az];exact o.pos) (by rw[hsg,← h2];exact hr))
theorem gs.lift{dd dd':Nat}{f f':V}{args args':List V}{H H₀:List O}{w:Str}{r c:Int}(h:gs dd f args H₀ w r c)(k:Kp [] H H₀)(g:∀ i H' d,da GG dd f args H₀ i H'→H'[i]?=some (.excT 58 (some d))→da GG dd' f' args' H i H'):gs dd' f' args' H w r c:=by
 obtain⟨i,d,H',h1,k1,p,q⟩:=h
 exact⟨i,d,H',g i H' d h1 p,k.trans k1,p,q⟩
theorem vh{H:List O}{i:Nat}{b:LB}(h:PB H i b)(ok:b.ok) :
  (∃ t v,b.things=[t]∧Co GG 10 (.top 356) [.obj i,.int 1,.int 1] H (.obj H.length) (H++[.list [v]])∧iF 0 H v (fN t.th b.row t.place))∨
  ((∀ t,b.things≠[t])∧gs 10 (.top 356) [.obj i,.int 1,.int 1] H "another number of parts is wanted" b.row b.col):=by
 have hp:=gC (least:=1) (most:=some 1) h ok
 rcases hb:b.things with _ | ⟨t,_ | ⟨u,r⟩⟩
 ·rw[hb] at hp;exact .inr ⟨(fun t e=>by cases e),hp.2 (by decide)⟩
 ·rw[hb] at hp
  obtain⟨xs,h1,h2⟩:=hp.1 rfl
  obtain⟨v,rfl,h3⟩:=cM.one h2
  exact .inl ⟨t,v,rfl,h1,h3⟩
 rw[hb] at hp
 refine .inr ⟨(fun t e=>by cases e),hp.2 ?_⟩
 unfold dF
 simp only[List.length_cons]
 simp
 lia
set_option tactic.hygienic true in
theorem ja{b:LB}{l m:Int}(h:∀ t,b.things≠[t]):bf b l m=.bad "another number of parts is wanted" b.row b.col:=by
 unfold bf
 split
 ·next t e=>exact absurd e (h t)
 rfl
theorem nu{H:List O}{i:Nat}{b:LB}{bits:Nat}(h:PB H i b)(ok:b.ok)(hn:b.name≠"ref.extern")(hb:1≤bits)(hb2:bits≤1000)(hck:ch.all (vS bits)=true) :
  wb 12 (.top 410) [.obj i,.int bits] H (bf b (-2 ^ (bits-1)) (2 ^ bits)):=by
 rcases vh h ok with⟨t,v,e,h1,hA⟩ | ⟨e,h1⟩
 ·have hm:(2:Int) ^ bits / 2=2 ^ (bits-1):=by
   obtain⟨k,rfl⟩:∃ k,bits=k+1:=⟨bits-1,by lia⟩
   rw[Nat.add_sub_cancel,Int.pow_succ];lia
  have ht:t.th∈ch:=ok.2.1 t (by rw[e];exact J6.mpr rfl)
  have hA':iF 0 (H++[.list [v]]) v (fN t.th b.row t.place):=hA.keep (I:=[]) KI.nil Kp.app
  obtain⟨i1,i2,i3⟩:=vA (bits:=bits) ht hA' hb hb2
  unfold bf
  rw[e,hm]
  dsimp only
  by_cases hs:t.th.sort="int"
  ·rw[if_neg (by simp[hs,hn])]
   by_cases hr:-(2 ^ (bits-1))≤t.th.value∧t.th.value<(if lL t.th.told=true then 2 ^ (bits-1) else 2 ^ bits)
   ·rw[if_pos hr]
    refine⟨H++[.list [v]],?_,Kp.app⟩
    have:=zV h1 (i2 hs hr) (by lia) (by lia)
    have hx:Builtin.bitAnd (if 2 ^ (bits-1)≤t.th.value then t.th.value-2*2 ^ (bits-1) else t.th.value) (1*2 ^ bits-1)=t.th.value % 2 ^ bits:=eq_of_beq (mV hck ht)
    rw[←hx]
    exact this
   rw[if_neg hr,if_neg hn]
   exact(i3 hs hr).lift Kp.app fun j H' d q p=>nv h1 q p
  rw[if_pos (.inl hs)]
  exact(i1 hs).lift Kp.app fun j H' d q p=>nv h1 q p
 rw[ja e]
 exact h1.lift Kp.refl fun j H' d q p=>vi q p
theorem zk{H:List O}{v:V}{t:Th}{r p:Int}(ht:t∈ch)(h:iF 0 H v (fN t r p)) :
  ((t.sort≠"int"∨lL t.told=true)→gs 10 (.top 327) [v] H "unexpected token" r p)∧
  (t.sort="int"→lL t.told=false→t.value<2 ^ 32→Co GG 10 (.top 327) [v] H (.int t.value) H)∧
  (t.sort="int"→lL t.told=false→2 ^ 32≤t.value→gs 10 (.top 327) [v] H "i32 constant out of range" r p):=by
 have o:=jb ht
 have hsg:fZ (aq t.told)=lL t.told:=eq_of_beq (mV oE ht)
 have hl:0<(aq t.told).length:=by rw[az];exact o.pos
 refine⟨fun e=>?_,fun e hs hr=>?_,fun e hs hr=>?_⟩
 ·by_cases e1:t.sort="int"
  ·have e2:lL t.told=true:=e.resolve_left (fun q=>q e1)
   rw[eE o e1] at h
   obtain⟨i,rfl,td,_,_,t1,t2⟩:=h
   exact gs.of (zm t1 t2 hl (by rw[hsg,e2]))
  rcases fx (r:=r) (c:=p) o e1 with⟨s,v',q,hs,_⟩ | ⟨_,o',a,c',q,q1,q2,_⟩
  ·rw[q] at h
   obtain⟨i,rfl,td,_,_,t1,t2⟩:=h
   exact gs.of (BT t1 t2 hs)
  rw[q] at h
  obtain⟨i,b,l,j,rfl,_,a1,a2,_⟩:=h
  rw[q1,q2] at a2
  exact gs.of (DQ a1 a2)
 ·rw[eE o e] at h
  obtain⟨i,rfl,td,_,_,t1,t2⟩:=h
  exact DP t1 t2 hl (by rw[hsg,hs]) hr
 rw[eE o e] at h
 obtain⟨i,rfl,td,_,_,t1,t2⟩:=h
 exact gs.of (BU t1 t2 hl (by rw[hsg,hs]) hr)
section
variable {H H':List O}{tk td br bd its i C d:Nat}{sort text:Str}{v:V}{row col r c k:Int}{dx:Option Nat}
theorem qr(h1:Co GG 10 (.top 356) [.obj br,.int 1,.int 1] H (.obj H.length) (H++[.list [.obj tk]]))(hi:(H++[O.list [.obj tk]])[tk]?=some (.inst 139 td))(hD:(H++[O.list [.obj tk]])[td]?=some (fM sort text v row col))(hs:sort="word")(hk:Co GG 2 (.top 114) [.str text] (H++[O.list [.obj tk]]) (.int k) (H++[O.list [.obj tk]])) :
  Co GG 12 (.top 417) [.obj br] H (.int k) (H++[.list [.obj tk]]):=by
 refine' aG (hb:=cI) (ns:=["branch"]) ?h
 case h=>
 intro S
 exact(Es.cons (NM S (Ev.item (CG S bw fH (AC (EL S M0) ac ac) (h1.cl)) ac GL))
 (Es.cons (NM S (aj (k:=true) (TT (Te.val (CG S aP dC (AB (EL S M1) aa) ((ci hi hD hs).cl)) Tv.bool)) (CG S qH DF (AA (AT (EL S M1) bK)) (hk.cl))))
 (Es.cons (IF (TC (EL S M2) ai bk) Es.nil)
 (Es.ret (Ex.ret (EL S M2))))))
theorem vC(h1:da GG 10 (.top 356) [.obj br,.int 1,.int 1] H i H')(he:H'[i]?=some (.excT C dx)):da GG 12 (.top 417) [.obj br] H i H':=by
 refine d7 (H₁:=H'.set i (.excT C dx)) ?_ (bP he)
 refine' cx (hb:=cI) (ns:=["branch"]) ?h ?hH
 case h=>
  intro S
  exact(bv.one (dl.name (ej.item (ej.call (EG S bw) fH (AC (EL S M0) ac ac) (h1.cl)))))
 case hH=>exact .inr he
theorem rV(h1:Co GG 10 (.top 356) [.obj br,.int 1,.int 1] H (.obj H.length) (H++[.list [.obj tk]]))(hi:(H++[O.list [.obj tk]])[tk]?=some (.inst 139 td))(hD:(H++[O.list [.obj tk]])[td]?=some (fM sort text v row col))(hs:sort="word")(hk:Co GG 2 (.top 114) [.str text] (H++[O.list [.obj tk]]) .none (H++[O.list [.obj tk]])) :
  da GG 12 (.top 417) [.obj br] H (H++[O.list [.obj tk]]).length ((H++[O.list [.obj tk]])++[.excT 58 (some ((H++[O.list [.obj tk]]).length+1))]++[bU "a heap type is wanted" row col]):=by
 have e:((H++[O.list [.obj tk]])++[O.exc 58 (some ((H++[O.list [.obj tk]]).length+1))]++[bU "a heap type is wanted" row col]).set (H++[O.list [.obj tk]]).length (.excT 58 (some ((H++[O.list [.obj tk]]).length+1)))=(H++[O.list [.obj tk]])++[.excT 58 (some ((H++[O.list [.obj tk]]).length+1))]++[bU "a heap type is wanted" row col]:=bx
 rw[←e]
 refine' cx (hb:=cI) (ns:=["branch"]) ?h ?hH
 case h=>
  intro S
  exact(bv.cons (NM S (Ev.item (CG S bw fH (AC (EL S M0) ac ac) (h1.cl)) ac GL))
  (bv.cons (NM S (aj (k:=true) (TT (Te.val (CG S aP dC (AB (EL S M1) aa) ((ci hi hD hs).cl)) Tv.bool)) (CG S qH DF (AA (AT (EL S M1) bK)) (hk.cl))))
  (bv.one (bA (b:=true) (TC (EL S M2) ai bk) (bv.one (bj (CG S dN lC (AB aa (EL S M1)) ((ig hi hD).cl)) (by walk_at"lk") ek))))))
 case hH=>exact .inl aF
theorem ol(h1:Co GG 10 (.top 356) [.obj br,.int 1,.int 1] H (.obj H.length) (H++[.list [.obj tk]]))(hi:(H++[O.list [.obj tk]])[tk]?=some (.inst 139 td))(hD:(H++[O.list [.obj tk]])[td]?=some (fM sort text v row col))(hs:sort≠"word") :
  da GG 12 (.top 417) [.obj br] H (H++[O.list [.obj tk]]).length ((H++[O.list [.obj tk]])++[.excT 58 (some ((H++[O.list [.obj tk]]).length+1))]++[bU "a heap type is wanted" row col]):=by
 have e:((H++[O.list [.obj tk]])++[O.exc 58 (some ((H++[O.list [.obj tk]]).length+1))]++[bU "a heap type is wanted" row col]).set (H++[O.list [.obj tk]]).length (.excT 58 (some ((H++[O.list [.obj tk]]).length+1)))=(H++[O.list [.obj tk]])++[.excT 58 (some ((H++[O.list [.obj tk]]).length+1))]++[bU "a heap type is wanted" row col]:=bx
 rw[←e]
 refine' cx (hb:=cI) (ns:=["branch"]) ?h ?hH
 case h=>
  intro S
  exact(bv.cons (NM S (Ev.item (CG S bw fH (AC (EL S M0) ac ac) (h1.cl)) ac GL))
  (bv.cons (NM S (aj (k:=false) (TT (Te.val (CG S aP dC (AB (EL S M1) aa) ((jK hi hD hs).cl)) Tv.bool)) ai))
  (bv.one (bA (b:=true) (TC (EL S M2) ai bk) (bv.one (bj (CG S dN lC (AB aa (EL S M1)) ((ig hi hD).cl)) (by walk_at"lk") ek))))))
 case hH=>exact .inl aF
theorem x9(h1:Co GG 10 (.top 356) [.obj br,.int 1,.int 1] H (.obj H.length) (H++[.list [.obj tk]]))(hB:(H++[O.list [.obj tk]])[tk]?=some (.inst 167 td))(hBd:(H++[O.list [.obj tk]])[td]?=some (dA its r c)) :
  da GG 12 (.top 417) [.obj br] H (H++[O.list [.obj tk]]).length ((H++[O.list [.obj tk]])++[.excT 58 (some ((H++[O.list [.obj tk]]).length+1))]++[bU "a heap type is wanted" r c]):=by
 have e:((H++[O.list [.obj tk]])++[O.exc 58 (some ((H++[O.list [.obj tk]]).length+1))]++[bU "a heap type is wanted" r c]).set (H++[O.list [.obj tk]]).length (.excT 58 (some ((H++[O.list [.obj tk]]).length+1)))=(H++[O.list [.obj tk]])++[.excT 58 (some ((H++[O.list [.obj tk]]).length+1))]++[bU "a heap type is wanted" r c]:=bx
 rw[←e]
 refine' cx (hb:=cI) (ns:=["branch"]) ?h ?hH
 case h=>
  intro S
  exact(bv.cons (NM S (Ev.item (CG S bw fH (AC (EL S M0) ac ac) (h1.cl)) ac GL))
  (bv.cons (NM S (aj (k:=false) (TT (Te.val (CG S aP dC (AB (EL S M1) aa) ((jL hB hBd).cl)) Tv.bool)) ai))
  (bv.one (bA (b:=true) (TC (EL S M2) ai bk) (bv.one (bj (CG S dN lC (AB aa (EL S M1)) ((fp hB hBd).cl)) (by walk_at"lk") ek))))))
 case hH=>exact .inl aF
end
theorem mJ{dd:Nat}{f:V}{args:List V}{H H₀:List O}{w:Str}{r c:Int}(h:da GG dd f args H H₀.length (H₀++[.excT 58 (some (H₀.length+1))]++[bU w r c]))(k:Kp [] H H₀):gs dd f args H w r c:=⟨_,_,_,h,k.trans (Kp.app.trans Kp.app),yn.1,yn.2⟩
set_option tactic.hygienic true in
theorem tO{H:List O}{i:Nat}{b:LB}(h:PB H i b)(ok:b.ok) :
  (∃ k H',fA b=.val k none∧Co GG 12 (.top 417) [.obj i] H (.int k) H'∧Kp [] H H')∨(∃ w r c,fA b=.bad w r c∧gs 12 (.top 417) [.obj i] H w r c):=by
 rcases vh h ok with⟨t,v,e,h1,hA⟩ | ⟨e,h1⟩
 ·have ht:t.th∈ch:=ok.2.1 t (by rw[e];exact J6.mpr rfl)
  have o:=jb ht
  have hA':iF 0 (H++[.list [v]]) v (fN t.th b.row t.place):=hA.keep (I:=[]) KI.nil Kp.app
  unfold fA
  rw[e]
  dsimp only
  by_cases hs:t.th.sort="word"
  ·rcases fx (r:=b.row) (c:=t.place) o (by rw[hs];decide) with⟨s,v',q,_,q2,_⟩ | ⟨q,_⟩
   ·rw[q] at hA'
    obtain⟨j,rfl,td,_,_,t1,t2⟩:=hA'
    by_cases e1:t.th.told=cps "func"
    ·rw[if_pos e1]
     refine .inl ⟨_,_,rfl,qr h1 t1 t2 (by rw[←hs,← q2]) ?_,Kp.app⟩
     show Co GG 2 (.top 114) [.str (aq t.th.told)] _ _ _
     rw[e1,dR]
     exact tN
    rw[if_neg e1]
    by_cases e2:t.th.told=cps "extern"
    ·rw[if_pos e2]
     refine .inl ⟨_,_,rfl,qr h1 t1 t2 (by rw[←hs,← q2]) ?_,Kp.app⟩
     show Co GG 2 (.top 114) [.str (aq t.th.told)] _ _ _
     rw[e2,dR]
     exact pJ
    rw[if_neg e2]
    refine .inr ⟨_,_,_,rfl,mJ (rV h1 t1 t2 (by rw[←hs,← q2]) (tM ?_ ?_)) Kp.app⟩
    ·show aq t.th.told≠_
     rw[←dR];exact fun x=>e1 (eQ.mp x)
    show aq t.th.told≠_
    rw[←dR];exact fun x=>e2 (eQ.mp x)
   rw[hs] at q;exact absurd q (by decide)
  obtain⟨e1,e2⟩:=o.heap hs
  rw[if_neg e1,if_neg e2]
  refine .inr ⟨_,_,_,rfl,?_⟩
  by_cases hn:t.th.sort="int"
  ·rw[eE o hn] at hA'
   obtain⟨j,rfl,td,_,_,t1,t2⟩:=hA'
   exact mJ (ol h1 t1 t2 (by show(J0 "int")≠J0 "word";decide)) Kp.app
  rcases fx (r:=b.row) (c:=t.place) o hn with⟨s,v',q,_,q2,_⟩ | ⟨_,o',a,c',q,q1,q2,_⟩
  ·rw[q] at hA'
   obtain⟨j,rfl,td,_,_,t1,t2⟩:=hA'
   exact mJ (ol h1 t1 t2 (by rw[q2];exact hs)) Kp.app
  rw[q] at hA'
  obtain⟨j,x,l,y,rfl,_,a1,a2,_⟩:=hA'
  rw[q1,q2] at a2
  exact mJ (x9 h1 a1 a2) Kp.app
 have hr:fA b=.bad "another number of parts is wanted" b.row b.col:=by
  unfold fA
  split
  ·next t q=>exact absurd q (e t)
  rfl
 exact .inr ⟨_,_,_,hr,h1.lift Kp.refl fun j H' d q p=>vC q p⟩
noncomputable def Di(P:Params):Array Value:=match List.lookup 328 (Y6 P) with | some ⟨_,_,.seq vs,_⟩=>vs | _=>#[]
noncomputable def GA(v:Value)(x:Str):Bool:=match v with | .str y _=>x==y | _=>false
theorem Ed{v:Value}{x:Str}(h:GA v x=true):∃ t,v=.str x t:=by
 unfold GA at h
 split at h
 ·exact⟨_,by rw[eq_of_beq h]⟩
 cases h
noncomputable def Dl:List Str→List Value→Bool
 | [],vs=>vs.isEmpty
 | x::xs,vs=>(vs.head?.any fun v=>GA v x) && Dl xs vs.tail
theorem sX:∀ {xs:List Str} {vs:List Value},Dl xs vs=true→StrsAre vs xs
 | [],vs,h=>by rw[List.isEmpty_iff.mp h];exact .nil
 | x::xs,vs,h=>by
  obtain⟨h1,h2⟩:=Bool.and_eq_true_iff.mp h
  cases vs with
  | nil=>cases h1
  | cons v vs=>obtain⟨t,rfl⟩:=Ed h1;exact .cons _ _ (sX h2)
theorem Bk:∀ P,List.lookup 328 (Y6 P)=some { cls:=.type "tuple",data:=.seq (Di P)}:=by intro P;kernel_rfl
theorem Bj:∀ P,StrsAre (Di P).toList [J0 "f32.const",J0 "f64.const",J0 "v128.const"]:=by intro P;exact sX (by kernel_rfl)
noncomputable def EJ(dd:Nat)(f:V)(args:List V)(H:List O):jp→Prop
 | .val k v=>∃ i H',Co GG dd f args H (.obj i) H'∧Kp [] H H'∧H'[i]?=some (.tup [.int k,aI v])
 | .bad w r c=>gs dd f args H w r c
 | .left w r=>BN dd f args H w r
section
variable {H H':List O}{i j C:Nat}{b:LB}{x k:Int}{v:V}{dx:Option Nat}
theorem CM(h:PB H i b)(ok:b.ok)(hn:b.name="i32.const")(h1:Co GG 12 (.top 410) [.obj i,.int 32] H (.int x) H'):Co GG 14 (.top 431) [.obj i] H (.obj H'.length) (H'++[.tup [.int (-1),.int x]]):=by
 have c0:(b.name==(J0 "i32.const"))=true:=by rw[hn];kernel_rfl
 refine' aG (hb:=cI) (ns:=["branch"]) ?h
 case h=>
 intro S
 exact(Es.cons (NM S (CG S aL cW (AA (EL S M0)) ((aD h ok).cl)))
 (Es.ret (IT (TC (EL S M1) aa ae) (Es.ret (Ex.ret (Ev.tup (AB (Da S Dy) (CG S cS w8 (AB (EL S M0) ac) (h1.cl))) (bG rfl)))))))
theorem AR(h:PB H i b)(ok:b.ok)(hn:b.name="i32.const")(h1:da GG 12 (.top 410) [.obj i,.int 32] H j H')(he:H'[j]?=some (.excT C dx)):da GG 14 (.top 431) [.obj i] H j H':=by
 have c0:(b.name==(J0 "i32.const"))=true:=by rw[hn];kernel_rfl
 refine d7 (H₁:=H'.set j (.excT C dx)) ?_ (bP he)
 refine' cx (hb:=cI) (ns:=["branch"]) ?h ?hH
 case h=>
  intro S
  exact(bv.cons (NM S (CG S aL cW (AA (EL S M0)) ((aD h ok).cl)))
  (bv.one (bA (b:=true) (TC (EL S M1) aa ae) (bv.one (dl.ret (ej.tup (gc.cons (Da S Dy) (gc.here (ej.call (EG S cS) w8 (AB (EL S M0) ac) (h1.cl)) (by repeat (first | exact bD.nil | refine bD.cons ?_ (fun _=>rfl)))))))))))
 case hH=>exact .inr he
theorem CL(h:PB H i b)(ok:b.ok)(hn:b.name="i64.const")(h1:Co GG 12 (.top 410) [.obj i,.int 64] H (.int x) H'):Co GG 14 (.top 431) [.obj i] H (.obj H'.length) (H'++[.tup [.int (-2),.int x]]):=by
 have c0:(b.name==(J0 "i32.const"))=false:=by rw[hn];kernel_rfl
 have c1:(b.name==(J0 "i64.const"))=true:=by rw[hn];kernel_rfl
 refine' aG (hb:=cI) (ns:=["branch"]) ?h
 case h=>
 intro S
 exact(Es.cons (NM S (CG S aL cW (AA (EL S M0)) ((aD h ok).cl)))
 (Es.cons (IF (TC (EL S M1) aa ae) Es.nil)
 (Es.ret (IT (TC (EL S M1) aa ae) (Es.ret (Ex.ret (Ev.tup (AB (Da S Dx) (CG S cS w8 (AB (EL S M0) ac) (h1.cl))) (bG rfl))))))))
theorem AQ(h:PB H i b)(ok:b.ok)(hn:b.name="i64.const")(h1:da GG 12 (.top 410) [.obj i,.int 64] H j H')(he:H'[j]?=some (.excT C dx)):da GG 14 (.top 431) [.obj i] H j H':=by
 have c0:(b.name==(J0 "i32.const"))=false:=by rw[hn];kernel_rfl
 have c1:(b.name==(J0 "i64.const"))=true:=by rw[hn];kernel_rfl
 refine d7 (H₁:=H'.set j (.excT C dx)) ?_ (bP he)
 refine' cx (hb:=cI) (ns:=["branch"]) ?h ?hH
 case h=>
  intro S
  exact(bv.cons (NM S (CG S aL cW (AA (EL S M0)) ((aD h ok).cl)))
  (bv.cons (IF (TC (EL S M1) aa ae) Es.nil)
  (bv.one (bA (b:=true) (TC (EL S M1) aa ae) (bv.one (dl.ret (ej.tup (gc.cons (Da S Dx) (gc.here (ej.call (EG S cS) w8 (AB (EL S M0) ac) (h1.cl)) (by repeat (first | exact bD.nil | refine bD.cons ?_ (fun _=>rfl))))))))))))
 case hH=>exact .inr he
theorem AN(h:PB H i b)(ok:b.ok)(hn:b.name="ref.null")(h1:Co GG 12 (.top 417) [.obj i] H (.int x) H'):Co GG 14 (.top 431) [.obj i] H (.obj H'.length) (H'++[.tup [.int x,.none]]):=by
 have c0:(b.name==(J0 "i32.const"))=false:=by rw[hn];kernel_rfl
 have c1:(b.name==(J0 "i64.const"))=false:=by rw[hn];kernel_rfl
 have c2:(b.name==(J0 "ref.null"))=true:=by rw[hn];kernel_rfl
 refine' aG (hb:=cI) (ns:=["branch"]) ?h
 case h=>
 intro S
 exact(Es.cons (NM S (CG S aL cW (AA (EL S M0)) ((aD h ok).cl)))
 (Es.cons (IF (TC (EL S M1) aa ae) Es.nil)
 (Es.cons (IF (TC (EL S M1) aa ae) Es.nil)
 (Es.ret (IT (TC (EL S M1) aa ae) (Es.ret (Ex.ret (Ev.tup (AB (CG S qI DA (AA (EL S M0)) (h1.cl)) ai) (bG rfl)))))))))
theorem yp(h:PB H i b)(ok:b.ok)(hn:b.name="ref.null")(h1:da GG 12 (.top 417) [.obj i] H j H')(he:H'[j]?=some (.excT C dx)):da GG 14 (.top 431) [.obj i] H j H':=by
 have c0:(b.name==(J0 "i32.const"))=false:=by rw[hn];kernel_rfl
 have c1:(b.name==(J0 "i64.const"))=false:=by rw[hn];kernel_rfl
 have c2:(b.name==(J0 "ref.null"))=true:=by rw[hn];kernel_rfl
 refine d7 (H₁:=H'.set j (.excT C dx)) ?_ (bP he)
 refine' cx (hb:=cI) (ns:=["branch"]) ?h ?hH
 case h=>
  intro S
  exact(bv.cons (NM S (CG S aL cW (AA (EL S M0)) ((aD h ok).cl)))
  (bv.cons (IF (TC (EL S M1) aa ae) Es.nil)
  (bv.cons (IF (TC (EL S M1) aa ae) Es.nil)
  (bv.one (bA (b:=true) (TC (EL S M1) aa ae) (bv.one (dl.ret (ej.tup (gc.here (ej.call (EG S qI) DA (AA (EL S M0)) (h1.cl)) (by repeat (first | exact bD.nil | refine bD.cons ?_ (fun _=>rfl))))))))))))
 case hH=>exact .inr he
theorem CN(h:PB H i b)(ok:b.ok)(hn:b.name="ref.extern")(h0:Co GG 10 (.top 356) [.obj i,.int 1,.int 1] H (.obj H.length) (H++[.list [v]]))(h1:Co GG 10 (.top 327) [v] (H++[.list [v]]) (.int x) H'):Co GG 14 (.top 431) [.obj i] H (.obj H'.length) (H'++[.tup [.int (-17),.int x]]):=by
 have c0:(b.name==(J0 "i32.const"))=false:=by rw[hn];kernel_rfl
 have c1:(b.name==(J0 "i64.const"))=false:=by rw[hn];kernel_rfl
 have c2:(b.name==(J0 "ref.null"))=false:=by rw[hn];kernel_rfl
 have c3:(b.name==(J0 "ref.extern"))=true:=by rw[hn];kernel_rfl
 refine' aG (hb:=cI) (ns:=["branch"]) ?h
 case h=>
 intro S
 exact(Es.cons (NM S (CG S aL cW (AA (EL S M0)) ((aD h ok).cl)))
 (Es.cons (IF (TC (EL S M1) aa ae) Es.nil)
 (Es.cons (IF (TC (EL S M1) aa ae) Es.nil)
 (Es.cons (IF (TC (EL S M1) aa ae) Es.nil)
 (Es.ret (IT (TC (EL S M1) aa ae) (Es.ret (Ex.ret (Ev.tup (AB (Da S fT) (CG S oP Bp (AA (Ev.item (CG S bw fH (AC (EL S M0) ac ac) (h0.cl)) ac GL)) (h1.cl))) (bG rfl))))))))))
theorem tW(h:PB H i b)(ok:b.ok)(hn:b.name="ref.extern")(h0:Co GG 10 (.top 356) [.obj i,.int 1,.int 1] H (.obj H.length) (H++[.list [v]]))(h1:da GG 10 (.top 327) [v] (H++[.list [v]]) j H')(he:H'[j]?=some (.excT C dx)):da GG 14 (.top 431) [.obj i] H j H':=by
 have c0:(b.name==(J0 "i32.const"))=false:=by rw[hn];kernel_rfl
 have c1:(b.name==(J0 "i64.const"))=false:=by rw[hn];kernel_rfl
 have c2:(b.name==(J0 "ref.null"))=false:=by rw[hn];kernel_rfl
 have c3:(b.name==(J0 "ref.extern"))=true:=by rw[hn];kernel_rfl
 refine d7 (H₁:=H'.set j (.excT C dx)) ?_ (bP he)
 refine' cx (hb:=cI) (ns:=["branch"]) ?h ?hH
 case h=>
  intro S
  exact(bv.cons (NM S (CG S aL cW (AA (EL S M0)) ((aD h ok).cl)))
  (bv.cons (IF (TC (EL S M1) aa ae) Es.nil)
  (bv.cons (IF (TC (EL S M1) aa ae) Es.nil)
  (bv.cons (IF (TC (EL S M1) aa ae) Es.nil)
  (bv.one (bA (b:=true) (TC (EL S M1) aa ae) (bv.one (dl.ret (ej.tup (gc.cons (Da S fT) (gc.here (ej.call (EG S oP) Bp (AA (Ev.item (CG S bw fH (AC (EL S M0) ac ac) (h0.cl)) ac GL)) (h1.cl)) (by repeat (first | exact bD.nil | refine bD.cons ?_ (fun _=>rfl))))))))))))))
 case hH=>exact .inr he
theorem AS(h:PB H i b)(ok:b.ok)(hn:b.name="ref.extern")(h0:da GG 10 (.top 356) [.obj i,.int 1,.int 1] H j H')(he:H'[j]?=some (.excT C dx)):da GG 14 (.top 431) [.obj i] H j H':=by
 have c0:(b.name==(J0 "i32.const"))=false:=by rw[hn];kernel_rfl
 have c1:(b.name==(J0 "i64.const"))=false:=by rw[hn];kernel_rfl
 have c2:(b.name==(J0 "ref.null"))=false:=by rw[hn];kernel_rfl
 have c3:(b.name==(J0 "ref.extern"))=true:=by rw[hn];kernel_rfl
 refine d7 (H₁:=H'.set j (.excT C dx)) ?_ (bP he)
 refine' cx (hb:=cI) (ns:=["branch"]) ?h ?hH
 case h=>
  intro S
  exact(bv.cons (NM S (CG S aL cW (AA (EL S M0)) ((aD h ok).cl)))
  (bv.cons (IF (TC (EL S M1) aa ae) Es.nil)
  (bv.cons (IF (TC (EL S M1) aa ae) Es.nil)
  (bv.cons (IF (TC (EL S M1) aa ae) Es.nil)
  (bv.one (bA (b:=true) (TC (EL S M1) aa ae) (bv.one (dl.ret (ej.tup (gc.cons (Da S fT) (gc.here (ej.args (EG S oP) Bp (gc.here (ej.item (ej.call (EG S bw) fH (AC (EL S M0) ac ac) (h0.cl))) (by repeat (first | exact bD.nil | refine bD.cons ?_ (fun _=>rfl))))) (by repeat (first | exact bD.nil | refine bD.cons ?_ (fun _=>rfl))))))))))))))
 case hH=>exact .inr he
theorem AP(h:PB H i b)(ok:b.ok)(hn:b.name="f32.const"∨b.name="f64.const"∨b.name="v128.const"):BN 14 (.top 431) [.obj i] H b.name b.row:=by
 have cc:(b.name==(J0 "i32.const"))=false∧(b.name==(J0 "i64.const"))=false∧(b.name==(J0 "ref.null"))=false∧(b.name==(J0 "ref.extern"))=false∧([J0 "f32.const",J0 "f64.const",J0 "v128.const"].any fun y=>y==b.name)=true:=by
  rcases hn with hn | hn | hn <;> (rw[hn];exact⟨by kernel_rfl,by kernel_rfl,by kernel_rfl,by kernel_rfl,by kernel_rfl⟩)
 obtain⟨c0,c1,c2,c3,c4⟩:=cc
 have hm:=oo h ok
 have hh:=aD h ok
 obtain⟨e,l,ht,xs,a1,a2,_⟩:=h
 refine⟨_,_,_,?_,Kp.app.trans Kp.app,yn.1,yn.2⟩
 have e:(H++[O.exc 77 (some (H.length+1))]++[ll b.name b.row]).set H.length (.excT 77 (some (H.length+1)))=H++[.excT 77 (some (H.length+1))]++[ll b.name b.row]:=bx
 rw[←e]
 refine' cx (hb:=cI) (ns:=["branch"]) ?h ?hH
 case h=>
  intro S
  exact(bv.cons (NM S (CG S aL cW (AA (EL S M0)) (hh.cl)))
  (bv.cons (IF (TC (EL S M1) aa ae) Es.nil)
  (bv.cons (IF (TC (EL S M1) aa ae) Es.nil)
  (bv.cons (IF (TC (EL S M1) aa ae) Es.nil)
  (bv.cons (IF (TC (EL S M1) aa ae) Es.nil)
  (bv.one (bA (b:=true) (TC (EL S M1) (EG S gu) (lG Bk Bj)) (bv.one (bj (CG S wc F5 (AA (EL S M0)) ((rP a1 a2 hm).cl)) (by walk_at"lk") FJ)))))))))
 case hH=>exact .inl aF
theorem AO(h:PB H i b)(ok:b.ok)(hn:b.name="ref.func"∨b.name="i32.add"∨b.name=""):gs 14 (.top 431) [.obj i] H "a constant is wanted" b.row b.col:=by
 have cc:(b.name==(J0 "i32.const"))=false∧(b.name==(J0 "i64.const"))=false∧(b.name==(J0 "ref.null"))=false∧(b.name==(J0 "ref.extern"))=false∧([J0 "f32.const",J0 "f64.const",J0 "v128.const"].any fun y=>y==b.name)=false:=by
  rcases hn with hn | hn | hn <;> (rw[hn];exact⟨by kernel_rfl,by kernel_rfl,by kernel_rfl,by kernel_rfl,by kernel_rfl⟩)
 obtain⟨c0,c1,c2,c3,c4⟩:=cc
 have hh:=aD h ok
 obtain⟨e,l,ht,xs,a1,a2,_⟩:=h
 refine gs.of ?_
 have e:(H++[O.exc 58 (some (H.length+1))]++[bU "a constant is wanted" b.row b.col]).set H.length (.excT 58 (some (H.length+1)))=H++[.excT 58 (some (H.length+1))]++[bU "a constant is wanted" b.row b.col]:=bx
 rw[←e]
 refine' cx (hb:=cI) (ns:=["branch"]) ?h ?hH
 case h=>
  intro S
  exact(bv.cons (NM S (CG S aL cW (AA (EL S M0)) (hh.cl)))
  (bv.cons (IF (TC (EL S M1) aa ae) Es.nil)
  (bv.cons (IF (TC (EL S M1) aa ae) Es.nil)
  (bv.cons (IF (TC (EL S M1) aa ae) Es.nil)
  (bv.cons (IF (TC (EL S M1) aa ae) Es.nil)
  (bv.cons (IF (TC (EL S M1) (EG S gu) (lG Bk Bj)) Es.nil)
  (bv.one (bj (CG S dN lC (AB aa (EL S M0)) ((fp a1 a2).cl)) (by walk_at"lk") ek))))))))
 case hH=>exact .inl aF
end
theorem tI{b:LB}(ok:b.ok):b.name="i32.const"∨b.name="i64.const"∨b.name="ref.null"∨b.name="ref.extern"∨(b.name="f32.const"∨b.name="f64.const"∨b.name="v128.const")∨(b.name="ref.func"∨b.name="i32.add"∨b.name=""):=by
 have h:=ok.1
 unfold LB.name
 generalize b.head=hd at h
 simp only[cY,K2,J8,or_false] at h
 rcases h with rfl | rfl | rfl | rfl | rfl | rfl | rfl | rfl | rfl | rfl
 ·exact .inl (by kernel_rfl)
 ·exact .inr (.inl (by kernel_rfl))
 ·exact .inr (.inr (.inl (by kernel_rfl)))
 ·exact .inr (.inr (.inr (.inl (by kernel_rfl))))
 ·exact .inr (.inr (.inr (.inr (.inr (.inl (by kernel_rfl))))))
 ·exact .inr (.inr (.inr (.inr (.inl (.inl (by kernel_rfl))))))
 ·exact .inr (.inr (.inr (.inr (.inl (.inr (.inl (by kernel_rfl)))))))
 ·exact .inr (.inr (.inr (.inr (.inl (.inr (.inr (by kernel_rfl)))))))
 ·exact .inr (.inr (.inr (.inr (.inr (.inr (.inl (by kernel_rfl)))))))
 exact .inr (.inr (.inr (.inr (.inr (.inr (.inr (by kernel_rfl)))))))
theorem oA{H:List O}{i:Nat}{b:LB}(h:PB H i b)(ok:b.ok):EJ 14 (.top 431) [.obj i] H (di b):=by
 rcases tI ok with hn | hn | hn | hn | hn | hn
 ·have e:di b=(bf b (-2 ^ 31) (2 ^ 32)).res (-1):=if_pos hn
  rw[e]
  have hs:=nu (bits:=32) h ok (by rw[hn];decide) (by decide) (by decide) A4
  change wb _ _ _ _ (bf b (-2 ^ 31) (2 ^ 32)) at hs
  cases hw:bf b (-2 ^ 31) (2 ^ 32) with
  | bad w r c=>rw[hw] at hs;exact hs.lift Kp.refl fun j H' d q p=>AR h ok hn q p
  | num x=>rw[hw] at hs;obtain⟨H',h1,k⟩:=hs;exact⟨_,_,CM h ok hn h1,k.trans Kp.app,aB⟩
 ·have e:di b=(bf b (-2 ^ 63) (2 ^ 64)).res (-2):=(if_neg (by rw[hn];decide)).trans (if_pos hn)
  rw[e]
  have hs:=nu (bits:=64) h ok (by rw[hn];decide) (by decide) (by decide) A3
  change wb _ _ _ _ (bf b (-2 ^ 63) (2 ^ 64)) at hs
  cases hw:bf b (-2 ^ 63) (2 ^ 64) with
  | bad w r c=>rw[hw] at hs;exact hs.lift Kp.refl fun j H' d q p=>AQ h ok hn q p
  | num x=>rw[hw] at hs;obtain⟨H',h1,k⟩:=hs;exact⟨_,_,CL h ok hn h1,k.trans Kp.app,aB⟩
 ·have e:di b=fA b:=(if_neg (by rw[hn];decide)).trans ((if_neg (by rw[hn];decide)).trans (if_pos hn))
  rw[e]
  rcases tO h ok with⟨k,H',e1,h1,kp⟩ | ⟨w,r,c,e1,h1⟩
  ·rw[e1];exact⟨_,_,AN h ok hn h1,kp.trans Kp.app,aB⟩
  rw[e1];exact h1.lift Kp.refl fun j H' d q p=>yp h ok hn q p
 ·have e:di b=(bf b 0 (2 ^ 32)).res (-17):=(if_neg (by rw[hn];decide)).trans ((if_neg (by rw[hn];decide)).trans ((if_neg (by rw[hn];decide)).trans (if_pos hn)))
  rw[e]
  rcases vh h ok with⟨t,v,e1,h1,hA⟩ | ⟨e1,h1⟩
  ·have ht:t.th∈ch:=ok.2.1 t (by rw[e1];exact J6.mpr rfl)
   have o:=jb ht
   have hA':iF 0 (H++[.list [v]]) v (fN t.th b.row t.place):=hA.keep (I:=[]) KI.nil Kp.app
   obtain⟨u1,u2,u3⟩:=zk ht hA'
   unfold bf
   rw[e1]
   dsimp only
   by_cases hc:t.th.sort≠"int"∨lL t.th.told=true
   ·rw[if_pos (by rcases hc with hc | hc;exact .inl hc;exact .inr ⟨hn,hc⟩)]
    exact(u1 hc).lift Kp.app fun j H' d q p=>tW h ok hn h1 q p
   have hs:t.th.sort="int":=Decidable.byContradiction fun q=>hc (.inl q)
   have hg:lL t.th.told=false:=by
    cases hq:lL t.th.told
    ·rfl
    exact absurd (.inr hq) hc
   have hnn:=o.nn hs hg
   rw[if_neg (by rintro(q | ⟨_,q⟩);exact q hs;rw[hg] at q;cases q),hg]
   by_cases hr:t.th.value<2 ^ 32
   ·rw[if_pos ⟨hnn,by simpa using hr⟩]
    refine⟨_,_,CN h ok hn h1 (x:=t.th.value) (u2 hs hg hr),Kp.app.trans Kp.app,?_⟩
    rw[show aI (some (t.th.value % 2 ^ 32))=.int t.th.value from by rw[Int.emod_eq_of_lt hnn hr];rfl]
    exact aB
   rw[if_neg (by rintro⟨_,q⟩;exact hr (by simpa using q)),if_pos hn]
   exact(u3 hs hg (by lia)).lift Kp.app fun j H' d q p=>tW h ok hn h1 q p
  rw[ja e1]
  exact h1.lift Kp.refl fun j H' d q p=>AS h ok hn q p
 ·have e:di b=.left b.name b.row:=by
   unfold di
   rw[if_neg,if_neg,if_neg,if_neg,if_pos hn]
   all_goals (rcases hn with hn | hn | hn <;> (rw[hn];decide))
  rw[e]
  exact AP h ok hn
 have e:di b=.bad "a constant is wanted" b.row b.col:=by
  unfold di
  rw[if_neg,if_neg,if_neg,if_neg,if_neg]
  all_goals (rcases hn with hn | hn | hn <;> (rw[hn];decide))
 rw[e]
 exact AO h ok hn
theorem BN.lift{dd dd':Nat}{f f':V}{args args':List V}{H H₀:List O}{w:Str}{r:Int}(h:BN dd f args H₀ w r)(k:Kp [] H H₀)(g:∀ i H' d,da GG dd f args H₀ i H'→H'[i]?=some (.excT 77 (some d))→da GG dd' f' args' H i H'):BN dd' f' args' H w r:=by
 obtain⟨i,d,H',h1,k1,p,q⟩:=h
 exact⟨i,d,H',g i H' d h1 p,k.trans k1,p,q⟩
noncomputable def Em(dd:Nat)(f:V)(args:List V)(H:List O):WR→Prop
 | .want k v a=>∃ i d H',Co GG dd f args H (.obj i) H'∧Kp [] H H'∧H'[i]?=some (.inst 399 d)∧H'[d]?=some (eu (aI k) (aI v) a)
 | .bad w r c=>gs dd f args H w r c
 | .left w r=>BN dd f args H w r
section
variable {H H':List O}{i j C:Nat}{b:LB}{x k:Int}{v kv vv:V}{dx:Option Nat}
theorem zg(h:PB H i b)(ok:b.ok)(hn:b.name="ref.null")(hb:b.things=[]):Co GG 16 (.top 438) [.obj i] H (.obj (H.length+1)) (H++[eu .none .none false]++[.inst 399 H.length]):=by
 have c0:(b.name==(J0 "ref.null"))=true:=by rw[hn];kernel_rfl
 have c1:(b.name==(J0 "ref.extern"))=false:=by rw[hn];kernel_rfl
 have c2:(b.name==(J0 "ref.func"))=false:=by rw[hn];kernel_rfl
 have hh:=(aD h ok).cl
 have hmk:=@a0
 obtain⟨e,l,ht,xs,a1,a2,a3,a4,a5,_⟩:=h
 have hl:xs.length=b.things.length:=a5.len.trans (K8 _)
 have hz:(V.obj ht::xs).length≤J5:=cQ (J7 (Nat.succ_le_succ (hl▸ok.2.2)) (by decide))
 have hx:xs.length=0:=by rw[hl,hb];rfl
 have cl:(((V.obj ht::xs).length:Int)==1)=true:=by simp[hx]
 refine' aG (hb:=cI) (ns:=["branch"]) ?h
 case h=>
 intro S
 exact(Es.cons (NM S (CG S aL cW (AA (EL S M0)) (hh)))
 (Es.ret (IT (TT (ah (av (TC (EL S M1) aa ae) (av (TC (CB S aM aN aA (AA (AT (EL S M0) aW)) (ar a3 hz)) ac bF) cD)))) (Es.ret (Ex.ret (CG S gt qO (AC ai ai bn) (a0)))))))
theorem BS(h:PB H i b)(ok:b.ok)(hn:b.name="ref.extern")(hb:b.things=[]):Co GG 16 (.top 438) [.obj i] H (.obj (H.length+1)) (H++[eu (.int (-17)) .none true]++[.inst 399 H.length]):=by
 have c0:(b.name==(J0 "ref.null"))=false:=by rw[hn];kernel_rfl
 have c1:(b.name==(J0 "ref.extern"))=true:=by rw[hn];kernel_rfl
 have c2:(b.name==(J0 "ref.func"))=false:=by rw[hn];kernel_rfl
 have hh:=(aD h ok).cl
 have hmk:=@a0
 obtain⟨e,l,ht,xs,a1,a2,a3,a4,a5,_⟩:=h
 have hl:xs.length=b.things.length:=a5.len.trans (K8 _)
 have hz:(V.obj ht::xs).length≤J5:=cQ (J7 (Nat.succ_le_succ (hl▸ok.2.2)) (by decide))
 have hx:xs.length=0:=by rw[hl,hb];rfl
 have cl:(((V.obj ht::xs).length:Int)==1)=true:=by simp[hx]
 refine' aG (hb:=cI) (ns:=["branch"]) ?h
 case h=>
 intro S
 exact(Es.cons (NM S (CG S aL cW (AA (EL S M0)) (hh)))
 (Es.cons (IF (TT (ah (am (TC (EL S M1) aa ae)))) Es.nil)
 (Es.ret (IT (TT (ah (av (TC (EL S M1) aa ae) (av (TC (CB S aM aN aA (AA (AT (EL S M0) aW)) (ar a3 hz)) ac bF) cD)))) (Es.ret (Ex.ret (CG S gt qO (AC (Da S fT) ai bn) (a0))))))))
theorem zh(h:PB H i b)(ok:b.ok)(hn:b.name="ref.func")(h1:Co GG 10 (.top 356) [.obj i,.int 0,.int 0] H (.obj H.length) (H++[.list []])):Co GG 16 (.top 438) [.obj i] H (.obj ((H++[O.list []]).length+1)) (H++[.list []]++[eu (.int (-16)) .none true]++[.inst 399 (H++[O.list []]).length]):=by
 have c0:(b.name==(J0 "ref.null"))=false:=by rw[hn];kernel_rfl
 have c1:(b.name==(J0 "ref.extern"))=false:=by rw[hn];kernel_rfl
 have c2:(b.name==(J0 "ref.func"))=true:=by rw[hn];kernel_rfl
 have hh:=(aD h ok).cl
 have hmk:=@a0
 obtain⟨e,l,ht,xs,a1,a2,a3,a4,a5,_⟩:=h
 have hl:xs.length=b.things.length:=a5.len.trans (K8 _)
 have hz:(V.obj ht::xs).length≤J5:=cQ (J7 (Nat.succ_le_succ (hl▸ok.2.2)) (by decide))
 refine' aG (hb:=cI) (ns:=["branch"]) ?h
 case h=>
 intro S
 exact(Es.cons (NM S (CG S aL cW (AA (EL S M0)) (hh)))
 (Es.cons (IF (TT (ah (am (TC (EL S M1) aa ae)))) Es.nil)
 (Es.cons (IF (TT (ah (am (TC (EL S M1) aa ae)))) Es.nil)
 (Es.ret (IT (TC (EL S M1) aa ae) (Es.cons (Ex.expr (CG S bw fH (AC (EL S M0) ac ac) (h1.cl)))
 (Es.ret (Ex.ret (CG S gt qO (AC (Da S yL) ai bn) (a0))))))))))
theorem xl(h:PB H i b)(ok:b.ok)(hn:b.name="ref.func")(h1:da GG 10 (.top 356) [.obj i,.int 0,.int 0] H j H')(he:H'[j]?=some (.excT C dx)):da GG 16 (.top 438) [.obj i] H j H':=by
 have c0:(b.name==(J0 "ref.null"))=false:=by rw[hn];kernel_rfl
 have c1:(b.name==(J0 "ref.extern"))=false:=by rw[hn];kernel_rfl
 have c2:(b.name==(J0 "ref.func"))=true:=by rw[hn];kernel_rfl
 have hh:=(aD h ok).cl
 have hmk:=@a0
 obtain⟨e,l,ht,xs,a1,a2,a3,a4,a5,_⟩:=h
 have hl:xs.length=b.things.length:=a5.len.trans (K8 _)
 have hz:(V.obj ht::xs).length≤J5:=cQ (J7 (Nat.succ_le_succ (hl▸ok.2.2)) (by decide))
 refine d7 (H₁:=H'.set j (.excT C dx)) ?_ (bP he)
 refine' cx (hb:=cI) (ns:=["branch"]) ?h ?hH
 case h=>
  intro S
  exact(bv.cons (NM S (CG S aL cW (AA (EL S M0)) (hh)))
  (bv.cons (IF (TT (ah (am (TC (EL S M1) aa ae)))) Es.nil)
  (bv.cons (IF (TT (ah (am (TC (EL S M1) aa ae)))) Es.nil)
  (bv.one (bA (b:=true) (TC (EL S M1) aa ae) (bv.one (dl.expr (ej.call (EG S bw) fH (AC (EL S M0) ac ac) (h1.cl)))))))))
 case hH=>exact .inr he
theorem ER(h:PB H i b)(ok:b.ok)(hn:b.name="ref.null")(hb:b.things≠[])(h1:Co GG 14 (.top 431) [.obj i] H (.obj j) H')(ht:H'[j]?=some (.tup [kv,vv])):Co GG 16 (.top 438) [.obj i] H (.obj (H'.length+1)) (H'++[eu kv vv false]++[.inst 399 H'.length]):=by
 have c0:(b.name==(J0 "ref.null"))=true:=by rw[hn];kernel_rfl
 have c1:(b.name==(J0 "ref.extern"))=false:=by rw[hn];kernel_rfl
 have c2:(b.name==(J0 "ref.func"))=false:=by rw[hn];kernel_rfl
 have hh:=(aD h ok).cl
 have hmk:=@a0
 obtain⟨e,l,ht,xs,a1,a2,a3,a4,a5,_⟩:=h
 have hl:xs.length=b.things.length:=a5.len.trans (K8 _)
 have hz:(V.obj ht::xs).length≤J5:=cQ (J7 (Nat.succ_le_succ (hl▸ok.2.2)) (by decide))
 have hx:xs.length≠0:=by rw[hl];exact fun q=>hb (List.length_eq_zero_iff.mp q)
 have cl:(((V.obj ht::xs).length:Int)==1)=false:=by simp;lia
 refine' aG (hb:=cI) (ns:=["branch"]) ?h
 case h=>
 intro S
 exact(Es.cons (NM S (CG S aL cW (AA (EL S M0)) (hh)))
 (Es.cons (IF (TT (ah (av (TC (EL S M1) aa ae) (am (TC (CB S aM aN aA (AA (AT (EL S M0) aW)) (ar a3 hz)) ac bF))))) Es.nil)
 (Es.cons (IF (TT (ah (am (TC (EL S M1) aa ae)))) Es.nil)
 (Es.cons (IF (TC (EL S M1) aa ae) Es.nil)
 (Es.cons (Ex.tuple S (CG S bL jY (AA (EL S M0)) (h1.cl)) (by walk_at"lk") (.cons SL (.cons SL .nil)))
 (Es.ret (Ex.ret (CG S gt qO (AC (EL S M2) (EL S M3) bn) (a0)))))))))
theorem DN(h:PB H i b)(ok:b.ok)(hn:b.name="ref.null")(hb:b.things≠[])(h1:da GG 14 (.top 431) [.obj i] H j H')(he:H'[j]?=some (.excT C dx)):da GG 16 (.top 438) [.obj i] H j H':=by
 have c0:(b.name==(J0 "ref.null"))=true:=by rw[hn];kernel_rfl
 have c1:(b.name==(J0 "ref.extern"))=false:=by rw[hn];kernel_rfl
 have c2:(b.name==(J0 "ref.func"))=false:=by rw[hn];kernel_rfl
 have hh:=(aD h ok).cl
 have hmk:=@a0
 obtain⟨e,l,ht,xs,a1,a2,a3,a4,a5,_⟩:=h
 have hl:xs.length=b.things.length:=a5.len.trans (K8 _)
 have hz:(V.obj ht::xs).length≤J5:=cQ (J7 (Nat.succ_le_succ (hl▸ok.2.2)) (by decide))
 have hx:xs.length≠0:=by rw[hl];exact fun q=>hb (List.length_eq_zero_iff.mp q)
 have cl:(((V.obj ht::xs).length:Int)==1)=false:=by simp;lia
 refine d7 (H₁:=H'.set j (.excT C dx)) ?_ (bP he)
 refine' cx (hb:=cI) (ns:=["branch"]) ?h ?hH
 case h=>
  intro S
  exact(bv.cons (NM S (CG S aL cW (AA (EL S M0)) (hh)))
  (bv.cons (IF (TT (ah (av (TC (EL S M1) aa ae) (am (TC (CB S aM aN aA (AA (AT (EL S M0) aW)) (ar a3 hz)) ac bF))))) Es.nil)
  (bv.cons (IF (TT (ah (am (TC (EL S M1) aa ae)))) Es.nil)
  (bv.cons (IF (TC (EL S M1) aa ae) Es.nil)
  (bv.one (dl.tuple (ej.call (EG S bL) jY (AA (EL S M0)) (h1.cl))))))))
 case hH=>exact .inr he
theorem ES(h:PB H i b)(ok:b.ok)(hn:b.name="ref.extern")(hb:b.things≠[])(h1:Co GG 14 (.top 431) [.obj i] H (.obj j) H')(ht:H'[j]?=some (.tup [kv,vv])):Co GG 16 (.top 438) [.obj i] H (.obj (H'.length+1)) (H'++[eu kv vv false]++[.inst 399 H'.length]):=by
 have c0:(b.name==(J0 "ref.null"))=false:=by rw[hn];kernel_rfl
 have c1:(b.name==(J0 "ref.extern"))=true:=by rw[hn];kernel_rfl
 have c2:(b.name==(J0 "ref.func"))=false:=by rw[hn];kernel_rfl
 have hh:=(aD h ok).cl
 have hmk:=@a0
 obtain⟨e,l,ht,xs,a1,a2,a3,a4,a5,_⟩:=h
 have hl:xs.length=b.things.length:=a5.len.trans (K8 _)
 have hz:(V.obj ht::xs).length≤J5:=cQ (J7 (Nat.succ_le_succ (hl▸ok.2.2)) (by decide))
 have hx:xs.length≠0:=by rw[hl];exact fun q=>hb (List.length_eq_zero_iff.mp q)
 have cl:(((V.obj ht::xs).length:Int)==1)=false:=by simp;lia
 refine' aG (hb:=cI) (ns:=["branch"]) ?h
 case h=>
 intro S
 exact(Es.cons (NM S (CG S aL cW (AA (EL S M0)) (hh)))
 (Es.cons (IF (TT (ah (am (TC (EL S M1) aa ae)))) Es.nil)
 (Es.cons (IF (TT (ah (av (TC (EL S M1) aa ae) (am (TC (CB S aM aN aA (AA (AT (EL S M0) aW)) (ar a3 hz)) ac bF))))) Es.nil)
 (Es.cons (IF (TC (EL S M1) aa ae) Es.nil)
 (Es.cons (Ex.tuple S (CG S bL jY (AA (EL S M0)) (h1.cl)) (by walk_at"lk") (.cons SL (.cons SL .nil)))
 (Es.ret (Ex.ret (CG S gt qO (AC (EL S M2) (EL S M3) bn) (a0)))))))))
theorem DO(h:PB H i b)(ok:b.ok)(hn:b.name="ref.extern")(hb:b.things≠[])(h1:da GG 14 (.top 431) [.obj i] H j H')(he:H'[j]?=some (.excT C dx)):da GG 16 (.top 438) [.obj i] H j H':=by
 have c0:(b.name==(J0 "ref.null"))=false:=by rw[hn];kernel_rfl
 have c1:(b.name==(J0 "ref.extern"))=true:=by rw[hn];kernel_rfl
 have c2:(b.name==(J0 "ref.func"))=false:=by rw[hn];kernel_rfl
 have hh:=(aD h ok).cl
 have hmk:=@a0
 obtain⟨e,l,ht,xs,a1,a2,a3,a4,a5,_⟩:=h
 have hl:xs.length=b.things.length:=a5.len.trans (K8 _)
 have hz:(V.obj ht::xs).length≤J5:=cQ (J7 (Nat.succ_le_succ (hl▸ok.2.2)) (by decide))
 have hx:xs.length≠0:=by rw[hl];exact fun q=>hb (List.length_eq_zero_iff.mp q)
 have cl:(((V.obj ht::xs).length:Int)==1)=false:=by simp;lia
 refine d7 (H₁:=H'.set j (.excT C dx)) ?_ (bP he)
 refine' cx (hb:=cI) (ns:=["branch"]) ?h ?hH
 case h=>
  intro S
  exact(bv.cons (NM S (CG S aL cW (AA (EL S M0)) (hh)))
  (bv.cons (IF (TT (ah (am (TC (EL S M1) aa ae)))) Es.nil)
  (bv.cons (IF (TT (ah (av (TC (EL S M1) aa ae) (am (TC (CB S aM aN aA (AA (AT (EL S M0) aW)) (ar a3 hz)) ac bF))))) Es.nil)
  (bv.cons (IF (TC (EL S M1) aa ae) Es.nil)
  (bv.one (dl.tuple (ej.call (EG S bL) jY (AA (EL S M0)) (h1.cl))))))))
 case hH=>exact .inr he
theorem Dh(h:PB H i b)(ok:b.ok)(hn:b.name≠"ref.null"∧b.name≠"ref.extern"∧b.name≠"ref.func")(h1:Co GG 14 (.top 431) [.obj i] H (.obj j) H')(ht:H'[j]?=some (.tup [kv,vv])):Co GG 16 (.top 438) [.obj i] H (.obj (H'.length+1)) (H'++[eu kv vv false]++[.inst 399 H'.length]):=by
 have c0:(b.name==(J0 "ref.null"))=false:=by simpa using hn.1
 have c1:(b.name==(J0 "ref.extern"))=false:=by simpa using hn.2.1
 have c2:(b.name==(J0 "ref.func"))=false:=by simpa using hn.2.2
 have hh:=(aD h ok).cl
 have hmk:=@a0
 obtain⟨e,l,ht,xs,a1,a2,a3,a4,a5,_⟩:=h
 have hl:xs.length=b.things.length:=a5.len.trans (K8 _)
 have hz:(V.obj ht::xs).length≤J5:=cQ (J7 (Nat.succ_le_succ (hl▸ok.2.2)) (by decide))
 refine' aG (hb:=cI) (ns:=["branch"]) ?h
 case h=>
 intro S
 exact(Es.cons (NM S (CG S aL cW (AA (EL S M0)) (hh)))
 (Es.cons (IF (TT (ah (am (TC (EL S M1) aa ae)))) Es.nil)
 (Es.cons (IF (TT (ah (am (TC (EL S M1) aa ae)))) Es.nil)
 (Es.cons (IF (TC (EL S M1) aa ae) Es.nil)
 (Es.cons (Ex.tuple S (CG S bL jY (AA (EL S M0)) (h1.cl)) (by walk_at"lk") (.cons SL (.cons SL .nil)))
 (Es.ret (Ex.ret (CG S gt qO (AC (EL S M2) (EL S M3) bn) (a0)))))))))
theorem uW(h:PB H i b)(ok:b.ok)(hn:b.name≠"ref.null"∧b.name≠"ref.extern"∧b.name≠"ref.func")(h1:da GG 14 (.top 431) [.obj i] H j H')(he:H'[j]?=some (.excT C dx)):da GG 16 (.top 438) [.obj i] H j H':=by
 have c0:(b.name==(J0 "ref.null"))=false:=by simpa using hn.1
 have c1:(b.name==(J0 "ref.extern"))=false:=by simpa using hn.2.1
 have c2:(b.name==(J0 "ref.func"))=false:=by simpa using hn.2.2
 have hh:=(aD h ok).cl
 have hmk:=@a0
 obtain⟨e,l,ht,xs,a1,a2,a3,a4,a5,_⟩:=h
 have hl:xs.length=b.things.length:=a5.len.trans (K8 _)
 have hz:(V.obj ht::xs).length≤J5:=cQ (J7 (Nat.succ_le_succ (hl▸ok.2.2)) (by decide))
 refine d7 (H₁:=H'.set j (.excT C dx)) ?_ (bP he)
 refine' cx (hb:=cI) (ns:=["branch"]) ?h ?hH
 case h=>
  intro S
  exact(bv.cons (NM S (CG S aL cW (AA (EL S M0)) (hh)))
  (bv.cons (IF (TT (ah (am (TC (EL S M1) aa ae)))) Es.nil)
  (bv.cons (IF (TT (ah (am (TC (EL S M1) aa ae)))) Es.nil)
  (bv.cons (IF (TC (EL S M1) aa ae) Es.nil)
  (bv.one (dl.tuple (ej.call (EG S bL) jY (AA (EL S M0)) (h1.cl))))))))
 case hH=>exact .inr he
end
theorem ze{H:List O}{i:Nat}{b:LB}(h:PB H i b)(ok:b.ok):Em 16 (.top 438) [.obj i] H (fL b):=by
 by_cases hb:b.things=[]
 ·by_cases n1:b.name="ref.null"
  ·have e:fL b=.want none none false:=if_pos ⟨hb,n1⟩
   rw[e]
   exact⟨_,_,_,zg h ok n1 hb,Kp.app.trans Kp.app,cj,aF⟩
  by_cases n2:b.name="ref.extern"
  ·have e:fL b=.want (some (-17)) none true:=(if_neg (fun q=>n1 q.2)).trans (if_pos ⟨hb,n2⟩)
   rw[e]
   exact⟨_,_,_,BS h ok n2 hb,Kp.app.trans Kp.app,cj,aF⟩
  by_cases n3:b.name="ref.func"
  ·have e:fL b=.want (some (-16)) none true:=(if_neg (fun q=>n1 q.2)).trans ((if_neg (fun q=>n2 q.2)).trans ((if_pos n3).trans (if_pos hb)))
   rw[e]
   have hp:=gC (least:=0) (most:=some 0) h ok
   rw[hb] at hp
   obtain⟨xs,h1,h2⟩:=hp.1 (by decide)
   obtain rfl:=List.eq_nil_of_length_eq_zero h2.len
   exact⟨_,_,_,zh h ok n3 h1,(Kp.app.trans Kp.app).trans Kp.app,cj,aF⟩
  have e:fL b=(di b).wan:=(if_neg (fun q=>n1 q.2)).trans ((if_neg (fun q=>n2 q.2)).trans (if_neg n3))
  rw[e]
  have hc:=oA h ok
  cases hr:di b with
  | val k v=>rw[hr] at hc;obtain⟨j,H',h1,kp,ht⟩:=hc;exact⟨_,_,_,Dh h ok ⟨n1,n2,n3⟩ h1 ht,kp.trans (Kp.app.trans Kp.app),cj,aF⟩
  | bad w r c=>rw[hr] at hc;exact gs.lift hc Kp.refl fun j H' d q p=>uW h ok ⟨n1,n2,n3⟩ q p
  | left w r=>rw[hr] at hc;exact BN.lift hc Kp.refl fun j H' d q p=>uW h ok ⟨n1,n2,n3⟩ q p
 by_cases n3:b.name="ref.func"
 ·have e:fL b=.bad "another number of parts is wanted" b.row b.col:=(if_neg (fun q=>hb q.1)).trans ((if_neg (fun q=>hb q.1)).trans ((if_pos n3).trans (if_neg hb)))
  rw[e]
  have hp:=gC (least:=0) (most:=some 0) h ok
  refine gs.lift (hp.2 ?_) Kp.refl fun j H' d q p=>xl h ok n3 q p
  unfold dF
  have:=List.length_pos_iff.mpr hb
  simp;lia
 have e:fL b=(di b).wan:=(if_neg (fun q=>hb q.1)).trans ((if_neg (fun q=>hb q.1)).trans (if_neg n3))
 rw[e]
 have hc:=oA h ok
 have ok1:∀ {j:Nat} {H':List O} {kv vv:V},Co GG 14 (.top 431) [.obj i] H (.obj j) H'→H'[j]?=some (.tup [kv,vv])→Co GG 16 (.top 438) [.obj i] H (.obj (H'.length+1)) (H'++[eu kv vv false]++[.inst 399 H'.length]):=by
  intro j H' kv vv h1 ht
  by_cases n1:b.name="ref.null"
  ·exact ER h ok n1 hb h1 ht
  by_cases n2:b.name="ref.extern"
  ·exact ES h ok n2 hb h1 ht
  exact Dh h ok ⟨n1,n2,n3⟩ h1 ht
 have ok2:∀ {j:Nat} {H':List O} {C:Nat} {dx:Option Nat},da GG 14 (.top 431) [.obj i] H j H'→H'[j]?=some (.excT C dx)→da GG 16 (.top 438) [.obj i] H j H':=by
  intro j H' C dx h1 he
  by_cases n1:b.name="ref.null"
  ·exact DN h ok n1 hb h1 he
  by_cases n2:b.name="ref.extern"
  ·exact DO h ok n2 hb h1 he
  exact uW h ok ⟨n1,n2,n3⟩ h1 he
 cases hr:di b with
 | val k v=>rw[hr] at hc;obtain⟨j,H',h1,kp,ht⟩:=hc;exact⟨_,_,_,ok1 h1 ht,kp.trans (Kp.app.trans Kp.app),cj,aF⟩
 | bad w r c=>rw[hr] at hc;exact gs.lift hc Kp.refl fun j H' d q p=>ok2 q p
 | left w r=>rw[hr] at hc;exact BN.lift hc Kp.refl fun j H' d q p=>ok2 q p
section
variable {H:List O}{tp j:Nat}{n k:Int}{ns:List Int}{w:Str}
theorem xN(h:H[tp]?=some (.list ((ns++[n]).map V.int)))(hz:ns.length≤1000):Co GG 10 (.top 452) [.obj tp] H (.int n) ((H++[O.list []]).set tp (O.list (ns.map V.int))):=by
 have hne:ns++[n]≠[]:=by simp
 have h2:(H++[O.list []])[tp]?=some (.list (ns.map V.int++[V.int n])):=by rw[←List.map_singleton (f:=V.int),← V0];exact cF h
 have hz2:(ns.map V.int).length<J5:=by rw[J9,K8];lia
 refine' aG (hb:=cI) (ns:=["tape"]) ?h
 case h=>
 intro S
 exact(Es.ret (Ex.ret (aj (k:=true) (TC (EL S M0) (Ev.list ap.nil (bG rfl)) (sK (by walk_at"lk") (by walk_at"lk") (by assumption))) (au (EL S M0) (Gm.list PySem.F.slot_list_pop PySem.F.type_list_pop (by walk_at"lk")) trivial ap.nil (ww h2 hz2)))))
theorem xO(h:H[tp]?=some (.list [])):Co GG 10 (.top 452) [.obj tp] H (.int 0) (H++[.list []]):=by
 refine' aG (hb:=cI) (ns:=["tape"]) ?h
 case h=>
 intro S
 exact(Es.ret (Ex.ret (aj (k:=false) (TC (EL S M0) (Ev.list ap.nil (bG rfl)) (uL (by walk_at"lk") (by walk_at"lk"))) ac)))
inductive Du(tp:Nat)(ns:List Int)(H:List O):Prop
 | mk (H':List O) (h:Co GG 10 (.top 452) [.obj tp] H (.int (ns.getLastD 0)) H') (k:Kp [tp] H H') (t:H'[tp]?=some (.list (ns.dropLast.map V.int))):Du tp ns H
theorem eY(h:H[tp]?=some (.list (ns.map V.int)))(hz:ns.length≤1000):Du tp ns H:=by
 rcases List.eq_nil_or_concat ns with rfl | ⟨r,n,rfl⟩
 ·exact⟨_,xO h,Kp.app,cF h⟩
 rw[List.concat_eq_append] at h hz ⊢
 refine⟨(H++[O.list []]).set tp (O.list (r.map V.int)),?_,Kp.app.trans (Kp.set (.head _)),?_⟩
 ·rw[List.getLastD_concat]
  exact xN h (by simp at hz;lia)
 rw[List.dropLast_concat]
 exact cR (by have:=bC h;simp;lia)
noncomputable abbrev Dr:List (PyData×PyData):=[(.int (-1),.str "i32"),(.int (-2),.str "i64"),(.int (-16),.str "funcref"),(.int (-17),.str "externref")]
theorem xq{kv:V}:Co GG 4 (.top 492) [kv,.none] H (.str "null") H:=by
 refine' aG (hb:=jZ) (ns:=["kind","value"]) ?h
 case h=>
 intro S
 exact(Es.ret (Ex.ret (aj (k:=true) (TC (EL S M1) ai bk) aa)))
theorem zq{val:Int}(hk:Spec.lookup (PyData.int k) Dr=some (.str w))(h1:val.natAbs.log2<1920)(hz:w.length+1≤1000)(hz2:(J0 (toString val)).length≤10000) :
  Co GG 4 (.top 492) [.int k,.int val] H (.str (w++" "++J0 (toString val))) H:=by
 have z1:w.length+(J0 " ").length≤J5:=by rw[J9];have:(J0 " ").length=1:=rfl;lia
 have z2:(w++(J0 " ")).length+(J0 (toString val)).length≤J5:=by
  rw[J9]
  have e:(w++J0 " ").length=w.length+1:=Str.length_append _ _
  lia
 refine' aG (hb:=jZ) (ns:=["kind","value"]) ?h
 case h=>
 intro S
 exact(Es.ret (Ex.ret (aj (k:=false) (TC (EL S M1) ai bk) (ak (ak (wq (EL S M0) rfl rfl (by decide) rfl rfl (by simp) (by decide) (by assumption)) aa (bS (by assumption))) (CT S qG qU kO (AA (EL S M1)) (kT h1)) (bS (by assumption))))))
end
noncomputable def qw(k v:Option Int)(any:Bool)(kind:Int)(value:Option Int):Bool:=
 if any then(k==some kind) && value.isSome else(match k with | some q=>q==kind | none=>decide (kind < -2)) && (value==v)
section
variable {H:List O}{j:Nat}{q kind:Int}{a b:V}{r:Bool}
theorem D5(h:H[j]?=some (.tup [.int q,a,.bool true]))(hq:(kind==q)=true)(hv:∀ n,b≠.bi n):Co GG 4 (.top 506) [.obj j,.int kind,b] H (.bool (!b.isNone)) H:=by
 refine' aG (hb:=iN) (ns:=["due","kind","value"]) ?h
 case h=>
 intro S
 exact(Es.ret (IT (TT (Te.val (Ev.item (EL S M0) ac GT) Tv.bool)) (Es.ret (Ex.ret (fU (bo (EL S M1) (Ev.item (EL S M0) ac GT) bF) (dZ Tv.bool (by assumption)) (fV (bo (EL S M2) ai aS)))))))
theorem Ch(h:H[j]?=some (.tup [.int q,a,.bool true]))(hq:(kind==q)=false):Co GG 4 (.top 506) [.obj j,.int kind,b] H (.bool (kind==q)) H:=by
 refine' aG (hb:=iN) (ns:=["due","kind","value"]) ?h
 case h=>
 intro S
 exact(Es.ret (IT (TT (Te.val (Ev.item (EL S M0) ac GT) Tv.bool)) (Es.ret (Ex.ret (iO (bo (EL S M1) (Ev.item (EL S M0) ac GT) bF) (dZ Tv.bool (by assumption)))))))
theorem Gy(h:H[j]?=some (.tup [.int q,a,.bool false]))(hq:(kind==q)=true)(hc:Cm GG 4 .Eq b a H r):Co GG 4 (.top 506) [.obj j,.int kind,b] H (.bool r) H:=by
 refine' aG (hb:=iN) (ns:=["due","kind","value"]) ?h
 case h=>
 intro S
 exact(Es.cons (IF (TT (Te.val (Ev.item (EL S M0) ac GT) Tv.bool)) Es.nil)
 (Es.ret (Ex.ret (fU (aj (k:=true) (TC (Ev.item (EL S M0) ac GT) ai aS) (bo (EL S M1) (Ev.item (EL S M0) ac GT) bF)) (dZ Tv.bool (by assumption)) (fV (bo (EL S M2) (Ev.item (EL S M0) ac GT) (by assumption)))))))
theorem Fk(h:H[j]?=some (.tup [.int q,a,.bool false]))(hq:(kind==q)=false):Co GG 4 (.top 506) [.obj j,.int kind,b] H (.bool (kind==q)) H:=by
 refine' aG (hb:=iN) (ns:=["due","kind","value"]) ?h
 case h=>
 intro S
 exact(Es.cons (IF (TT (Te.val (Ev.item (EL S M0) ac GT) Tv.bool)) Es.nil)
 (Es.ret (Ex.ret (iO (aj (k:=true) (TC (Ev.item (EL S M0) ac GT) ai aS) (bo (EL S M1) (Ev.item (EL S M0) ac GT) bF)) (dZ Tv.bool (by assumption))))))
theorem Gx(h:H[j]?=some (.tup [.none,a,.bool false]))(hq:decide (kind < -2)=true)(hc:Cm GG 4 .Eq b a H r):Co GG 4 (.top 506) [.obj j,.int kind,b] H (.bool r) H:=by
 refine' aG (hb:=iN) (ns:=["due","kind","value"]) ?h
 case h=>
 intro S
 exact(Es.cons (IF (TT (Te.val (Ev.item (EL S M0) ac GT) Tv.bool)) Es.nil)
 (Es.ret (Ex.ret (fU (aj (k:=false) (TC (Ev.item (EL S M0) ac GT) ai aS) (bo (EL S M1) (aK ac) bQ)) (dZ Tv.bool (by assumption)) (fV (bo (EL S M2) (Ev.item (EL S M0) ac GT) (by assumption)))))))
theorem Fj(h:H[j]?=some (.tup [.none,a,.bool false]))(hq:decide (kind < -2)=false):Co GG 4 (.top 506) [.obj j,.int kind,b] H (.bool (decide (kind < -2))) H:=by
 refine' aG (hb:=iN) (ns:=["due","kind","value"]) ?h
 case h=>
 intro S
 exact(Es.cons (IF (TT (Te.val (Ev.item (EL S M0) ac GT) Tv.bool)) Es.nil)
 (Es.ret (Ex.ret (iO (aj (k:=false) (TC (Ev.item (EL S M0) ac GT) ai aS) (bo (EL S M1) (aK ac) bQ)) (dZ Tv.bool (by assumption))))))
end
theorem AW{H:List O}{dd:Nat}:∀ {x y:Option Int},Cm GG dd .Eq (aI x) (aI y) H (x==y)
 | some x,some y=>by rw[show(some x==some y)=(x==y) from rfl];exact bF
 | some x,none=>sN
 | none,some y=>sM
 | none,none=>sL
theorem mC{x:Option Int}:∀ n,aI x≠.bi n:=by intro n;cases x <;> (intro h;cases h)
theorem rS{H:List O}{j:Nat}{k v:Option Int}{any:Bool}{kind:Int}{value:Option Int}(h:H[j]?=some (.tup [aI k,aI v,.bool any]))(ha:any=true→k.isSome=true) :
  Co GG 4 (.top 506) [.obj j,.int kind,aI value] H (.bool (qw k v any kind value)) H:=by
 unfold qw
 cases any with
 | true=>
  match k,ha rfl with
  | some q,_=>
  cases hq:kind==q with
  | true=>
   have:(some q==some kind)=true:=by simpa using (beq_iff_eq.mp hq).symm
   rw[if_pos rfl,this,Bool.true_and,show value.isSome=!(aI value).isNone from by cases value <;> rfl]
   exact D5 h hq mC
  | false=>
  have:(some q==some kind)=false:=by simp at hq ⊢;exact fun e=>hq e.symm
  rw[if_pos rfl,this,Bool.false_and]
  have:=Ch h hq (b:=aI value);rwa [hq] at this
 | false=>
 rw[if_neg (by decide)]
 match k with
 | some q=>
  dsimp only
  cases hq:kind==q with
  | true=>rw[show(q==kind)=true from by simpa using (beq_iff_eq.mp hq).symm,Bool.true_and];exact Gy h hq AW
  | false=>rw[show(q==kind)=false from by simp at hq ⊢;exact fun e=>hq e.symm,Bool.false_and];have:=Fk h hq (b:=aI value);rwa [hq] at this
 | none=>
 dsimp only
 cases hq:decide (kind < -2) with
 | true=>rw[Bool.true_and];exact Gx h hq AW
 | false=>rw[Bool.false_and];have:=Fj h hq (b:=aI value);rwa [hq] at this
theorem yd{H:List O}{self d:Nat}{k v:Option Int}{any:Bool}{kind:Int}{value:Option Int}(hi:H[self]?=some (.inst 399 d))(hD:H[d]?=some (eu (aI k) (aI v) any))(hk:kind∈[(-1:Int),-2,-16,-17])(ha:any=true→k.isSome=true) :
  Co GG 6 (.top 389) [.obj self,.int kind,aI value] H (.bool (qw k v any kind value)) H:=by
 have hr:KTD.inKeys kind ip=decide (kind < -2):=by
  simp only[K2,J8,or_false] at hk
  rcases hk with rfl | rfl | rfl | rfl <;> decide
 unfold qw
 match k with
 | some q=>
  by_cases hq:kind=q
  ·subst hq
   cases any with
   | true=>
    rw[if_pos rfl,show(some kind==some kind)=true from by simp,Bool.true_and,show value.isSome=!(aI value).isNone from by cases value <;> rfl]
    exact vI hi hD
   | false=>
   rw[if_neg (by decide)]
   dsimp only
   rw[show(kind==kind)=true from by simp,Bool.true_and]
   match value,v with
   | some x,some y=>rw[show(some x==some y)=(x==y) from rfl];exact ym hi hD
   | some x,none=>exact yl hi hD
   | none,some y=>exact yk hi hD
   | none,none=>exact yj hi hD
  have e:(if any=true then(some q==some kind) && value.isSome else(q==kind) && (value==v))=false:=by
   have h1:(some q==some kind)=false:=by simp;exact fun e=>hq e.symm
   have h2:(q==kind)=false:=by simp;exact fun e=>hq e.symm
   rw[h1,h2];cases any <;> rfl
  dsimp only
  rw[e]
  exact yi hi hD hq
 | none=>
 cases any with
 | true=>exact absurd (ha rfl) (by decide)
 | false=>
 rw[if_neg (by decide)]
 dsimp only
 cases hq:decide (kind < -2) with
 | false=>rw[Bool.false_and];exact vH hi hD (by rw[hr,hq])
 | true=>
 have hn:KTD.inKeys kind ip=true:=by rw[hr,hq]
 rw[Bool.true_and]
 match value,v with
 | some x,some y=>rw[show(some x==some y)=(x==y) from rfl];exact yh hi hD hn
 | some x,none=>exact yg hi hD hn
 | none,some y=>exact yf hi hD hn
 | none,none=>exact ye hi hD hn
inductive FW(H:List O)(v:V)(t:LT):Prop
 | mk (k:Nat) (p0:v=.obj k) (p1:H[k]?=some (.tup [.str (aq t.th.told),.str t.th.sort,.int t.th.value,.int t.place])):FW H v t
noncomputable def dO(H:List O):List V→List LT→Prop
 | [],[]=>True
 | v::vs,t::ts=>FW H v t∧dO H vs ts
 | _,_=>False
theorem dO.len{H:List O}:∀ {vs:List V} {ts:List LT},dO H vs ts→vs.length=ts.length
 | [],[],_=>rfl
 | _::_,_::_,⟨_,b⟩=>by simp[dO.len b]
 | [],_::_,h=>h.elim
 | _::_,[],h=>h.elim
theorem KI.tup{I:List Nat}{m:Nat}{H H':List O}(hI:KI I m H)(k:Kp I H H'){i:Nat}{xs:List V}(h:H[i]?=some (.tup xs)):H'[i]?=some (.tup xs):=k.get h fun x=>by
 obtain⟨_,o,ho,hs⟩:=hI _ x
 rw[h] at ho;cases ho;cases hs
theorem dO.keep{I:List Nat}{m:Nat}{H H':List O}(hI:KI I m H)(k:Kp I H H'):∀ {vs:List V} {ts:List LT},dO H vs ts→dO H' vs ts
 | [],[],_=>trivial
 | _::_,_::_,⟨⟨j,e,h⟩,r⟩=>⟨⟨j,e,hI.tup k h⟩,dO.keep hI k r⟩
 | [],_::_,h=>h.elim
 | _::_,[],h=>h.elim
inductive sA(m:Nat)(H:List O)(j:Nat)(b:LB):Prop
 | mk (tl:Nat) (vs:List V) (p0:m≤tl) (p1:H[j]?=some (.tup [.str b.name,.obj tl,.int b.row,.int b.col])) (p2:H[tl]?=some (.list vs)) (p3:dO H vs b.things):sA m H j b
theorem sA.keep{I:List Nat}{m:Nat}{H H':List O}{j:Nat}{b:LB}(hI:KI I m H)(k:Kp I H H')(h:sA m H j b):sA m H' j b:=by
 obtain⟨tl,vs,l,a1,a2,a3⟩:=h
 exact⟨tl,vs,l,hI.tup k a1,k.getLow hI a2 l,a3.keep hI k⟩
theorem sA.keep0{H H':List O}{m j:Nat}{b:LB}(k:Kp [] H H')(h:sA m H j b):sA m H' j b:=h.keep KI.nil k
inductive a8(dd:Nat)(f:V)(args:List V)(H:List O)(vs:List V):Prop
 | mk (i:Nat) (H':List O) (p0:Co GG dd f args H (.obj i) H') (p1:Kp [] H H') (p2:H'[i]?=some (.tup vs)):a8 dd f args H vs
theorem a8.of{dd:Nat}{f:V}{args:List V}{H H₀:List O}{vs:List V}(h:Co GG dd f args H (.obj H₀.length) (H₀++[.tup vs]))(k:Kp [] H H₀):a8 dd f args H vs:=⟨_,_,h,k.trans Kp.app,aB⟩
noncomputable def GO(dd:Nat)(f:V)(args:List V)(H:List O):NR→Prop
 | .bad w r c=>a8 dd f args H [.str "bad",.str w,.int r,.int c]
 | .num x=>∃ H',Co GG dd f args H (.int x) H'∧Kp [] H H'
section
variable {H:List O}{j tl k:Nat}{name told sort:Str}{row col place value least most:Int}{vs:List V}
noncomputable abbrev i7(name:Str)(tl:Nat)(row col:Int):O:=.tup [.str name,.obj tl,.int row,.int col]
noncomputable abbrev wB(told sort:Str)(value place:Int):O:=.tup [.str told,.str sort,.int value,.int place]
noncomputable abbrev zI(told:Str):Bool:=!(iT "+-" (Txt.item told 0)).isEmpty
theorem D4(h:H[j]?=some (i7 name tl row col))(ht:H[tl]?=some (.list vs))(hz:vs.length≤1000)(hn:vs.length≠1):Co GG 6 (.top 471) [.obj j,.int least,.int most] H (.obj H.length) (H++[.tup [.str "bad",.str "another number of parts is wanted",.int row,.int col]]):=by
 have hz2:vs.length≤J5:=by rw[J9];lia
 have c1:((vs.length:Int) != 1)=true:=by rw[bne_iff_ne];lia
 refine' aG (hb:=iN) (ns:=["branch","least","most"]) ?h
 case h=>
 intro S
 exact(Es.cons (Ex.tuple S (EL S M0) (by walk_at"lk") (.cons SL (.cons SL (.cons SL (.cons SL .nil)))))
 (Es.ret (IT (TC (CB S aM aN aA (AA (EL S M4)) (ar ht hz2)) ac bZ) (Es.ret (Ex.ret (Ev.tup (ap.cons aa (ap.cons aa (ap.cons (EL S M5) (ap.cons (EL S M6) ap.nil)))) (bG rfl)))))))
theorem Cd(h:H[j]?=some (i7 name tl row col))(ht:H[tl]?=some (.list [.obj k]))(hk:H[k]?=some (wB told sort value place))(hl:0<told.length)(hs:sort≠"int"):Co GG 6 (.top 471) [.obj j,.int least,.int most] H (.obj H.length) (H++[.tup [.str "bad",.str "unexpected token",.int row,.int place]]):=by
 have hz2:[V.obj k].length≤J5:=by rw[J9];simp
 have zi1:-(told.length:Int)≤0:=by lia
 have zi2:(0:Int)<told.length:=by lia
 have c1:(sort != (J0 "int"))=true:=by simpa using hs
 refine' aG (hb:=iN) (ns:=["branch","least","most"]) ?h
 case h=>
 intro S
 exact(Es.cons (Ex.tuple S (EL S M0) (by walk_at"lk") (.cons SL (.cons SL (.cons SL (.cons SL .nil)))))
 (Es.cons (IF (TC (CB S aM aN aA (AA (EL S M4)) (ar ht hz2)) ac bZ) Es.nil)
 (Es.cons (Ex.tuple S (Ev.item (EL S M4) ac GL) (by walk_at"lk") (.cons SL (.cons SL (.cons SL (.cons SL .nil)))))
 (Es.ret (IT (TT (ah (cJ (TC (EL S M8) aa cy)))) (Es.ret (Ex.ret (Ev.tup (ap.cons aa (ap.cons aa (ap.cons (EL S M5) (ap.cons (EL S sP) ap.nil)))) (bG rfl)))))))))
theorem Ce(h:H[j]?=some (i7 name tl row col))(ht:H[tl]?=some (.list [.obj k]))(hk:H[k]?=some (wB told sort value place))(hl:0<told.length)(hs:sort="int")(hn:name="ref.extern")(hg:zI told=true):Co GG 6 (.top 471) [.obj j,.int least,.int most] H (.obj H.length) (H++[.tup [.str "bad",.str "unexpected token",.int row,.int place]]):=by
 have hz2:[V.obj k].length≤J5:=by rw[J9];simp
 have zi1:-(told.length:Int)≤0:=by lia
 have zi2:(0:Int)<told.length:=by lia
 have c1:(sort != (J0 "int"))=false:=by rw[hs];kernel_rfl
 have c2:(name==(J0 "ref.extern"))=true:=by rw[hn];kernel_rfl
 refine' aG (hb:=iN) (ns:=["branch","least","most"]) ?h
 case h=>
 intro S
 exact(Es.cons (Ex.tuple S (EL S M0) (by walk_at"lk") (.cons SL (.cons SL (.cons SL (.cons SL .nil)))))
 (Es.cons (IF (TC (CB S aM aN aA (AA (EL S M4)) (ar ht hz2)) ac bZ) Es.nil)
 (Es.cons (Ex.tuple S (Ev.item (EL S M4) ac GL) (by walk_at"lk") (.cons SL (.cons SL (.cons SL (.cons SL .nil)))))
 (Es.ret (IT (TT (ah (aw (TC (EL S M8) aa cy) (cJ (TT (ah (av (TC (EL S M3) aa ae) (av (TC (Ev.item (EL S M7) ac (bE.str (by assumption) (by assumption) (by decide))) aa aT) cD)))))))) (Es.ret (Ex.ret (Ev.tup (ap.cons aa (ap.cons aa (ap.cons (EL S M5) (ap.cons (EL S sP) ap.nil)))) (bG rfl)))))))))
theorem Ab(h:H[j]?=some (i7 name tl row col))(ht:H[tl]?=some (.list [.obj k]))(hk:H[k]?=some (wB told sort value place))(hl:0<told.length)(hs:sort="int")(hn:name≠"ref.extern")(hg:zI told=false)(hm:most≠0)(hm2:Builtin.divisionGoesByPylong most 2=false)(r1:least≤value)(r2:value<most):Co GG 6 (.top 471) [.obj j,.int least,.int most] H (.int (value.fmod most)) H:=by
 have hz2:[V.obj k].length≤J5:=by rw[J9];simp
 have zi1:-(told.length:Int)≤0:=by lia
 have zi2:(0:Int)<told.length:=by lia
 have c1:(sort != (J0 "int"))=false:=by rw[hs];kernel_rfl
 have c2:(name==(J0 "ref.extern"))=false:=by simpa using hn
 have d1:decide (least≤value)=true:=decide_eq_true r1
 have d2:decide (value<most)=true:=decide_eq_true r2
 refine' aG (hb:=iN) (ns:=["branch","least","most"]) ?h
 case h=>
 intro S
 exact(Es.cons (Ex.tuple S (EL S M0) (by walk_at"lk") (.cons SL (.cons SL (.cons SL (.cons SL .nil)))))
 (Es.cons (IF (TC (CB S aM aN aA (AA (EL S M4)) (ar ht hz2)) ac bZ) Es.nil)
 (Es.cons (Ex.tuple S (Ev.item (EL S M4) ac GL) (by walk_at"lk") (.cons SL (.cons SL (.cons SL (.cons SL .nil)))))
 (Es.cons (IF (TT (ah (aw (TC (EL S M8) aa cy) (aw (TT (ah (am (TC (EL S M3) aa ae)))) bh)))) Es.nil)
 (Es.cons (IF (TT (aO (d0 (EL S M1) (EL S M9) (dQ cC (by assumption)) (aj (k:=false) (TC (Ev.item (EL S M7) ac (bE.str (by assumption) (by assumption) (by decide))) aa aT) (EL S M2)) bQ))) Es.nil)
 (Es.ret (Ex.ret (ak (EL S M9) (EL S M2) (cB (by assumption))))))))))
theorem Ae(h:H[j]?=some (i7 name tl row col))(ht:H[tl]?=some (.list [.obj k]))(hk:H[k]?=some (wB told sort value place))(hl:0<told.length)(hs:sort="int")(hn:name≠"ref.extern")(hg:zI told=false)(hm:most≠0)(hm2:Builtin.divisionGoesByPylong most 2=false)(r1:¬ least≤value):Co GG 6 (.top 471) [.obj j,.int least,.int most] H (.obj H.length) (H++[.tup [.str "bad",.str (""++"constant out of range"),.int row,.int place]]):=by
 have hz2:[V.obj k].length≤J5:=by rw[J9];simp
 have zi1:-(told.length:Int)≤0:=by lia
 have zi2:(0:Int)<told.length:=by lia
 have c1:(sort != (J0 "int"))=false:=by rw[hs];kernel_rfl
 have c2:(name==(J0 "ref.extern"))=false:=by simpa using hn
 have zs:(J0 "").length+(J0 "constant out of range").length≤J5:=by decide +kernel
 have d1:decide (least≤value)=false:=decide_eq_false r1
 refine' aG (hb:=iN) (ns:=["branch","least","most"]) ?h
 case h=>
 intro S
 exact(Es.cons (Ex.tuple S (EL S M0) (by walk_at"lk") (.cons SL (.cons SL (.cons SL (.cons SL .nil)))))
 (Es.cons (IF (TC (CB S aM aN aA (AA (EL S M4)) (ar ht hz2)) ac bZ) Es.nil)
 (Es.cons (Ex.tuple S (Ev.item (EL S M4) ac GL) (by walk_at"lk") (.cons SL (.cons SL (.cons SL (.cons SL .nil)))))
 (Es.cons (IF (TT (ah (aw (TC (EL S M8) aa cy) (aw (TT (ah (am (TC (EL S M3) aa ae)))) bh)))) Es.nil)
 (Es.ret (IT (TT (aO (fC (EL S M1) (EL S M9) (dQ cC (by assumption))))) (Es.ret (Ex.ret (Ev.tup (ap.cons aa (ap.cons (ak (aj (k:=false) (TC (EL S M3) aa ae) aa) aa (bS (by assumption))) (ap.cons (EL S M5) (ap.cons (EL S sP) ap.nil)))) (bG rfl))))))))))
theorem Ah(h:H[j]?=some (i7 name tl row col))(ht:H[tl]?=some (.list [.obj k]))(hk:H[k]?=some (wB told sort value place))(hl:0<told.length)(hs:sort="int")(hn:name≠"ref.extern")(hg:zI told=false)(hm:most≠0)(hm2:Builtin.divisionGoesByPylong most 2=false)(r1:least≤value)(r2:¬ value<most):Co GG 6 (.top 471) [.obj j,.int least,.int most] H (.obj H.length) (H++[.tup [.str "bad",.str (""++"constant out of range"),.int row,.int place]]):=by
 have hz2:[V.obj k].length≤J5:=by rw[J9];simp
 have zi1:-(told.length:Int)≤0:=by lia
 have zi2:(0:Int)<told.length:=by lia
 have c1:(sort != (J0 "int"))=false:=by rw[hs];kernel_rfl
 have c2:(name==(J0 "ref.extern"))=false:=by simpa using hn
 have zs:(J0 "").length+(J0 "constant out of range").length≤J5:=by decide +kernel
 have d1:decide (least≤value)=true:=decide_eq_true r1
 have d2:decide (value<most)=false:=decide_eq_false r2
 refine' aG (hb:=iN) (ns:=["branch","least","most"]) ?h
 case h=>
 intro S
 exact(Es.cons (Ex.tuple S (EL S M0) (by walk_at"lk") (.cons SL (.cons SL (.cons SL (.cons SL .nil)))))
 (Es.cons (IF (TC (CB S aM aN aA (AA (EL S M4)) (ar ht hz2)) ac bZ) Es.nil)
 (Es.cons (Ex.tuple S (Ev.item (EL S M4) ac GL) (by walk_at"lk") (.cons SL (.cons SL (.cons SL (.cons SL .nil)))))
 (Es.cons (IF (TT (ah (aw (TC (EL S M8) aa cy) (aw (TT (ah (am (TC (EL S M3) aa ae)))) bh)))) Es.nil)
 (Es.ret (IT (TT (aO (d0 (EL S M1) (EL S M9) (dQ cC (by assumption)) (aj (k:=false) (TC (Ev.item (EL S M7) ac (bE.str (by assumption) (by assumption) (by decide))) aa aT) (EL S M2)) bQ)) (Fy (by assumption))) (Es.ret (Ex.ret (Ev.tup (ap.cons aa (ap.cons (ak (aj (k:=false) (TC (EL S M3) aa ae) aa) aa (bS (by assumption))) (ap.cons (EL S M5) (ap.cons (EL S sP) ap.nil)))) (bG rfl))))))))))
theorem Aa(h:H[j]?=some (i7 name tl row col))(ht:H[tl]?=some (.list [.obj k]))(hk:H[k]?=some (wB told sort value place))(hl:0<told.length)(hs:sort="int")(hn:name≠"ref.extern")(hg:zI told=true)(hm:most≠0)(hm2:Builtin.divisionGoesByPylong most 2=false)(r1:least≤value)(r2:value<most.fdiv 2):Co GG 6 (.top 471) [.obj j,.int least,.int most] H (.int (value.fmod most)) H:=by
 have hz2:[V.obj k].length≤J5:=by rw[J9];simp
 have zi1:-(told.length:Int)≤0:=by lia
 have zi2:(0:Int)<told.length:=by lia
 have c1:(sort != (J0 "int"))=false:=by rw[hs];kernel_rfl
 have c2:(name==(J0 "ref.extern"))=false:=by simpa using hn
 have d1:decide (least≤value)=true:=decide_eq_true r1
 have d2:decide (value<most.fdiv 2)=true:=decide_eq_true r2
 refine' aG (hb:=iN) (ns:=["branch","least","most"]) ?h
 case h=>
 intro S
 exact(Es.cons (Ex.tuple S (EL S M0) (by walk_at"lk") (.cons SL (.cons SL (.cons SL (.cons SL .nil)))))
 (Es.cons (IF (TC (CB S aM aN aA (AA (EL S M4)) (ar ht hz2)) ac bZ) Es.nil)
 (Es.cons (Ex.tuple S (Ev.item (EL S M4) ac GL) (by walk_at"lk") (.cons SL (.cons SL (.cons SL (.cons SL .nil)))))
 (Es.cons (IF (TT (ah (aw (TC (EL S M8) aa cy) (aw (TT (ah (am (TC (EL S M3) aa ae)))) bh)))) Es.nil)
 (Es.cons (IF (TT (aO (d0 (EL S M1) (EL S M9) (dQ cC (by assumption)) (aj (k:=true) (TC (Ev.item (EL S M7) ac (bE.str (by assumption) (by assumption) (by decide))) aa aT) (ak (EL S M2) ac (iQ (by lia) (by assumption)))) bQ))) Es.nil)
 (Es.ret (Ex.ret (ak (EL S M9) (EL S M2) (cB (by assumption))))))))))
theorem Ad(h:H[j]?=some (i7 name tl row col))(ht:H[tl]?=some (.list [.obj k]))(hk:H[k]?=some (wB told sort value place))(hl:0<told.length)(hs:sort="int")(hn:name≠"ref.extern")(hg:zI told=true)(hm:most≠0)(hm2:Builtin.divisionGoesByPylong most 2=false)(r1:¬ least≤value):Co GG 6 (.top 471) [.obj j,.int least,.int most] H (.obj H.length) (H++[.tup [.str "bad",.str (""++"constant out of range"),.int row,.int place]]):=by
 have hz2:[V.obj k].length≤J5:=by rw[J9];simp
 have zi1:-(told.length:Int)≤0:=by lia
 have zi2:(0:Int)<told.length:=by lia
 have c1:(sort != (J0 "int"))=false:=by rw[hs];kernel_rfl
 have c2:(name==(J0 "ref.extern"))=false:=by simpa using hn
 have zs:(J0 "").length+(J0 "constant out of range").length≤J5:=by decide +kernel
 have d1:decide (least≤value)=false:=decide_eq_false r1
 refine' aG (hb:=iN) (ns:=["branch","least","most"]) ?h
 case h=>
 intro S
 exact(Es.cons (Ex.tuple S (EL S M0) (by walk_at"lk") (.cons SL (.cons SL (.cons SL (.cons SL .nil)))))
 (Es.cons (IF (TC (CB S aM aN aA (AA (EL S M4)) (ar ht hz2)) ac bZ) Es.nil)
 (Es.cons (Ex.tuple S (Ev.item (EL S M4) ac GL) (by walk_at"lk") (.cons SL (.cons SL (.cons SL (.cons SL .nil)))))
 (Es.cons (IF (TT (ah (aw (TC (EL S M8) aa cy) (aw (TT (ah (am (TC (EL S M3) aa ae)))) bh)))) Es.nil)
 (Es.ret (IT (TT (aO (fC (EL S M1) (EL S M9) (dQ cC (by assumption))))) (Es.ret (Ex.ret (Ev.tup (ap.cons aa (ap.cons (ak (aj (k:=false) (TC (EL S M3) aa ae) aa) aa (bS (by assumption))) (ap.cons (EL S M5) (ap.cons (EL S sP) ap.nil)))) (bG rfl))))))))))
theorem Ag(h:H[j]?=some (i7 name tl row col))(ht:H[tl]?=some (.list [.obj k]))(hk:H[k]?=some (wB told sort value place))(hl:0<told.length)(hs:sort="int")(hn:name≠"ref.extern")(hg:zI told=true)(hm:most≠0)(hm2:Builtin.divisionGoesByPylong most 2=false)(r1:least≤value)(r2:¬ value<most.fdiv 2):Co GG 6 (.top 471) [.obj j,.int least,.int most] H (.obj H.length) (H++[.tup [.str "bad",.str (""++"constant out of range"),.int row,.int place]]):=by
 have hz2:[V.obj k].length≤J5:=by rw[J9];simp
 have zi1:-(told.length:Int)≤0:=by lia
 have zi2:(0:Int)<told.length:=by lia
 have c1:(sort != (J0 "int"))=false:=by rw[hs];kernel_rfl
 have c2:(name==(J0 "ref.extern"))=false:=by simpa using hn
 have zs:(J0 "").length+(J0 "constant out of range").length≤J5:=by decide +kernel
 have d1:decide (least≤value)=true:=decide_eq_true r1
 have d2:decide (value<most.fdiv 2)=false:=decide_eq_false r2
 refine' aG (hb:=iN) (ns:=["branch","least","most"]) ?h
 case h=>
 intro S
 exact(Es.cons (Ex.tuple S (EL S M0) (by walk_at"lk") (.cons SL (.cons SL (.cons SL (.cons SL .nil)))))
 (Es.cons (IF (TC (CB S aM aN aA (AA (EL S M4)) (ar ht hz2)) ac bZ) Es.nil)
 (Es.cons (Ex.tuple S (Ev.item (EL S M4) ac GL) (by walk_at"lk") (.cons SL (.cons SL (.cons SL (.cons SL .nil)))))
 (Es.cons (IF (TT (ah (aw (TC (EL S M8) aa cy) (aw (TT (ah (am (TC (EL S M3) aa ae)))) bh)))) Es.nil)
 (Es.ret (IT (TT (aO (d0 (EL S M1) (EL S M9) (dQ cC (by assumption)) (aj (k:=true) (TC (Ev.item (EL S M7) ac (bE.str (by assumption) (by assumption) (by decide))) aa aT) (ak (EL S M2) ac (iQ (by lia) (by assumption)))) bQ)) (Fy (by assumption))) (Es.ret (Ex.ret (Ev.tup (ap.cons aa (ap.cons (ak (aj (k:=false) (TC (EL S M3) aa ae) aa) aa (bS (by assumption))) (ap.cons (EL S M5) (ap.cons (EL S sP) ap.nil)))) (bG rfl))))))))))
theorem Ac(h:H[j]?=some (i7 name tl row col))(ht:H[tl]?=some (.list [.obj k]))(hk:H[k]?=some (wB told sort value place))(hl:0<told.length)(hs:sort="int")(hn:name="ref.extern")(hg:zI told=false)(hm:most≠0)(hm2:Builtin.divisionGoesByPylong most 2=false)(r1:least≤value)(r2:value<most):Co GG 6 (.top 471) [.obj j,.int least,.int most] H (.int (value.fmod most)) H:=by
 have hz2:[V.obj k].length≤J5:=by rw[J9];simp
 have zi1:-(told.length:Int)≤0:=by lia
 have zi2:(0:Int)<told.length:=by lia
 have c1:(sort != (J0 "int"))=false:=by rw[hs];kernel_rfl
 have c2:(name==(J0 "ref.extern"))=true:=by rw[hn];kernel_rfl
 have d1:decide (least≤value)=true:=decide_eq_true r1
 have d2:decide (value<most)=true:=decide_eq_true r2
 refine' aG (hb:=iN) (ns:=["branch","least","most"]) ?h
 case h=>
 intro S
 exact(Es.cons (Ex.tuple S (EL S M0) (by walk_at"lk") (.cons SL (.cons SL (.cons SL (.cons SL .nil)))))
 (Es.cons (IF (TC (CB S aM aN aA (AA (EL S M4)) (ar ht hz2)) ac bZ) Es.nil)
 (Es.cons (Ex.tuple S (Ev.item (EL S M4) ac GL) (by walk_at"lk") (.cons SL (.cons SL (.cons SL (.cons SL .nil)))))
 (Es.cons (IF (TT (ah (aw (TC (EL S M8) aa cy) (aw (TT (ah (av (TC (EL S M3) aa ae) (am (TC (Ev.item (EL S M7) ac (bE.str (by assumption) (by assumption) (by decide))) aa aT))))) bh)))) Es.nil)
 (Es.cons (IF (TT (aO (d0 (EL S M1) (EL S M9) (dQ cC (by assumption)) (aj (k:=false) (TC (Ev.item (EL S M7) ac (bE.str (by assumption) (by assumption) (by decide))) aa aT) (EL S M2)) bQ))) Es.nil)
 (Es.ret (Ex.ret (ak (EL S M9) (EL S M2) (cB (by assumption))))))))))
theorem Af(h:H[j]?=some (i7 name tl row col))(ht:H[tl]?=some (.list [.obj k]))(hk:H[k]?=some (wB told sort value place))(hl:0<told.length)(hs:sort="int")(hn:name="ref.extern")(hg:zI told=false)(hm:most≠0)(hm2:Builtin.divisionGoesByPylong most 2=false)(r1:¬ least≤value):Co GG 6 (.top 471) [.obj j,.int least,.int most] H (.obj H.length) (H++[.tup [.str "bad",.str ("i32 "++"constant out of range"),.int row,.int place]]):=by
 have hz2:[V.obj k].length≤J5:=by rw[J9];simp
 have zi1:-(told.length:Int)≤0:=by lia
 have zi2:(0:Int)<told.length:=by lia
 have c1:(sort != (J0 "int"))=false:=by rw[hs];kernel_rfl
 have c2:(name==(J0 "ref.extern"))=true:=by rw[hn];kernel_rfl
 have zs:(J0 "i32 ").length+(J0 "constant out of range").length≤J5:=by decide +kernel
 have d1:decide (least≤value)=false:=decide_eq_false r1
 refine' aG (hb:=iN) (ns:=["branch","least","most"]) ?h
 case h=>
 intro S
 exact(Es.cons (Ex.tuple S (EL S M0) (by walk_at"lk") (.cons SL (.cons SL (.cons SL (.cons SL .nil)))))
 (Es.cons (IF (TC (CB S aM aN aA (AA (EL S M4)) (ar ht hz2)) ac bZ) Es.nil)
 (Es.cons (Ex.tuple S (Ev.item (EL S M4) ac GL) (by walk_at"lk") (.cons SL (.cons SL (.cons SL (.cons SL .nil)))))
 (Es.cons (IF (TT (ah (aw (TC (EL S M8) aa cy) (aw (TT (ah (av (TC (EL S M3) aa ae) (am (TC (Ev.item (EL S M7) ac (bE.str (by assumption) (by assumption) (by decide))) aa aT))))) bh)))) Es.nil)
 (Es.ret (IT (TT (aO (fC (EL S M1) (EL S M9) (dQ cC (by assumption))))) (Es.ret (Ex.ret (Ev.tup (ap.cons aa (ap.cons (ak (aj (k:=true) (TC (EL S M3) aa ae) aa) aa (bS (by assumption))) (ap.cons (EL S M5) (ap.cons (EL S sP) ap.nil)))) (bG rfl))))))))))
theorem Ai(h:H[j]?=some (i7 name tl row col))(ht:H[tl]?=some (.list [.obj k]))(hk:H[k]?=some (wB told sort value place))(hl:0<told.length)(hs:sort="int")(hn:name="ref.extern")(hg:zI told=false)(hm:most≠0)(hm2:Builtin.divisionGoesByPylong most 2=false)(r1:least≤value)(r2:¬ value<most):Co GG 6 (.top 471) [.obj j,.int least,.int most] H (.obj H.length) (H++[.tup [.str "bad",.str ("i32 "++"constant out of range"),.int row,.int place]]):=by
 have hz2:[V.obj k].length≤J5:=by rw[J9];simp
 have zi1:-(told.length:Int)≤0:=by lia
 have zi2:(0:Int)<told.length:=by lia
 have c1:(sort != (J0 "int"))=false:=by rw[hs];kernel_rfl
 have c2:(name==(J0 "ref.extern"))=true:=by rw[hn];kernel_rfl
 have zs:(J0 "i32 ").length+(J0 "constant out of range").length≤J5:=by decide +kernel
 have d1:decide (least≤value)=true:=decide_eq_true r1
 have d2:decide (value<most)=false:=decide_eq_false r2
 refine' aG (hb:=iN) (ns:=["branch","least","most"]) ?h
 case h=>
 intro S
 exact(Es.cons (Ex.tuple S (EL S M0) (by walk_at"lk") (.cons SL (.cons SL (.cons SL (.cons SL .nil)))))
 (Es.cons (IF (TC (CB S aM aN aA (AA (EL S M4)) (ar ht hz2)) ac bZ) Es.nil)
 (Es.cons (Ex.tuple S (Ev.item (EL S M4) ac GL) (by walk_at"lk") (.cons SL (.cons SL (.cons SL (.cons SL .nil)))))
 (Es.cons (IF (TT (ah (aw (TC (EL S M8) aa cy) (aw (TT (ah (av (TC (EL S M3) aa ae) (am (TC (Ev.item (EL S M7) ac (bE.str (by assumption) (by assumption) (by decide))) aa aT))))) bh)))) Es.nil)
 (Es.ret (IT (TT (aO (d0 (EL S M1) (EL S M9) (dQ cC (by assumption)) (aj (k:=false) (TC (Ev.item (EL S M7) ac (bE.str (by assumption) (by assumption) (by decide))) aa aT) (EL S M2)) bQ)) (Fy (by assumption))) (Es.ret (Ex.ret (Ev.tup (ap.cons aa (ap.cons (ak (aj (k:=true) (TC (EL S M3) aa ae) aa) aa (bS (by assumption))) (ap.cons (EL S M5) (ap.cons (EL S sP) ap.nil)))) (bG rfl))))))))))
end
theorem rN{H:List O}{m j:Nat}{b:LB}{least most:Int}(h:sA m H j b)(ok:b.ok)(hm:0<most)(hm2:Builtin.divisionGoesByPylong most 2=false):GO 6 (.top 471) [.obj j,.int least,.int most] H (bf b least most):=by
 obtain⟨tl,vs,_,a1,a2,a3⟩:=h
 have hlen:=a3.len
 have hz:vs.length≤1000:=by have:=ok.2.2;lia
 by_cases h1:vs.length=1
 ·obtain⟨v,rfl⟩:=List.length_eq_one_iff.mp h1
  obtain⟨t,e⟩:=List.length_eq_one_iff.mp (hlen▸h1)
  rw[e] at a3
  obtain⟨⟨k,e1,hk⟩,_⟩:=a3
  subst e1
  have ht:t.th∈ch:=ok.2.1 t (by rw[e];exact J6.mpr rfl)
  have o:=jb ht
  have hl:0<(aq t.th.told).length:=by rw[az];exact o.pos
  have hsg:zI (aq t.th.told)=lL t.th.told:=eq_of_beq (mV oE ht)
  have hm0:most≠0:=by lia
  have ed:most.fdiv 2=most / 2:=Int.fdiv_eq_ediv_of_nonneg _ (by decide)
  have em:t.th.value.fmod most=t.th.value % most:=Int.fmod_eq_emod_of_nonneg _ (by lia)
  unfold bf
  rw[e]
  dsimp only
  by_cases hs:t.th.sort="int"
  ·cases hg:lL t.th.told with
   | true=>
    by_cases hn:b.name="ref.extern"
    ·rw[if_pos (.inr ⟨hn,rfl⟩)]
     exact a8.of (Ce a1 a2 hk hl hs hn (by rw[hsg,hg])) Kp.refl
    rw[if_neg (by rintro(q | ⟨q,_⟩);exact q hs;exact hn q),if_pos rfl,← ed]
    by_cases r1:least≤t.th.value
    ·by_cases r2:t.th.value<most.fdiv 2
     ·rw[if_pos ⟨r1,r2⟩]
      exact⟨_,em▸Aa a1 a2 hk hl hs hn (by rw[hsg,hg]) hm0 hm2 r1 r2,Kp.refl⟩
     rw[if_neg (fun q=>r2 q.2),if_neg hn]
     exact a8.of (Ag a1 a2 hk hl hs hn (by rw[hsg,hg]) hm0 hm2 r1 r2) Kp.refl
    rw[if_neg (fun q=>r1 q.1),if_neg hn]
    exact a8.of (Ad a1 a2 hk hl hs hn (by rw[hsg,hg]) hm0 hm2 r1) Kp.refl
   | false=>
   rw[if_neg (by rintro(q | ⟨_,q⟩);exact q hs;cases q),show(if false=true then most / 2 else most)=most from if_neg (by decide)]
   by_cases hn:b.name="ref.extern"
   ·rw[if_pos hn]
    by_cases r1:least≤t.th.value
    ·by_cases r2:t.th.value<most
     ·rw[if_pos ⟨r1,r2⟩]
      exact⟨_,em▸Ac a1 a2 hk hl hs hn (by rw[hsg,hg]) hm0 hm2 r1 r2,Kp.refl⟩
     rw[if_neg (fun q=>r2 q.2)]
     exact a8.of (Ai a1 a2 hk hl hs hn (by rw[hsg,hg]) hm0 hm2 r1 r2) Kp.refl
    rw[if_neg (fun q=>r1 q.1)]
    exact a8.of (Af a1 a2 hk hl hs hn (by rw[hsg,hg]) hm0 hm2 r1) Kp.refl
   rw[if_neg hn]
   by_cases r1:least≤t.th.value
   ·by_cases r2:t.th.value<most
    ·rw[if_pos ⟨r1,r2⟩]
     exact⟨_,em▸Ab a1 a2 hk hl hs hn (by rw[hsg,hg]) hm0 hm2 r1 r2,Kp.refl⟩
    rw[if_neg (fun q=>r2 q.2)]
    exact a8.of (Ah a1 a2 hk hl hs hn (by rw[hsg,hg]) hm0 hm2 r1 r2) Kp.refl
   rw[if_neg (fun q=>r1 q.1)]
   exact a8.of (Ae a1 a2 hk hl hs hn (by rw[hsg,hg]) hm0 hm2 r1) Kp.refl
  rw[if_pos (.inl hs)]
  exact a8.of (Cd a1 a2 hk hl hs) Kp.refl
 rw[ja (fun t e=>h1 (by rw[hlen,e];rfl))]
 exact a8.of (D4 a1 a2 hz h1) Kp.refl
section
variable {H H':List O}{j tl k i:Nat}{name told sort:Str}{row col place value x:Int}{vs xs:List V}
theorem D8(h:H[j]?=some (i7 name tl row col))(hn:name="i32.const")(h1:Co GG 6 (.top 471) [.obj j,.int ((-((2:Int) ^ (32:Int).toNat)).fdiv 2),.int ((2:Int) ^ (32:Int).toNat)] H (.int x) H'):Co GG 8 (.top 478) [.obj j] H (.obj H'.length) (H'++[.tup [.int (-1),.int x]]):=by
 have c0:(name==(J0 "i32.const"))=true:=by rw[hn];kernel_rfl
 have c1:(name==(J0 "i64.const"))=false:=by rw[hn];kernel_rfl
 have dv:Builtin.divisionGoesByPylong (-((2:Int) ^ (32:Int).toNat)) 2=false:=by decide +kernel
 refine' aG (hb:=cI) (ns:=["branch"]) ?h
 case h=>
 intro S
 exact(Es.cons (Ex.tuple S (EL S M0) (by walk_at"lk") (.cons SL (.cons SL (.cons SL (.cons SL .nil)))))
 (Es.ret (IT (TT (ah (cJ (TC (EL S M1) aa ae)))) (Es.cons (NM S (ak ac (aj (k:=true) (TC (EL S M1) aa ae) ac) (bM (by lia) (by lia) (by lia))))
 (Es.cons (NM S (CG S dp qN (AC (EL S M0) (ak (aK (EL S M5)) ac (iQ (by lia) (by assumption))) (EL S M5)) (h1.cl)))
 (Es.ret (Ex.ret (aj (k:=false) (TT (Te.val (CB S aU aV aJ (AB (EL S M6) (ET S iM iR gx)) (gR)) Tv.bool)) (Ev.tup (AB (aj (k:=true) (TC (EL S M1) aa ae) (aK ac)) (EL S M6)) (bG rfl))))))))))
theorem Cu(h:H[j]?=some (i7 name tl row col))(hn:name="i32.const")(h1:Co GG 6 (.top 471) [.obj j,.int ((-((2:Int) ^ (32:Int).toNat)).fdiv 2),.int ((2:Int) ^ (32:Int).toNat)] H (.obj i) H')(ht:H'[i]?=some (.tup xs)):Co GG 8 (.top 478) [.obj j] H (.obj i) H':=by
 have c0:(name==(J0 "i32.const"))=true:=by rw[hn];kernel_rfl
 have c1:(name==(J0 "i64.const"))=false:=by rw[hn];kernel_rfl
 have dv:Builtin.divisionGoesByPylong (-((2:Int) ^ (32:Int).toNat)) 2=false:=by decide +kernel
 refine' aG (hb:=cI) (ns:=["branch"]) ?h
 case h=>
 intro S
 exact(Es.cons (Ex.tuple S (EL S M0) (by walk_at"lk") (.cons SL (.cons SL (.cons SL (.cons SL .nil)))))
 (Es.ret (IT (TT (ah (cJ (TC (EL S M1) aa ae)))) (Es.cons (NM S (ak ac (aj (k:=true) (TC (EL S M1) aa ae) ac) (bM (by lia) (by lia) (by lia))))
 (Es.cons (NM S (CG S dp qN (AC (EL S M0) (ak (aK (EL S M5)) ac (iQ (by lia) (by assumption))) (EL S M5)) (h1.cl)))
 (Es.ret (Ex.ret (aj (k:=true) (TT (Te.val (CB S aU aV aJ (AB (EL S M6) (ET S iM iR gx)) (gQ ht)) Tv.bool)) (EL S M6)))))))))
theorem D7(h:H[j]?=some (i7 name tl row col))(hn:name="i64.const")(h1:Co GG 6 (.top 471) [.obj j,.int ((-((2:Int) ^ (64:Int).toNat)).fdiv 2),.int ((2:Int) ^ (64:Int).toNat)] H (.int x) H'):Co GG 8 (.top 478) [.obj j] H (.obj H'.length) (H'++[.tup [.int (-2),.int x]]):=by
 have c0:(name==(J0 "i32.const"))=false:=by rw[hn];kernel_rfl
 have c1:(name==(J0 "i64.const"))=true:=by rw[hn];kernel_rfl
 have dv:Builtin.divisionGoesByPylong (-((2:Int) ^ (64:Int).toNat)) 2=false:=by decide +kernel
 refine' aG (hb:=cI) (ns:=["branch"]) ?h
 case h=>
 intro S
 exact(Es.cons (Ex.tuple S (EL S M0) (by walk_at"lk") (.cons SL (.cons SL (.cons SL (.cons SL .nil)))))
 (Es.ret (IT (TT (ah (aw (TC (EL S M1) aa ae) (cJ (TC (EL S M1) aa ae))))) (Es.cons (NM S (ak ac (aj (k:=false) (TC (EL S M1) aa ae) ac) (bM (by lia) (by lia) (by lia))))
 (Es.cons (NM S (CG S dp qN (AC (EL S M0) (ak (aK (EL S M5)) ac (iQ (by lia) (by assumption))) (EL S M5)) (h1.cl)))
 (Es.ret (Ex.ret (aj (k:=false) (TT (Te.val (CB S aU aV aJ (AB (EL S M6) (ET S iM iR gx)) (gR)) Tv.bool)) (Ev.tup (AB (aj (k:=false) (TC (EL S M1) aa ae) (aK ac)) (EL S M6)) (bG rfl))))))))))
theorem Ct(h:H[j]?=some (i7 name tl row col))(hn:name="i64.const")(h1:Co GG 6 (.top 471) [.obj j,.int ((-((2:Int) ^ (64:Int).toNat)).fdiv 2),.int ((2:Int) ^ (64:Int).toNat)] H (.obj i) H')(ht:H'[i]?=some (.tup xs)):Co GG 8 (.top 478) [.obj j] H (.obj i) H':=by
 have c0:(name==(J0 "i32.const"))=false:=by rw[hn];kernel_rfl
 have c1:(name==(J0 "i64.const"))=true:=by rw[hn];kernel_rfl
 have dv:Builtin.divisionGoesByPylong (-((2:Int) ^ (64:Int).toNat)) 2=false:=by decide +kernel
 refine' aG (hb:=cI) (ns:=["branch"]) ?h
 case h=>
 intro S
 exact(Es.cons (Ex.tuple S (EL S M0) (by walk_at"lk") (.cons SL (.cons SL (.cons SL (.cons SL .nil)))))
 (Es.ret (IT (TT (ah (aw (TC (EL S M1) aa ae) (cJ (TC (EL S M1) aa ae))))) (Es.cons (NM S (ak ac (aj (k:=false) (TC (EL S M1) aa ae) ac) (bM (by lia) (by lia) (by lia))))
 (Es.cons (NM S (CG S dp qN (AC (EL S M0) (ak (aK (EL S M5)) ac (iQ (by lia) (by assumption))) (EL S M5)) (h1.cl)))
 (Es.ret (Ex.ret (aj (k:=true) (TT (Te.val (CB S aU aV aJ (AB (EL S M6) (ET S iM iR gx)) (gQ ht)) Tv.bool)) (EL S M6)))))))))
theorem Al(h:H[j]?=some (i7 name tl row col))(hn:name="ref.null")(ht:H[tl]?=some (.list vs))(hz:vs.length≤1000)(hne:vs.length≠1):Co GG 8 (.top 478) [.obj j] H (.obj H.length) (H++[.tup [.str "bad",.str "another number of parts is wanted",.int row,.int col]]):=by
 have c0:(name==(J0 "i32.const"))=false:=by rw[hn];kernel_rfl
 have c1:(name==(J0 "i64.const"))=false:=by rw[hn];kernel_rfl
 have c2:(name==(J0 "ref.null"))=true:=by rw[hn];kernel_rfl
 have hz2:vs.length≤J5:=by rw[J9];lia
 have c5:((vs.length:Int) != 1)=true:=by rw[bne_iff_ne];lia
 refine' aG (hb:=cI) (ns:=["branch"]) ?h
 case h=>
 intro S
 exact(Es.cons (Ex.tuple S (EL S M0) (by walk_at"lk") (.cons SL (.cons SL (.cons SL (.cons SL .nil)))))
 (Es.cons (IF (TT (ah (aw (TC (EL S M1) aa ae) (aw (TC (EL S M1) aa ae) bh)))) Es.nil)
 (Es.ret (IT (TC (EL S M1) aa ae) (Es.ret (IT (TC (CB S aM aN aA (AA (EL S M2)) (ar ht hz2)) ac bZ) (Es.ret (Ex.ret (Ev.tup (ap.cons aa (ap.cons aa (ap.cons (EL S M3) (ap.cons (EL S M4) ap.nil)))) (bG rfl))))))))))
theorem Am(h:H[j]?=some (i7 name tl row col))(hn:name="ref.null")(ht:H[tl]?=some (.list [.obj k]))(hk:H[k]?=some (wB told sort value place))(h1:told≠"func")(h2:told≠"extern"):Co GG 8 (.top 478) [.obj j] H (.obj (H++[O.tup [.str "func",.str "extern"]]).length) (H++[.tup [.str "func",.str "extern"]]++[.tup [.str "bad",.str "a heap type is wanted",.int row,.int place]]):=by
 have c0:(name==(J0 "i32.const"))=false:=by rw[hn];kernel_rfl
 have c1:(name==(J0 "i64.const"))=false:=by rw[hn];kernel_rfl
 have c2:(name==(J0 "ref.null"))=true:=by rw[hn];kernel_rfl
 have hz2:[V.obj k].length≤J5:=by rw[J9];simp
 have c6:(![J0 "func",J0 "extern"].any fun y=>y==told)=true:=by
  have e1:(J0 "func" == told)=false:=by simpa using Ne.symm h1
  have e2:(J0 "extern" == told)=false:=by simpa using Ne.symm h2
  simp only[List.any_cons,List.any_nil,Bool.or_false,e1,e2];rfl
 refine' aG (hb:=cI) (ns:=["branch"]) ?h
 case h=>
 intro S
 exact(Es.cons (Ex.tuple S (EL S M0) (by walk_at"lk") (.cons SL (.cons SL (.cons SL (.cons SL .nil)))))
 (Es.cons (IF (TT (ah (aw (TC (EL S M1) aa ae) (aw (TC (EL S M1) aa ae) bh)))) Es.nil)
 (Es.ret (IT (TC (EL S M1) aa ae) (Es.cons (IF (TC (CB S aM aN aA (AA (EL S M2)) (ar ht hz2)) ac bZ) Es.nil)
 (Es.ret (IT (TC (Ev.item (Ev.item (EL S M2) ac GL) ac GT) (Ev.tup (AB aa aa) (bG rfl)) (gO (by walk_at"lk"))) (Es.ret (Ex.ret (Ev.tup (ap.cons aa (ap.cons aa (ap.cons (EL S M3) (ap.cons (Ev.item (Ev.item (EL S M2) ac GL) ac GT) ap.nil)))) (bG rfl)))))))))))
theorem rR(h:H[j]?=some (i7 name tl row col))(hn:name="ref.null")(ht:H[tl]?=some (.list [.obj k]))(hk:H[k]?=some (wB told sort value place))(h1:told="func"):Co GG 8 (.top 478) [.obj j] H (.obj (H++[O.tup [.str "func",.str "extern"]]).length) (H++[.tup [.str "func",.str "extern"]]++[.tup [.int (-16),.none]]):=by
 have c0:(name==(J0 "i32.const"))=false:=by rw[hn];kernel_rfl
 have c1:(name==(J0 "i64.const"))=false:=by rw[hn];kernel_rfl
 have c2:(name==(J0 "ref.null"))=true:=by rw[hn];kernel_rfl
 have hz2:[V.obj k].length≤J5:=by rw[J9];simp
 have c6:(![J0 "func",J0 "extern"].any fun y=>y==told)=false:=by rw[h1];kernel_rfl
 have c7:(told==(J0 "func"))=true:=by rw[h1];kernel_rfl
 refine' aG (hb:=cI) (ns:=["branch"]) ?h
 case h=>
 intro S
 exact(Es.cons (Ex.tuple S (EL S M0) (by walk_at"lk") (.cons SL (.cons SL (.cons SL (.cons SL .nil)))))
 (Es.cons (IF (TT (ah (aw (TC (EL S M1) aa ae) (aw (TC (EL S M1) aa ae) bh)))) Es.nil)
 (Es.ret (IT (TC (EL S M1) aa ae) (Es.cons (IF (TC (CB S aM aN aA (AA (EL S M2)) (ar ht hz2)) ac bZ) Es.nil)
 (Es.cons (IF (TC (Ev.item (Ev.item (EL S M2) ac GL) ac GT) (Ev.tup (AB aa aa) (bG rfl)) (gO (by walk_at"lk"))) Es.nil)
 (Es.ret (Ex.ret (Ev.tup (AB (aj (k:=true) (TC (Ev.item (Ev.item (EL S M2) ac GL) ac GT) aa ae) (aK ac)) ai) (bG rfl))))))))))
theorem oa(h:H[j]?=some (i7 name tl row col))(hn:name="ref.null")(ht:H[tl]?=some (.list [.obj k]))(hk:H[k]?=some (wB told sort value place))(h1:told="extern"):Co GG 8 (.top 478) [.obj j] H (.obj (H++[O.tup [.str "func",.str "extern"]]).length) (H++[.tup [.str "func",.str "extern"]]++[.tup [.int (-17),.none]]):=by
 have c0:(name==(J0 "i32.const"))=false:=by rw[hn];kernel_rfl
 have c1:(name==(J0 "i64.const"))=false:=by rw[hn];kernel_rfl
 have c2:(name==(J0 "ref.null"))=true:=by rw[hn];kernel_rfl
 have hz2:[V.obj k].length≤J5:=by rw[J9];simp
 have c6:(![J0 "func",J0 "extern"].any fun y=>y==told)=false:=by rw[h1];kernel_rfl
 have c7:(told==(J0 "func"))=false:=by rw[h1];kernel_rfl
 refine' aG (hb:=cI) (ns:=["branch"]) ?h
 case h=>
 intro S
 exact(Es.cons (Ex.tuple S (EL S M0) (by walk_at"lk") (.cons SL (.cons SL (.cons SL (.cons SL .nil)))))
 (Es.cons (IF (TT (ah (aw (TC (EL S M1) aa ae) (aw (TC (EL S M1) aa ae) bh)))) Es.nil)
 (Es.ret (IT (TC (EL S M1) aa ae) (Es.cons (IF (TC (CB S aM aN aA (AA (EL S M2)) (ar ht hz2)) ac bZ) Es.nil)
 (Es.cons (IF (TC (Ev.item (Ev.item (EL S M2) ac GL) ac GT) (Ev.tup (AB aa aa) (bG rfl)) (gO (by walk_at"lk"))) Es.nil)
 (Es.ret (Ex.ret (Ev.tup (AB (aj (k:=false) (TC (Ev.item (Ev.item (EL S M2) ac GL) ac GT) aa ae) (aK ac)) ai) (bG rfl))))))))))
theorem D9(h:H[j]?=some (i7 name tl row col))(hn:name="ref.extern")(h1:Co GG 6 (.top 471) [.obj j,.int 0,.int ((2:Int) ^ (32:Int).toNat)] H (.int x) H'):Co GG 8 (.top 478) [.obj j] H (.obj H'.length) (H'++[.tup [.int (-17),.int x]]):=by
 have c0:(name==(J0 "i32.const"))=false:=by rw[hn];kernel_rfl
 have c1:(name==(J0 "i64.const"))=false:=by rw[hn];kernel_rfl
 have c2:(name==(J0 "ref.null"))=false:=by rw[hn];kernel_rfl
 have c3:(name==(J0 "ref.extern"))=true:=by rw[hn];kernel_rfl
 refine' aG (hb:=cI) (ns:=["branch"]) ?h
 case h=>
 intro S
 exact(Es.cons (Ex.tuple S (EL S M0) (by walk_at"lk") (.cons SL (.cons SL (.cons SL (.cons SL .nil)))))
 (Es.cons (IF (TT (ah (aw (TC (EL S M1) aa ae) (aw (TC (EL S M1) aa ae) bh)))) Es.nil)
 (Es.cons (IF (TC (EL S M1) aa ae) Es.nil)
 (Es.ret (IT (TC (EL S M1) aa ae) (Es.cons (NM S (CG S dp qN (AC (EL S M0) ac (ak ac ac (bM (by lia) (by lia) (by lia)))) (h1.cl)))
 (Es.ret (Ex.ret (aj (k:=false) (TT (Te.val (CB S aU aV aJ (AB (EL S M5) (ET S iM iR gx)) (gR)) Tv.bool)) (Ev.tup (AB (aK ac) (EL S M5)) (bG rfl)))))))))))
theorem Cv(h:H[j]?=some (i7 name tl row col))(hn:name="ref.extern")(h1:Co GG 6 (.top 471) [.obj j,.int 0,.int ((2:Int) ^ (32:Int).toNat)] H (.obj i) H')(ht:H'[i]?=some (.tup xs)):Co GG 8 (.top 478) [.obj j] H (.obj i) H':=by
 have c0:(name==(J0 "i32.const"))=false:=by rw[hn];kernel_rfl
 have c1:(name==(J0 "i64.const"))=false:=by rw[hn];kernel_rfl
 have c2:(name==(J0 "ref.null"))=false:=by rw[hn];kernel_rfl
 have c3:(name==(J0 "ref.extern"))=true:=by rw[hn];kernel_rfl
 refine' aG (hb:=cI) (ns:=["branch"]) ?h
 case h=>
 intro S
 exact(Es.cons (Ex.tuple S (EL S M0) (by walk_at"lk") (.cons SL (.cons SL (.cons SL (.cons SL .nil)))))
 (Es.cons (IF (TT (ah (aw (TC (EL S M1) aa ae) (aw (TC (EL S M1) aa ae) bh)))) Es.nil)
 (Es.cons (IF (TC (EL S M1) aa ae) Es.nil)
 (Es.ret (IT (TC (EL S M1) aa ae) (Es.cons (NM S (CG S dp qN (AC (EL S M0) ac (ak ac ac (bM (by lia) (by lia) (by lia)))) (h1.cl)))
 (Es.ret (Ex.ret (aj (k:=true) (TT (Te.val (CB S aU aV aJ (AB (EL S M5) (ET S iM iR gx)) (gQ ht)) Tv.bool)) (EL S M5))))))))))
theorem Cs(h:H[j]?=some (i7 name tl row col))(hn:name="f32.const"∨name="f64.const"∨name="v128.const"):Co GG 8 (.top 478) [.obj j] H (.obj (H++[O.tup [.str "f32.const",.str "f64.const",.str "v128.const"]]).length) (H++[.tup [.str "f32.const",.str "f64.const",.str "v128.const"]]++[.tup [.str "left",.str name,.int row]]):=by
 have cc:(name==(J0 "i32.const"))=false∧(name==(J0 "i64.const"))=false∧(name==(J0 "ref.null"))=false∧(name==(J0 "ref.extern"))=false∧([J0 "f32.const",J0 "f64.const",J0 "v128.const"].any fun y=>y==name)=true:=by
  rcases hn with hn | hn | hn <;> (rw[hn];exact⟨by kernel_rfl,by kernel_rfl,by kernel_rfl,by kernel_rfl,by kernel_rfl⟩)
 obtain⟨c0,c1,c2,c3,c4⟩:=cc
 refine' aG (hb:=cI) (ns:=["branch"]) ?h
 case h=>
 intro S
 exact(Es.cons (Ex.tuple S (EL S M0) (by walk_at"lk") (.cons SL (.cons SL (.cons SL (.cons SL .nil)))))
 (Es.cons (IF (TT (ah (aw (TC (EL S M1) aa ae) (aw (TC (EL S M1) aa ae) bh)))) Es.nil)
 (Es.cons (IF (TC (EL S M1) aa ae) Es.nil)
 (Es.cons (IF (TC (EL S M1) aa ae) Es.nil)
 (Es.ret (IT (TC (EL S M1) (Ev.tup (AC aa aa aa) (bG rfl)) (qS (by walk_at"lk"))) (Es.ret (Ex.ret (Ev.tup (AC aa (EL S M1) (EL S M3)) (bG rfl))))))))))
theorem Cr(h:H[j]?=some (i7 name tl row col))(hn:name="ref.func"∨name="i32.add"∨name=""):Co GG 8 (.top 478) [.obj j] H (.obj (H++[O.tup [.str "f32.const",.str "f64.const",.str "v128.const"]]).length) (H++[.tup [.str "f32.const",.str "f64.const",.str "v128.const"]]++[.tup [.str "bad",.str "a constant is wanted",.int row,.int col]]):=by
 have cc:(name==(J0 "i32.const"))=false∧(name==(J0 "i64.const"))=false∧(name==(J0 "ref.null"))=false∧(name==(J0 "ref.extern"))=false∧([J0 "f32.const",J0 "f64.const",J0 "v128.const"].any fun y=>y==name)=false:=by
  rcases hn with hn | hn | hn <;> (rw[hn];exact⟨by kernel_rfl,by kernel_rfl,by kernel_rfl,by kernel_rfl,by kernel_rfl⟩)
 obtain⟨c0,c1,c2,c3,c4⟩:=cc
 refine' aG (hb:=cI) (ns:=["branch"]) ?h
 case h=>
 intro S
 exact(Es.cons (Ex.tuple S (EL S M0) (by walk_at"lk") (.cons SL (.cons SL (.cons SL (.cons SL .nil)))))
 (Es.cons (IF (TT (ah (aw (TC (EL S M1) aa ae) (aw (TC (EL S M1) aa ae) bh)))) Es.nil)
 (Es.cons (IF (TC (EL S M1) aa ae) Es.nil)
 (Es.cons (IF (TC (EL S M1) aa ae) Es.nil)
 (Es.cons (IF (TC (EL S M1) (Ev.tup (AC aa aa aa) (bG rfl)) (qS (by walk_at"lk"))) Es.nil)
 (Es.ret (Ex.ret (Ev.tup (ap.cons aa (ap.cons aa (ap.cons (EL S M3) (ap.cons (EL S M4) ap.nil)))) (bG rfl)))))))))
end
theorem iy{dd dd':Nat}{f f':V}{args args':List V}{H:List O}{vs:List V}(h:a8 dd f args H vs)(g:∀ i H',Co GG dd f args H (.obj i) H'→H'[i]?=some (.tup vs)→Co GG dd' f' args' H (.obj i) H'):a8 dd' f' args' H vs:=by
 obtain⟨i,H',h1,k,p⟩:=h
 exact⟨i,H',g i H' h1 p,k,p⟩
set_option tactic.hygienic true in
theorem qn{H:List O}{m j:Nat}{b:LB}(h:sA m H j b)(ok:b.ok):a8 8 (.top 478) [.obj j] H (di b).vs:=by
 have hc:=h
 obtain⟨tl,vs,_,a1,a2,a3⟩:=hc
 have hlen:=a3.len
 have hz:vs.length≤1000:=by have:=ok.2.2;lia
 rcases tI ok with hn | hn | hn | hn | hn | hn
 ·have e:di b=(bf b (-2 ^ 31) (2 ^ 32)).res (-1):=if_pos hn
  rw[e]
  have hs:=rN (least:=(-((2:Int) ^ (32:Int).toNat)).fdiv 2) (most:=(2:Int) ^ (32:Int).toNat) h ok (by decide) (by decide +kernel)
  rw[show bf b ((-((2:Int) ^ (32:Int).toNat)).fdiv 2) ((2:Int) ^ (32:Int).toNat)=bf b (-2 ^ 31) (2 ^ 32) from by congr 1 <;> decide] at hs
  cases hw:bf b (-2 ^ 31) (2 ^ 32) with
  | bad w r c=>rw[hw] at hs;exact iy hs fun i H' q p=>Cu a1 hn q p
  | num x=>rw[hw] at hs;obtain⟨H',h1,k⟩:=hs;exact a8.of (D8 a1 hn h1) k
 ·have e:di b=(bf b (-2 ^ 63) (2 ^ 64)).res (-2):=(if_neg (by rw[hn];decide)).trans (if_pos hn)
  rw[e]
  have hs:=rN (least:=(-((2:Int) ^ (64:Int).toNat)).fdiv 2) (most:=(2:Int) ^ (64:Int).toNat) h ok (by decide) (by decide +kernel)
  rw[show bf b ((-((2:Int) ^ (64:Int).toNat)).fdiv 2) ((2:Int) ^ (64:Int).toNat)=bf b (-2 ^ 63) (2 ^ 64) from by congr 1 <;> decide] at hs
  cases hw:bf b (-2 ^ 63) (2 ^ 64) with
  | bad w r c=>rw[hw] at hs;exact iy hs fun i H' q p=>Ct a1 hn q p
  | num x=>rw[hw] at hs;obtain⟨H',h1,k⟩:=hs;exact a8.of (D7 a1 hn h1) k
 ·have e:di b=fA b:=(if_neg (by rw[hn];decide)).trans ((if_neg (by rw[hn];decide)).trans (if_pos hn))
  rw[e]
  by_cases h1:vs.length=1
  ·obtain⟨v,rfl⟩:=List.length_eq_one_iff.mp h1
   obtain⟨t,e2⟩:=List.length_eq_one_iff.mp (hlen▸h1)
   rw[e2] at a3
   obtain⟨⟨k,e1,hk⟩,_⟩:=a3
   subst e1
   unfold fA
   rw[e2]
   dsimp only
   by_cases q1:t.th.told=cps "func"
   ·rw[if_pos q1]
    exact a8.of (rR a1 hn a2 hk (by rw[q1];exact dR _)) Kp.app
   rw[if_neg q1]
   by_cases q2:t.th.told=cps "extern"
   ·rw[if_pos q2]
    exact a8.of (oa a1 hn a2 hk (by rw[q2];exact dR _)) Kp.app
   rw[if_neg q2]
   refine a8.of (Am a1 hn a2 hk ?_ ?_) Kp.app
   ·rw[←dR];exact fun x=>q1 (eQ.mp x)
   rw[←dR];exact fun x=>q2 (eQ.mp x)
  have hr:fA b=.bad "another number of parts is wanted" b.row b.col:=by
   unfold fA
   split
   ·next t q=>exact absurd (by rw[hlen,q];rfl) h1
   rfl
  rw[hr]
  exact a8.of (Al a1 hn a2 hz h1) Kp.refl
 ·have e:di b=(bf b 0 (2 ^ 32)).res (-17):=(if_neg (by rw[hn];decide)).trans ((if_neg (by rw[hn];decide)).trans ((if_neg (by rw[hn];decide)).trans (if_pos hn)))
  rw[e]
  have hs:=rN (least:=0) (most:=(2:Int) ^ (32:Int).toNat) h ok (by decide) (by decide +kernel)
  rw[show bf b 0 ((2:Int) ^ (32:Int).toNat)=bf b 0 (2 ^ 32) from by congr 1] at hs
  cases hw:bf b 0 (2 ^ 32) with
  | bad w r c=>rw[hw] at hs;exact iy hs fun i H' q p=>Cv a1 hn q p
  | num x=>rw[hw] at hs;obtain⟨H',h1,k⟩:=hs;exact a8.of (D9 a1 hn h1) k
 ·have e:di b=.left b.name b.row:=by
   unfold di
   rw[if_neg,if_neg,if_neg,if_neg,if_pos hn]
   all_goals (rcases hn with hn | hn | hn <;> (rw[hn];decide))
  rw[e]
  exact a8.of (Cs a1 hn) Kp.app
 have e:di b=.bad "a constant is wanted" b.row b.col:=by
  unfold di
  rw[if_neg,if_neg,if_neg,if_neg,if_neg]
  all_goals (rcases hn with hn | hn | hn <;> (rw[hn];decide))
 rw[e]
 exact a8.of (Cr a1 hn) Kp.app
section
variable {H H':List O}{j tl k i:Nat}{name told sort:Str}{row col place value x:Int}{vs xs:List V}{kv vv:V}
theorem z7(h:H[j]?=some (i7 name tl row col))(hn:name="ref.null")(ht:H[tl]?=some (.list [])):Co GG 10 (.top 485) [.obj j] H (.obj (H++[O.list []]).length) ((H++[O.list []])++[.tup [.none,.none,.bool false]]):=by
 have c0:(name==(J0 "ref.null"))=true:=by rw[hn];kernel_rfl
 have c1:(name==(J0 "ref.extern"))=false:=by rw[hn];kernel_rfl
 have c2:(name==(J0 "ref.func"))=false:=by rw[hn];kernel_rfl
 refine' aG (hb:=cI) (ns:=["branch"]) ?h
 case h=>
 intro S
 exact(Es.cons (Ex.tuple S (EL S M0) (by walk_at"lk") (.cons SL (.cons SL (.cons SL (.cons SL .nil)))))
 (Es.ret (IT (TT (ah (av (TC (EL S M2) (Ev.list ap.nil (bG rfl)) (dD (by walk_at"lk") (by walk_at"lk"))) (av (TC (EL S M1) aa ae) cD)))) (Es.ret (Ex.ret (Ev.tup (AC ai ai bn) (bG rfl)))))))
theorem Cc(h:H[j]?=some (i7 name tl row col))(hn:name="ref.extern")(ht:H[tl]?=some (.list [])):Co GG 10 (.top 485) [.obj j] H (.obj (H++[O.list []]++[O.list []]).length) ((H++[O.list []]++[O.list []])++[.tup [.int (-17),.none,.bool true]]):=by
 have c0:(name==(J0 "ref.null"))=false:=by rw[hn];kernel_rfl
 have c1:(name==(J0 "ref.extern"))=true:=by rw[hn];kernel_rfl
 have c2:(name==(J0 "ref.func"))=false:=by rw[hn];kernel_rfl
 refine' aG (hb:=cI) (ns:=["branch"]) ?h
 case h=>
 intro S
 exact(Es.cons (Ex.tuple S (EL S M0) (by walk_at"lk") (.cons SL (.cons SL (.cons SL (.cons SL .nil)))))
 (Es.cons (IF (TT (ah (av (TC (EL S M2) (Ev.list ap.nil (bG rfl)) (dD (by walk_at"lk") (by walk_at"lk"))) (am (TC (EL S M1) aa ae))))) Es.nil)
 (Es.ret (IT (TT (ah (av (TC (EL S M2) (Ev.list ap.nil (bG rfl)) (dD (by walk_at"lk") (by walk_at"lk"))) (av (TC (EL S M1) aa ae) cD)))) (Es.ret (Ex.ret (Ev.tup (AC (aK ac) ai bn) (bG rfl))))))))
theorem z8(h:H[j]?=some (i7 name tl row col))(hn:name="ref.func")(ht:H[tl]?=some (.list [])):Co GG 10 (.top 485) [.obj j] H (.obj (H++[O.list []]++[O.list []]++[O.list []]).length) ((H++[O.list []]++[O.list []]++[O.list []])++[.tup [.int (-16),.none,.bool true]]):=by
 have c0:(name==(J0 "ref.null"))=false:=by rw[hn];kernel_rfl
 have c1:(name==(J0 "ref.extern"))=false:=by rw[hn];kernel_rfl
 have c2:(name==(J0 "ref.func"))=true:=by rw[hn];kernel_rfl
 refine' aG (hb:=cI) (ns:=["branch"]) ?h
 case h=>
 intro S
 exact(Es.cons (Ex.tuple S (EL S M0) (by walk_at"lk") (.cons SL (.cons SL (.cons SL (.cons SL .nil)))))
 (Es.cons (IF (TT (ah (av (TC (EL S M2) (Ev.list ap.nil (bG rfl)) (dD (by walk_at"lk") (by walk_at"lk"))) (am (TC (EL S M1) aa ae))))) Es.nil)
 (Es.cons (IF (TT (ah (av (TC (EL S M2) (Ev.list ap.nil (bG rfl)) (dD (by walk_at"lk") (by walk_at"lk"))) (am (TC (EL S M1) aa ae))))) Es.nil)
 (Es.ret (IT (TC (EL S M1) aa ae) (Es.ret (Ex.ret (aj (k:=true) (TC (EL S M2) (Ev.list ap.nil (bG rfl)) (dD (by walk_at"lk") (by walk_at"lk"))) (Ev.tup (AC (aK ac) ai bn) (bG rfl))))))))))
theorem xW(h:H[j]?=some (i7 name tl row col))(hn:name="ref.func")(ht:H[tl]?=some (.list vs))(hv:vs.length≠([]:List V).length):Co GG 10 (.top 485) [.obj j] H (.obj (H++[O.list []]++[O.list []]++[O.list []]).length) ((H++[O.list []]++[O.list []]++[O.list []])++[.tup [.str "bad",.str "another number of parts is wanted",.int row,.int col]]):=by
 have c0:(name==(J0 "ref.null"))=false:=by rw[hn];kernel_rfl
 have c1:(name==(J0 "ref.extern"))=false:=by rw[hn];kernel_rfl
 have c2:(name==(J0 "ref.func"))=true:=by rw[hn];kernel_rfl
 refine' aG (hb:=cI) (ns:=["branch"]) ?h
 case h=>
 intro S
 exact(Es.cons (Ex.tuple S (EL S M0) (by walk_at"lk") (.cons SL (.cons SL (.cons SL (.cons SL .nil)))))
 (Es.cons (IF (TT (ah (am (TC (EL S M2) (Ev.list ap.nil (bG rfl)) (fK (by walk_at"lk") (by walk_at"lk") (by assumption)))))) Es.nil)
 (Es.cons (IF (TT (ah (am (TC (EL S M2) (Ev.list ap.nil (bG rfl)) (fK (by walk_at"lk") (by walk_at"lk") (by assumption)))))) Es.nil)
 (Es.ret (IT (TC (EL S M1) aa ae) (Es.ret (Ex.ret (aj (k:=false) (TC (EL S M2) (Ev.list ap.nil (bG rfl)) (fK (by walk_at"lk") (by walk_at"lk") (by assumption))) (Ev.tup (ap.cons aa (ap.cons aa (ap.cons (EL S M3) (ap.cons (EL S M4) ap.nil)))) (bG rfl))))))))))
theorem D3(h:H[j]?=some (i7 name tl row col))(hn:name≠"ref.null"∧name≠"ref.extern"∧name≠"ref.func")(ht:H[tl]?=some (.list []))(h1:Co GG 8 (.top 478) [.obj j] (H++[O.list []]++[O.list []]) (.obj i) H')(hf:H'[i]?=some (.tup [kv,vv])):Co GG 10 (.top 485) [.obj j] H (.obj (H'++[O.tup [.bool false]]).length) (H'++[.tup [.bool false]]++[.tup ([kv,vv]++[.bool false])]):=by
 have c0:(name==(J0 "ref.null"))=false:=by simpa using hn.1
 have c1:(name==(J0 "ref.extern"))=false:=by simpa using hn.2.1
 have c2:(name==(J0 "ref.func"))=false:=by simpa using hn.2.2
 refine' aG (hb:=cI) (ns:=["branch"]) ?h
 case h=>
 intro S
 exact(Es.cons (Ex.tuple S (EL S M0) (by walk_at"lk") (.cons SL (.cons SL (.cons SL (.cons SL .nil)))))
 (Es.cons (IF (TT (ah (av (TC (EL S M2) (Ev.list ap.nil (bG rfl)) (dD (by walk_at"lk") (by walk_at"lk"))) (am (TC (EL S M1) aa ae))))) Es.nil)
 (Es.cons (IF (TT (ah (av (TC (EL S M2) (Ev.list ap.nil (bG rfl)) (dD (by walk_at"lk") (by walk_at"lk"))) (am (TC (EL S M1) aa ae))))) Es.nil)
 (Es.cons (IF (TC (EL S M1) aa ae) Es.nil)
 (Es.cons (NM S (CG S cV uA (AA (EL S M0)) (h1.cl)))
 (Es.ret (Ex.ret (aj (k:=true) (TC (CB S aM aN aA (AA (EL S M5)) (iP hf (by simp))) ac bF) (ak (EL S M5) (Ev.tup (AA bn) (bG rfl)) (xh (by walk_at"lk") (by walk_at"lk") (by simp) (by simp) (bG rfl)))))))))))
theorem z9(h:H[j]?=some (i7 name tl row col))(hn:name≠"ref.null"∧name≠"ref.extern"∧name≠"ref.func")(ht:H[tl]?=some (.list []))(h1:Co GG 8 (.top 478) [.obj j] (H++[O.list []]++[O.list []]) (.obj i) H')(hf:H'[i]?=some (.tup xs))(hl:xs.length≠2)(hz:xs.length≤1000):Co GG 10 (.top 485) [.obj j] H (.obj i) H':=by
 have c0:(name==(J0 "ref.null"))=false:=by simpa using hn.1
 have c1:(name==(J0 "ref.extern"))=false:=by simpa using hn.2.1
 have c2:(name==(J0 "ref.func"))=false:=by simpa using hn.2.2
 have cl:((xs.length:Int)==2)=false:=by rw[beq_eq_false_iff_ne];lia
 refine' aG (hb:=cI) (ns:=["branch"]) ?h
 case h=>
 intro S
 exact(Es.cons (Ex.tuple S (EL S M0) (by walk_at"lk") (.cons SL (.cons SL (.cons SL (.cons SL .nil)))))
 (Es.cons (IF (TT (ah (av (TC (EL S M2) (Ev.list ap.nil (bG rfl)) (dD (by walk_at"lk") (by walk_at"lk"))) (am (TC (EL S M1) aa ae))))) Es.nil)
 (Es.cons (IF (TT (ah (av (TC (EL S M2) (Ev.list ap.nil (bG rfl)) (dD (by walk_at"lk") (by walk_at"lk"))) (am (TC (EL S M1) aa ae))))) Es.nil)
 (Es.cons (IF (TC (EL S M1) aa ae) Es.nil)
 (Es.cons (NM S (CG S cV uA (AA (EL S M0)) (h1.cl)))
 (Es.ret (Ex.ret (aj (k:=false) (TC (CB S aM aN aA (AA (EL S M5)) (iP hf hz)) ac bF) (EL S M5)))))))))
theorem D2(h:H[j]?=some (i7 name tl row col))(hn:name≠"ref.func")(ht:H[tl]?=some (.list vs))(hv:vs.length≠([]:List V).length)(h1:Co GG 8 (.top 478) [.obj j] (H++[O.list []]++[O.list []]) (.obj i) H')(hf:H'[i]?=some (.tup [kv,vv])):Co GG 10 (.top 485) [.obj j] H (.obj (H'++[O.tup [.bool false]]).length) (H'++[.tup [.bool false]]++[.tup ([kv,vv]++[.bool false])]):=by
 have c2:(name==(J0 "ref.func"))=false:=by simpa using hn
 refine' aG (hb:=cI) (ns:=["branch"]) ?h
 case h=>
 intro S
 exact(Es.cons (Ex.tuple S (EL S M0) (by walk_at"lk") (.cons SL (.cons SL (.cons SL (.cons SL .nil)))))
 (Es.cons (IF (TT (ah (am (TC (EL S M2) (Ev.list ap.nil (bG rfl)) (fK (by walk_at"lk") (by walk_at"lk") (by assumption)))))) Es.nil)
 (Es.cons (IF (TT (ah (am (TC (EL S M2) (Ev.list ap.nil (bG rfl)) (fK (by walk_at"lk") (by walk_at"lk") (by assumption)))))) Es.nil)
 (Es.cons (IF (TC (EL S M1) aa ae) Es.nil)
 (Es.cons (NM S (CG S cV uA (AA (EL S M0)) (h1.cl)))
 (Es.ret (Ex.ret (aj (k:=true) (TC (CB S aM aN aA (AA (EL S M5)) (iP hf (by simp))) ac bF) (ak (EL S M5) (Ev.tup (AA bn) (bG rfl)) (xh (by walk_at"lk") (by walk_at"lk") (by simp) (by simp) (bG rfl)))))))))))
theorem z6(h:H[j]?=some (i7 name tl row col))(hn:name≠"ref.func")(ht:H[tl]?=some (.list vs))(hv:vs.length≠([]:List V).length)(h1:Co GG 8 (.top 478) [.obj j] (H++[O.list []]++[O.list []]) (.obj i) H')(hf:H'[i]?=some (.tup xs))(hl:xs.length≠2)(hz:xs.length≤1000):Co GG 10 (.top 485) [.obj j] H (.obj i) H':=by
 have c2:(name==(J0 "ref.func"))=false:=by simpa using hn
 have cl:((xs.length:Int)==2)=false:=by rw[beq_eq_false_iff_ne];lia
 refine' aG (hb:=cI) (ns:=["branch"]) ?h
 case h=>
 intro S
 exact(Es.cons (Ex.tuple S (EL S M0) (by walk_at"lk") (.cons SL (.cons SL (.cons SL (.cons SL .nil)))))
 (Es.cons (IF (TT (ah (am (TC (EL S M2) (Ev.list ap.nil (bG rfl)) (fK (by walk_at"lk") (by walk_at"lk") (by assumption)))))) Es.nil)
 (Es.cons (IF (TT (ah (am (TC (EL S M2) (Ev.list ap.nil (bG rfl)) (fK (by walk_at"lk") (by walk_at"lk") (by assumption)))))) Es.nil)
 (Es.cons (IF (TC (EL S M1) aa ae) Es.nil)
 (Es.cons (NM S (CG S cV uA (AA (EL S M0)) (h1.cl)))
 (Es.ret (Ex.ret (aj (k:=false) (TC (CB S aM aN aA (AA (EL S M5)) (iP hf hz)) ac bF) (EL S M5)))))))))
end
theorem xV{H:List O}{m j:Nat}{b:LB}(h:sA m H j b)(ok:b.ok):a8 10 (.top 485) [.obj j] H (fL b).vs:=by
 have hc:=h
 obtain⟨tl,vs,_,a1,a2,a3⟩:=hc
 have hlen:=a3.len
 have k2:Kp [] H (H++[O.list []]++[O.list []]):=Kp.app.trans Kp.app
 have hl:=qn (h.keep0 k2) ok
 by_cases hb:b.things=[]
 ·have hv:vs=[]:=List.length_eq_zero_iff.mp (by rw[hlen,hb];rfl)
  subst hv
  by_cases n1:b.name="ref.null"
  ·have e:fL b=.want none none false:=if_pos ⟨hb,n1⟩
   rw[e];exact a8.of (z7 a1 n1 a2) Kp.app
  by_cases n2:b.name="ref.extern"
  ·have e:fL b=.want (some (-17)) none true:=(if_neg (fun q=>n1 q.2)).trans (if_pos ⟨hb,n2⟩)
   rw[e];exact a8.of (Cc a1 n2 a2) k2
  by_cases n3:b.name="ref.func"
  ·have e:fL b=.want (some (-16)) none true:=(if_neg (fun q=>n1 q.2)).trans ((if_neg (fun q=>n2 q.2)).trans ((if_pos n3).trans (if_pos hb)))
   rw[e];exact a8.of (z8 a1 n3 a2) (k2.trans Kp.app)
  have e:fL b=(di b).wan:=(if_neg (fun q=>n1 q.2)).trans ((if_neg (fun q=>n2 q.2)).trans (if_neg n3))
  rw[e]
  obtain⟨i,H',h1,k,p⟩:=hl
  cases hr:di b with
  | val x y=>rw[hr] at p;exact a8.of (D3 a1 ⟨n1,n2,n3⟩ a2 h1 p) ((k2.trans k).trans Kp.app)
  | bad w r c=>rw[hr] at p;exact⟨_,_,z9 a1 ⟨n1,n2,n3⟩ a2 h1 p (by simp[jp.vs]) (by simp[jp.vs]),k2.trans k,p⟩
  | left w r=>rw[hr] at p;exact⟨_,_,z9 a1 ⟨n1,n2,n3⟩ a2 h1 p (by simp[jp.vs]) (by simp[jp.vs]),k2.trans k,p⟩
 have hv:vs.length≠([]:List V).length:=by rw[hlen];exact fun q=>hb (List.length_eq_zero_iff.mp q)
 by_cases n3:b.name="ref.func"
 ·have e:fL b=.bad "another number of parts is wanted" b.row b.col:=(if_neg (fun q=>hb q.1)).trans ((if_neg (fun q=>hb q.1)).trans ((if_pos n3).trans (if_neg hb)))
  rw[e];exact a8.of (xW a1 n3 a2 hv) (k2.trans Kp.app)
 have e:fL b=(di b).wan:=(if_neg (fun q=>hb q.1)).trans ((if_neg (fun q=>hb q.1)).trans (if_neg n3))
 rw[e]
 obtain⟨i,H',h1,k,p⟩:=hl
 cases hr:di b with
 | val x y=>rw[hr] at p;exact a8.of (D2 a1 n3 a2 hv h1 p) ((k2.trans k).trans Kp.app)
 | bad w r c=>rw[hr] at p;exact⟨_,_,z6 a1 n3 a2 hv h1 p (by simp[jp.vs]) (by simp[jp.vs]),k2.trans k,p⟩
 | left w r=>rw[hr] at p;exact⟨_,_,z6 a1 n3 a2 hv h1 p (by simp[jp.vs]) (by simp[jp.vs]),k2.trans k,p⟩
theorem A8:∀ P,exmOne (Y6 P) (.ref 58) (.ref 58)=some true:=by intro P;kernel_rfl
theorem A6:∀ P,exmOne (Y6 P) (.ref 77) (.ref 77)=some true:=by intro P;kernel_rfl
theorem A7:∀ P,exmOne (Y6 P) (.ref 77) (.ref 58)=some false:=by intro P;kernel_rfl
section
variable {H H':List O}{l i d dd:Nat}{v:V}{w:Str}{r c:Int}
theorem Ay(hf:yP H l)(h:Co GG 20 (.obj l) [] H v H'):Co GG 22 (.top 499) [.obj l] H v H':=by
 refine' fJ (args':=[.obj l]) (ns:=[J0 "call"]) ?ho ?hcd ?hb ?hloc ?hk ?hco ?hgen ?hcell ?hS ?h
 case ho=>exact jj
 case hcd=>exact jk
 case hloc=>decide
 case hk=>rfl
 case hco=>rfl
 case hgen=>rfl
 case hcell=>decide
 case hS=>exact⟨by decide,by decide⟩
 case hb=>exact cI
 case h=>
 intro S
 exact Es.ret (EH (Es.ret (Ex.ret (yX (Ev.loc S (.head _) (by walk_at"mem")) hf h.cl))))
theorem x6(hf:yP H l)(h:da GG 20 (.obj l) [] H i H')(hi:H'[i]?=some (.excT 58 (some d)))(hD:H'[d]?=some (bU w r c)):Co GG 22 (.top 499) [.obj l] H (.obj H'.length) (H'++[.tup [.str "bad",.str w,.int r,.int c]]):=by
 refine' fJ (args':=[.obj l]) (ns:=[J0 "call"]) ?ho ?hcd ?hb ?hloc ?hk ?hco ?hgen ?hcell ?hS ?h
 case ho=>exact jj
 case hcd=>exact jk
 case hloc=>decide
 case hk=>rfl
 case hco=>rfl
 case hgen=>rfl
 case hcell=>decide
 case hS=>exact⟨by decide,by decide⟩
 case hb=>exact cI
 case h=>
 intro S
 exact Es.ret (C4 S rfl (bv.one (dl.ret (oX (Ev.loc S (.head _) (by walk_at"mem")) hf h.cl))) hi bR (by walk_at"mem") A8 (by walk_at"mem") (.there i4 .new)
  (kQ.tup (jr.cons uC (jr.cons (gy (kQ.loc S (.tail _ (.head _)) (by walk_at"mem")) hi hD .here yR z4) (jr.cons (gy (kQ.loc S (.tail _ (.head _)) (by walk_at"mem")) hi hD (.there nz .here) yS vo)
   (jr.cons (gy (kQ.loc S (.tail _ (.head _)) (by walk_at"mem")) hi hD (.there iV (.there b9 .here)) sC vo) jr.nil)))) (bG rfl)))
theorem vB(hf:yP H l)(h:da GG 20 (.obj l) [] H i H')(hi:H'[i]?=some (.excT 77 (some d)))(hD:H'[d]?=some (ll w r)):Co GG 22 (.top 499) [.obj l] H (.obj H'.length) (H'++[.tup [.str "left",.str w,.int r]]):=by
 refine' fJ (args':=[.obj l]) (ns:=[J0 "call"]) ?ho ?hcd ?hb ?hloc ?hk ?hco ?hgen ?hcell ?hS ?h
 case ho=>exact jj
 case hcd=>exact jk
 case hloc=>decide
 case hk=>rfl
 case hco=>rfl
 case hgen=>rfl
 case hcell=>decide
 case hS=>exact⟨by decide,by decide⟩
 case hb=>exact cI
 case h=>
 intro S
 exact Es.ret (C3 S rfl (bv.one (dl.ret (oX (Ev.loc S (.head _) (by walk_at"mem")) hf h.cl))) hi bR (by walk_at"mem") A7 qJ (by walk_at"mem") A6 (by walk_at"mem") (.there i4 .new)
  (kQ.tup (jr.cons uC (jr.cons (gy (kQ.loc S (.tail _ (.head _)) (by walk_at"mem")) hi hD .here yQ z4) (jr.cons (gy (kQ.loc S (.tail _ (.head _)) (by walk_at"mem")) hi hD (.there qg .here) Bt vo) jr.nil))) (bG rfl)))
end
noncomputable def xJ:Option Int→PyData
 | some v=>.int v
 | none=>.none
theorem vL{H:List O}{v:Option Int}:Dv H (aI v) (xJ v):=by cases v <;> constructor
noncomputable def zK:jp→PyData
 | .val k v=>.tuple [.int k,xJ v]
 | .bad w r c=>.tuple [.str "bad",.str w,.int r,.int c]
 | .left w r=>.tuple [.str "left",.str w,.int r]
noncomputable def kY:WR→PyData
 | .want k v a=>.tuple [xJ k,xJ v,.bool a]
 | .bad w r c=>.tuple [.str "bad",.str w,.int r,.int c]
 | .left w r=>.tuple [.str "left",.str w,.int r]
noncomputable def jp.good:jp→Prop
 | .val _ _=>True
 | .bad w _ _=>PyData.strOk w=true
 | .left w _=>PyData.strOk w=true
noncomputable def WR.good:WR→Prop
 | .want _ _ _=>True
 | .bad w _ _=>PyData.strOk w=true
 | .left w _=>PyData.strOk w=true
theorem kE{H:List O}{i:Nat}:∀ {r:jp},H[i]?=some (.tup r.vs)→Dv H (.obj i) (zK r)
 | .val _ _,h=>.tup h (.cons .int (.cons vL .nil))
 | .bad _ _ _,h=>.tup h (.cons .str (.cons .str (.cons .int (.cons .int .nil))))
 | .left _ _,h=>.tup h (.cons .str (.cons .str (.cons .int .nil)))
theorem kD{H:List O}{i:Nat}:∀ {r:WR},H[i]?=some (.tup r.vs)→Dv H (.obj i) (kY r)
 | .want _ _ _,h=>.tup h (.cons vL (.cons vL (.cons .bool .nil)))
 | .bad _ _ _,h=>.tup h (.cons .str (.cons .str (.cons .int (.cons .int .nil))))
 | .left _ _,h=>.tup h (.cons .str (.cons .str (.cons .int .nil)))
theorem Ek:PyData.strOk "bad" = true:=by decide +kernel
theorem Cq:PyData.strOk "left" = true:=by decide +kernel
theorem m8{w:Str}{r c:Int}(h:PyData.strOk w=true):SeqAt.shaped (.tuple [.str "bad",.str w,.int r,.int c])=true:=by
 simp[SeqAt.shaped,PyData.canLay0,PyData.canLayAll0,PyData.depth,PyData.depthAll,h,Ek]
theorem lf{w:Str}{r:Int}(h:PyData.strOk w=true):SeqAt.shaped (.tuple [.str "left",.str w,.int r])=true:=by
 simp[SeqAt.shaped,PyData.canLay0,PyData.canLayAll0,PyData.depth,PyData.depthAll,h,Cq]
theorem je:∀ {r:jp},r.good→SeqAt.shaped (zK r)=true
 | .val k v,_=>by cases v <;> simp[zK,xJ,SeqAt.shaped,PyData.canLay0,PyData.canLayAll0,PyData.depth,PyData.depthAll]
 | .bad w r c,h=>m8 h
 | .left w r,h=>lf h
theorem jd:∀ {r:WR},r.good→SeqAt.shaped (kY r)=true
 | .want k v a,_=>by cases v <;> cases k <;> simp[kY,xJ,SeqAt.shaped,PyData.canLay0,PyData.canLayAll0,PyData.depth,PyData.depthAll]
 | .bad w r c,h=>m8 h
 | .left w r,h=>lf h
theorem kh{r:jp}:SeqAt.noMix (zK r) (zK r)=true:=by
 cases r with
 | val k v=>cases v <;> rfl
 | bad w r c=>rfl
 | left w r=>rfl
theorem kg{r:WR}:SeqAt.noMix (kY r) (kY r)=true:=by
 cases r with
 | want k v a=>cases v <;> cases k <;> rfl
 | bad w r c=>rfl
 | left w r=>rfl
set_option tactic.hygienic true in
theorem jv{b:LB}{l m:Int}:(∃ t:LT,bf b l m=.num (t.th.value % m))∨∃ w r c,bf b l m=.bad w r c∧PyData.strOk w=true:=by
 unfold bf
 split
 ·next t _=>
  by_cases c1:t.th.sort≠"int"∨(b.name="ref.extern"∧lL t.th.told=true)
  ·rw[if_pos c1];exact .inr ⟨_,_,_,rfl,by decide +kernel⟩
  rw[if_neg c1]
  by_cases c2:l≤t.th.value∧t.th.value<(if lL t.th.told=true then m / 2 else m)
  ·rw[if_pos c2];exact .inl ⟨t,rfl⟩
  rw[if_neg c2]
  refine .inr ⟨_,_,_,rfl,?_⟩
  split <;> decide +kernel
 exact .inr ⟨_,_,_,rfl,by decide +kernel⟩
theorem hU{b:LB}{l m:Int}{w:Str}{r c:Int}(h:bf b l m=.bad w r c):PyData.strOk w=true:=by
 rcases jv (b:=b) (l:=l) (m:=m) with⟨t,e⟩ | ⟨w',r',c',e,g⟩
 ·rw[e] at h;cases h
 rw[e] at h;cases h;exact g
theorem vD{b:LB}:(fA b).good:=by
 unfold fA
 split
 ·split
  ·trivial
  split
  ·trivial
  show PyData.strOk _=true;decide +kernel
 show PyData.strOk _=true;decide +kernel
theorem nc{n:NR}{k:Int}(h:∀ w r c,n=.bad w r c→PyData.strOk w=true):(n.res k).good:=by
 cases n with
 | num x=>trivial
 | bad w r c=>exact h w r c rfl
set_option tactic.hygienic true in
theorem qy{b:LB}:(di b).good:=by
 unfold di
 split
 ·exact nc fun w r c h=>hU h
 split
 ·exact nc fun w r c h=>hU h
 split
 ·exact vD
 split
 ·exact nc fun w r c h=>hU h
 split
 ·next h=>
  show PyData.strOk b.name=true
  rcases h with h | h | h <;> (rw[h];decide +kernel)
 show PyData.strOk _=true;decide +kernel
theorem xn{b:LB}:(fL b).good:=by
 unfold fL
 split
 ·trivial
 split
 ·trivial
 split
 ·split
  ·trivial
  show PyData.strOk _=true;decide +kernel
 have:=qy (b:=b)
 cases h:di b with
 | val k v=>trivial
 | bad w r c=>rw[h] at this;exact this
 | left w r=>rw[h] at this;exact this
theorem oi{α:Type}{P:α→Prop}{c:Prop}[Decidable c]{a b:α}(h1:c→P a)(h2:P b):P (if c then a else b):=by
 split
 ·exact h1 ‹_›
 exact h2
noncomputable def mH(r:jp):Prop:=∀ k v,r=.val k v→k∈[(-1:Int),-2,-16,-17]∧∀ x,v=some x→0≤x∧x<2 ^ 64
theorem wW{k:Int}(h:k∈[(-1:Int),-2,-16,-17]):mH (.val k none):=fun _ _ e=>by cases e;exact⟨h,fun _ e=>nomatch e⟩
theorem yq{b:LB}{k:Int}{v:Option Int}(h:di b=.val k v):(k∈[(-1:Int),-2,-16,-17])∧(∀ x,v=some x→0≤x∧x<2 ^ 64):=by
 have num:∀ {l m:Int} {q:Int},q∈[(-1:Int),-2,-16,-17]→0<m→m≤2 ^ 64→mH ((bf b l m).res q):=by
  intro l m q hq hm hm2
  rcases jv (b:=b) (l:=l) (m:=m) with⟨t,e⟩ | ⟨w',r',c',e,g⟩ <;> rw[e] <;> intro k v h <;> cases h
  exact⟨hq,fun y hy=>by cases hy;exact⟨Int.emod_nonneg _ (Int.ne_of_gt hm),Int.lt_of_lt_of_le (Int.emod_lt_of_pos _ hm) hm2⟩⟩
 have heap:mH (fA b):=by
  unfold fA
  split
  ·exact oi (fun _=>wW (by decide)) (oi (fun _=>wW (by decide)) fun _ _ e=>nomatch e)
  exact fun _ _ e=>nomatch e
 have all:mH (di b):=oi (fun _=>num (by decide) (by decide) (by decide)) (oi (fun _=>num (by decide) (by decide) (by decide)) (oi (fun _=>heap) (oi (fun _=>num (by decide) (by decide) (by decide)) (oi (fun _ _ _ e=>nomatch e) fun _ _ e=>nomatch e))))
 exact all k v h
noncomputable def Eo(r:WR):Prop:=∀ k v a,r=.want k v a→(∀ q,k=some q→q∈[(-1:Int),-2,-16,-17])∧(a=true→k=some (-16)∨k=some (-17))∧(∀ x,v=some x→0≤x∧x<2 ^ 64)∧(k=none→v=none∧a=false)
theorem xm{b:LB}{k v:Option Int}{a:Bool}(h:fL b=.want k v a):(∀ q,k=some q→q∈[(-1:Int),-2,-16,-17])∧(a=true→k=some (-16)∨k=some (-17))∧(∀ x,v=some x→0≤x∧x<2 ^ 64)∧(k=none→v=none∧a=false):=by
 have all:Eo (fL b):=by
  refine oi (fun _ k v a h=>?_) (oi (fun _ k v a h=>?_) (oi (fun _=>oi (fun _ k v a h=>?_) fun _ _ _ e=>nomatch e) fun k v a h=>?_))
  ·cases h;exact⟨fun q hq=>(nomatch hq),fun h=>(nomatch h),fun x hx=>(nomatch hx),fun _=>⟨rfl,rfl⟩⟩
  ·cases h;exact⟨fun q hq=>by cases hq;decide,fun _=>.inr rfl,fun x hx=>(nomatch hx),fun e=>nomatch e⟩
  ·cases h;exact⟨fun q hq=>by cases hq;decide,fun _=>.inl rfl,fun x hx=>(nomatch hx),fun e=>nomatch e⟩
  cases hc:di b with
  | val k' v'=>
   rw[hc] at h
   cases h
   obtain⟨h1,h2⟩:=yq hc
   exact⟨fun q hq=>by cases hq;exact h1,fun e=>(nomatch e),h2,fun e=>nomatch e⟩
  | bad w r c=>rw[hc] at h;cases h
  | left w r=>rw[hc] at h;cases h
 exact all k v a h
noncomputable def j5(dd:Nat)(f:V)(args:List V)(H:List O)(P:V→List O→Prop):Prop:=
 (∃ v H',Co GG dd f args H v H'∧Kp [] H H'∧P v H')∨(∃ w r c,gs dd f args H w r c∧∀ j H',H'[j]?=some (.tup [.str "bad",.str w,.int r,.int c])→P (.obj j) H')∨(∃ w r,BN dd f args H w r∧∀ j H',H'[j]?=some (.tup [.str "left",.str w,.int r])→P (.obj j) H')
theorem x7{H:List O}{l:Nat}{P:V→List O→Prop}(hf:yP H l)(h:j5 20 (.obj l) [] H P):∃ v H',Co GG 22 (.top 499) [.obj l] H v H'∧Kp [] H H'∧P v H':=by
 rcases h with⟨v,H',h,k,p⟩ | ⟨w,r,c,⟨i,d,H',h,k,hi,hD⟩,p⟩ | ⟨w,r,⟨i,d,H',h,k,hi,hD⟩,p⟩
 ·exact⟨v,H',Ay hf h,k,p⟩
 ·exact⟨_,_,x6 hf h hi hD,k.trans Kp.app,p _ _ aB⟩
 exact⟨_,_,vB hf h hi hD,k.trans Kp.app,p _ _ aB⟩
section
variable {fn:bW}{ls:List (Str×V)}{H:List O}{t:Nat}{P:V→List O→Prop}{R:V→List O→Prop}
theorem rU{params:Arguments}{lbody:Expr}{scope:Scope}{lpos cp np:Pos}{ce:List (Str×Nat)}{k Pt:Addr}{dd:Nat}(S:bz fn)(hm:(J0 "_law_heard",NameKind.globalImplicit)∈fn.sc.names)(hk:fn.cdv=.ref k)(hC:∀ P,codeHdIn (GG.K P) k Pt=true)(hpn:GG.pn[t]?=some Pt)
  (hcl:b8 fn scope ce) (hdef:∀ env,defaultsOf params env=([],[])) (hT:bX t (fn.qual++".<locals>."++"<lambda>") H) (hdd:22<dd)
  (hcall:∀ l cd H1,H1[l]?=some (.fn "<lambda>" (fn.qual++".<locals>."++"<lambda>") params (.expr lbody) scope ce cd)→H1[cd]?=some (.code (fn.qual++".<locals>."++"<lambda>"))→Kp [t] H H1→j5 20 (.obj l) [] H1 P)
  (hR:∀ v H',Kp [t] H H'→bX t (fn.qual++".<locals>."++"<lambda>") H'→P v H'→R v H') :
  ∃ v H',Ev GG dd fn (.Call (.Name (J0 "_law_heard") np) [.Lambda params lbody scope lpos] [] cp) ls H v H'∧R v H':=by
 obtain⟨l,cd,H1,e1,k1,_,hl,hcd,t1⟩:=yW (ls:=ls) (dd:=dd) (pos:=lpos) (params:=params) (body:=lbody) hk hC hpn hcl hdef hT
 obtain⟨v,H2,h2,k2,p2⟩:=x7 ⟨_,_,_,_,_,_,_,hl⟩ (hcall l cd H1 hl hcd k1)
 exact⟨v,H2,Ev.call (cK S su hm) F0 (ap.cons e1 ap.nil) h2.cl hdd,hR v H2 (k1.step k2 (by simp)) (t1.keep0 k2) p2⟩
end
section
variable {H:List O}{l cd:Nat}{q:Str}{params:Arguments}{body:Expr}{scope:Scope}{ce:List (Str×Nat)}{P:V→List O→Prop}
theorem rT{v:V}{H':List O}(hi:H[l]?=some (.fn "<lambda>" q params (.expr body) scope ce cd))(hcd:H[cd]?=some (.code q))(hb:∀ cl doc pm cdv ct,bindArgs (kdv_fn "<lambda>" q params (.expr body) scope cl .none doc pm cdv ct) ⟨[],[]⟩=pure [])(hnd:(ce.map (·.1)).Nodup)
  (hk:scope.kind=.function) (hco:scope.isCoroutine=false) (hgen:scope.isGenerator=false) (hcell:∀ x∈scope.names,x.2≠.cell) (hS:bz ⟨"",scope,0,.none,[]⟩)
  (h:∀ a k,bz ⟨q,scope,a,.ref k,ce⟩→Ev GG 20 ⟨q,scope,a,.ref k,ce⟩ body [] H v H') (k:Kp [] H H') (p:P v H'):j5 20 (.obj l) [] H P:=
 .inl ⟨v,H',Dd hi hcd hb hnd hk hco hgen hcell (fun a k=>hS.sc2) h,k,p⟩
theorem mD{w:Str}{r c:Int}{i d:Nat}{H':List O}(hi:H[l]?=some (.fn "<lambda>" q params (.expr body) scope ce cd))(hcd:H[cd]?=some (.code q))(hb:∀ cl doc pm cdv ct,bindArgs (kdv_fn "<lambda>" q params (.expr body) scope cl .none doc pm cdv ct) ⟨[],[]⟩=pure [])(hnd:(ce.map (·.1)).Nodup)
  (hk:scope.kind=.function) (hco:scope.isCoroutine=false) (hgen:scope.isGenerator=false) (hcell:∀ x∈scope.names,x.2≠.cell) (hS:bz ⟨"",scope,0,.none,[]⟩)
  (h:∀ a k,bz ⟨q,scope,a,.ref k,ce⟩→ej GG 20 ⟨q,scope,a,.ref k,ce⟩ body [] H i H') (k:Kp [] H H') (he:H'[i]?=some (.excT 58 (some d))) (hD:H'[d]?=some (bU w r c))
  (p:∀ j H',H'[j]?=some (.tup [.str "bad",.str w,.int r,.int c])→P (.obj j) H'):j5 20 (.obj l) [] H P:=
 .inr (.inl ⟨w,r,c,⟨i,d,H',d7 (uI hi hcd hb hnd hk hco hgen hcell (fun a k=>hS.sc2) h (.inr he)) (bP he),k,he,hD⟩,p⟩)
theorem tL{w:Str}{r:Int}{i d:Nat}{H':List O}(hi:H[l]?=some (.fn "<lambda>" q params (.expr body) scope ce cd))(hcd:H[cd]?=some (.code q))(hb:∀ cl doc pm cdv ct,bindArgs (kdv_fn "<lambda>" q params (.expr body) scope cl .none doc pm cdv ct) ⟨[],[]⟩=pure [])(hnd:(ce.map (·.1)).Nodup)
  (hk:scope.kind=.function) (hco:scope.isCoroutine=false) (hgen:scope.isGenerator=false) (hcell:∀ x∈scope.names,x.2≠.cell) (hS:bz ⟨"",scope,0,.none,[]⟩)
  (h:∀ a k,bz ⟨q,scope,a,.ref k,ce⟩→ej GG 20 ⟨q,scope,a,.ref k,ce⟩ body [] H i H') (k:Kp [] H H') (he:H'[i]?=some (.excT 77 (some d))) (hD:H'[d]?=some (ll w r))
  (p:∀ j H',H'[j]?=some (.tup [.str "left",.str w,.int r])→P (.obj j) H'):j5 20 (.obj l) [] H P:=
 .inr (.inr ⟨w,r,⟨i,d,H',d7 (uI hi hcd hb hnd hk hco hgen hcell (fun a k=>hS.sc2) h (.inr he)) (bP he),k,he,hD⟩,p⟩)
end
noncomputable def im(k:Int):Str:=if k=-1 then "i32" else if k=-2 then "i64" else if k=-16 then "funcref" else "externref"
theorem iL{k:Int}(h:k∈[(-1:Int),-2,-16,-17]):Spec.lookup (PyData.int k) Dr=some (.str (im k))∧(Spec.lookup (PyData.int k) (Ar.map fun p=>(PyData.int p.1,p.2))).getD (.str "unknown")=.str (im k)∧(im k).length+1≤1000:=by
 simp only[K2,J8,or_false] at h
 rcases h with rfl | rfl | rfl | rfl
 ·exact⟨by kernel_rfl,by kernel_rfl,by decide⟩
 ·exact⟨by kernel_rfl,by kernel_rfl,by decide⟩
 ·exact⟨by kernel_rfl,by kernel_rfl,by decide⟩
 exact⟨by kernel_rfl,by kernel_rfl,by decide⟩
theorem j8{x:Int}(h0:0≤x)(h:x<2 ^ 64):x.natAbs.log2<1920∧(J0 (toString x)).length≤10000:=by
 have hn:x.natAbs<2 ^ 64:=by lia
 have hl:x.natAbs.log2<1920:=by
  by_cases e:x.natAbs=0
  ·rw[e];decide
  exact Nat.lt_trans ((Nat.log2_lt e).mpr hn) (by decide)
 exact⟨hl,J7 (int_text_len_1921 hl) (by decide)⟩
noncomputable def fk(k:Int)(v:Option Int):Str:=match v with | none=>"null" | some x=>im k++" "++J0 (toString x)
theorem j7{H:List O}{k:Int}{v:Option Int}(hk:k∈[(-1:Int),-2,-16,-17])(hv:∀ x,v=some x→0≤x∧x<2 ^ 64):Co GG 4 (.top 492) [.int k,aI v] H (.str (fk k v)) H:=by
 cases v with
 | none=>exact xq
 | some x=>
 obtain⟨h0,h1⟩:=hv x rfl
 obtain⟨q1,q2,q3⟩:=iL hk
 obtain⟨s1,s2⟩:=j8 h0 h1
 exact zq q1 s1 q3 s2
theorem jc{H:List O}{k:Int}{v:Option Int}(hk:k∈[(-1:Int),-2,-16,-17])(hv:∀ x,v=some x→0≤x∧x<2 ^ 64):Co GG 4 (.top 363) [.int k,aI v] H (.str (fk k v)) H:=by
 cases v with
 | none=>exact u5
 | some x=>
 obtain⟨h0,h1⟩:=hv x rfl
 obtain⟨q1,q2,q3⟩:=iL hk
 obtain⟨s1,s2⟩:=j8 h0 h1
 exact xz (i6 q2) s1 q3 s2
noncomputable abbrev Dm:Str:="_law_is_right"++".<locals>."++"<lambda>"
theorem z3:[J0 "branch",J0 "wanted",J0 "due",J0 "words"].Nodup:=by decide +kernel
theorem xS:[J0 "branch",J0 "wanted",J0 "due",J0 "words",J0 "kind"].Nodup:=by decide +kernel
theorem KI.tab0{q:Str}{H:List O}(h:bX 0 q H):KI [0] 2 H:=fun j hj=>by
 obtain⟨ps,h1,_⟩:=h
 rw[J6.mp hj];exact⟨by lia,_,h1,rfl⟩
theorem Dk{fn:bW}{dd:Nat}{x:Str}{k:V}{ls l₁:List (Str×V)}{H:List O}{body:List Stmt}{Inv:List O→Prop}(h1:Sn fn x k ls H l₁ H)(h2:∃ H₂,Es GG dd fn body l₁ H .next l₁ H₂∧Inv H₂)(hs:∀ p∈ls,p∈l₁)(nd:(ls.map (·.1)).Nodup) :
  ∃ l₁ H₂,Sn fn x k ls H l₁ H∧Es GG dd fn body l₁ H .next ls H₂∧Inv H₂:=by
 obtain⟨H₂,h,i⟩:=h2
 exact⟨l₁,H₂,h1,h.less hs nd,i⟩
noncomputable def i9(k v:Option Int)(a:Bool):Str:=match k with | none=>"a null" | some q=>if a then "some "++im q else fk q v
noncomputable def PW(b:LB)(bb:V)(H:List O):Prop:=match fL b with
 | .want k v a=>∃ x d,bb=.obj x∧H[x]?=some (.inst 399 d)∧H[d]?=some (eu (aI k) (aI v) a)
 | .bad w r c=>∃ x,bb=.obj x∧H[x]?=some (.tup [.str "bad",.str w,.int r,.int c])
 | .left w r=>∃ x,bb=.obj x∧H[x]?=some (.tup [.str "left",.str w,.int r])
theorem u4{q:Int}(h:q=-16∨q=-17):Txt.slice (fk q (some 0)) none (some (-2))=im q:=by
 rcases h with rfl | rfl <;> kernel_rfl
theorem xt{H:List O}{x d:Nat}{k v:Option Int}{a:Bool}(hi:H[x]?=some (.inst 399 d))(hD:H[d]?=some (eu (aI k) (aI v) a))(hk:∀ q,k=some q→q∈[(-1:Int),-2,-16,-17])(hv:∀ x,v=some x→0≤x∧x<2 ^ 64) :
  Co GG 6 (.top 396) [.obj x] H (.str (i9 k v a)) H:=by
 cases k with
 | none=>exact xu hi hD
 | some q=>
 obtain⟨q1,q2,q3⟩:=iL (hk q rfl)
 unfold i9
 cases a with
 | true=>exact zA hi hD (i6 q2) (by lia)
 | false=>exact zu hi hD mC (jc (hk q rfl) hv)
theorem zS(c:Option Int){l:List V}(h:∀ w∈l,∃ val,w=aI val):∀ w∈aI c::l,∃ val,w=aI val:=List.forall_mem_cons.2 ⟨⟨c,rfl⟩,h⟩
theorem B3{c:Option Int}{l:List V}(h:∀ w∈l,∃ val,w=aI val):∀ w∈[V.int 0,V.int 7,aI c]++l,∃ val,w=aI val:=zS (some 0) (zS (some 7) (zS c h))
theorem AJ{fn:bW}(S:bz fn){x:Str}{px:Pos}{iter:Expr}{body:List Stmt}{pos:Pos}{ls:List (Str×V)}{H6:List O}
  (ht:∀ (val:Option Int) (H8:List O),Kp [] H6 H8→∃ l₁ H₂,Sn fn x (aI val) ls H8 l₁ H8∧Es GG 24 fn body l₁ H8 .next ls H₂∧Kp [] H8 H₂)
  (he:∃ L1 L2:List V,(∀ w∈L1++L2,∃ val,w=aI val)∧Ev GG 24 fn iter ls H6 (.obj (H6++[O.list L1]++[O.list L2]).length) (H6++[O.list L1]++[O.list L2]++[O.list (L1++L2)]))
  (hs:∀ env x,V1 iter env x=pure x:=by intro _ _;rfl):∃ H₂,Es GG 24 fn [.For (.Name x px) iter body [] pos] ls H6 .next ls H₂∧Kp [] H6 H₂:=by
 obtain⟨L1,L2,hx,ev⟩:=he
 have k3:Kp [] H6 (H6++[O.list L1]++[O.list L2]++[O.list (L1++L2)]):=(Kp.app.trans Kp.app).trans Kp.app
 refine(C8 S (Good:=fun h=>h[(H6++[O.list L1]++[O.list L2]).length]?=some (.list (L1++L2))) (Inv:=Kp [] (H6++[O.list L1]++[O.list L2]++[O.list (L1++L2)])) (Io.list (l:=(H6++[O.list L1]++[O.list L2]).length) ev aB) Kp.refl (fun H' hI=>hI.get aB J8) (fun w hw H8 k8=>?_) hs).imp fun H' h=>⟨h.1,k3.trans h.2⟩
 obtain⟨val,rfl⟩:=hx w hw
 exact(ht val H8 (k3.trans k8)).imp fun l₁ h=>h.imp fun H₂ h=>⟨h.1,h.2.1,k8.trans h.2.2⟩
theorem u7{H:List O}{i j:Nat}{b:LB}(hT:bX 0 Dm H)(hP:PB H i b)(hB:sA 2 H j b)(ok:b.ok):∃ v H',Co GG 24 (.top 513) [.obj i,.obj j] H v H'∧v=.bool true∧Kp [0] H H'∧bX 0 Dm H':=by
 have hpos:0<H.length:=by obtain⟨ps,h1,_⟩:=hT;exact bC h1
 refine' BG (x:=J0 "item") (y:=J0 "branch") ?ho ?hcd ?hb ?hx ?hy ?hxy ?hcf ?hk ?hco ?hgen ?hS ?h
 case ho=>exact jj
 case hcd=>exact jk
 case hb=>intro v₁ v₂;rfl
 case hx=>decide
 case hy=>decide
 case hxy=>decide
 case hcf=>intro n;rfl
 case hk=>rfl
 case hco=>rfl
 case hgen=>rfl
 case hS=>exact bz.sc2 ⟨by decide,by decide⟩
 case h=>
 intro S
 refine cN fun H0 e0=>?_
 have c0:H0[H.length]?=some (.cell (some (.obj i))):=by rw[e0];exact aB
 have kp0:Kp [] H H0:=by rw[e0];exact Kp.app
 have t0:=hT.keep0 kp0
 have hP0:=hP.keep kp0
 have hB0:=hB.keep0 kp0
 clear e0
 have hN:H.length∉[0]:=fun h=>by have:=J6.mp h;lia
 generalize eN:H.length=N at *
 refine mO (Q:=fun H1=>Kp [0] H0 H1∧bX 0 Dm H1) (sg (mG (b:=false) (rU (t:=0) (P:=fun v H'=>∃ iv,v=.obj iv∧H'[iv]?=some (.tup (di b).vs)) S (by walk_at"mem") rfl wy rfl (b8.of rfl (by simp)) (by intro env;rfl) t0 (by decide) ?call1 ?R1))) ?rest1
 case call1=>
  intro l cd H1 hfn hcd k1
  have c1x:=k1.get c0 hN
  have hc:=oA (hP0.keepI (KI.tab0 t0) k1) ok
  cases hr:di b with
  | val k v=>
   rw[hr] at hc
   obtain⟨x,H2,h2,k2,p2⟩:=hc
   exact rT hfn hcd (by intro cl doc pm cdv ct;rfl) (by simp) rfl rfl rfl (by decide) ⟨by decide,by decide⟩ (fun a k S=>Ev.call (cK S bL (by walk_at"mem")) jY (ap.cons (Ev.free S (by walk_at"mem") c1x (by walk_at"mem")) ap.nil) h2.cl) k2 ⟨x,rfl,p2⟩
  | bad w r c=>
   rw[hr] at hc
   obtain⟨x,d,H2,h2,k2,p2,q2⟩:=hc
   exact mD hfn hcd (by intro cl doc pm cdv ct;rfl) (by simp) rfl rfl rfl (by decide) ⟨by decide,by decide⟩ (fun a k S=>ej.call (cK S bL (by walk_at"mem")) jY (ap.cons (Ev.free S (by walk_at"mem") c1x (by walk_at"mem")) ap.nil) h2.cl) k2 p2 q2 (fun j H' hj=>⟨j,rfl,hj⟩)
  | left w r=>
  rw[hr] at hc
  obtain⟨x,d,H2,h2,k2,p2,q2⟩:=hc
  exact tL hfn hcd (by intro cl doc pm cdv ct;rfl) (by simp) rfl rfl rfl (by decide) ⟨by decide,by decide⟩ (fun a k S=>ej.call (cK S bL (by walk_at"mem")) jY (ap.cons (Ev.free S (by walk_at"mem") c1x (by walk_at"mem")) ap.nil) h2.cl) k2 p2 q2 (fun j H' hj=>⟨j,rfl,hj⟩)
 case R1=>
  intro v H1 k1 t1 p1
  obtain⟨iv,rfl,hv⟩:=p1
  obtain⟨iw,H2,h2,k2,hw⟩:=qn (hB0.keep (KI.tab0 t0) k1) ok
  have hP2:=(hP0.keepI (KI.tab0 t0) k1).keep k2
  have c2x:=k2.get (k1.get c0 hN) J8
  obtain⟨tl,vs,_,b1,b2,b3⟩:=(hB0.keep (KI.tab0 t0) k1).keep0 k2
  have cn:(b.name != b.name)=false:=by simp
  refine⟨.obj iw,H2,Ev.call (cK S cV (by walk_at"mem")) uA (ap.cons (Ev.loc S (.head _) (by walk_at"mem")) ap.nil) h2.cl,ff (kE (k2.get hv J8)) (kE hw) (je qy) kh,H2,?_,k1.step k2 (by simp),t1.keep0 k2⟩
  exact(lr (gb (CG S aL cW (AA (EC S)) ((aD hP2 ok).cl)) (Ev.item (EL S M0) ac GT) cy) cn)
 case rest1=>
 rintro H1 ⟨k1,t1⟩
 have hP1:=hP0.keepI (KI.tab0 t0) k1
 have hB1:=hB0.keep (KI.tab0 t0) k1
 have c1y:=k1.get c0 hN
 refine yY S (R:=fun a bb H2=>∃ ia,a=.obj ia∧H2[ia]?=some (.tup (fL b).vs)∧PW b bb H2∧Kp [0] H1 H2∧bX 0 Dm H2) (L:=fun a bb=>[("branch",.obj j),("wanted",bb),("due",a)]) ?h ?st ?r (hw:=SW)
 case st=>
  intro a bb h
  exact .cons (.loc (by walk_at"mem") (.there ku .new)) (.cons (.loc (by walk_at"mem") (.there f4 (.there pa .new))) .nil)
 case h=>
  obtain⟨ia,H2,h2,k2,ha⟩:=xV hB1 ok
  have hP2:=hP1.keep k2
  have c2y:=k2.get c1y J8
  have t2:=t1.keep0 k2
  refine⟨.obj ia,H2,Ev.call (cK S pQ (by walk_at"mem")) F1 (ap.cons (Ev.loc S (.head _) (by walk_at"mem")) ap.nil) h2.cl,rU (t:=0) (P:=PW b) S (by walk_at"mem") rfl wy rfl (b8.of rfl (by simp)) (by intro env;rfl) t2 (by decide) ?call2 ?R2⟩
  case call2=>
   intro l cd H3 hfn hcd k3
   have c1x:=k3.get c2y hN
   have hc:=ze (hP2.keepI (KI.tab0 t2) k3) ok
   unfold PW
   cases hr:fL b with
   | want k v a=>
    rw[hr] at hc
    obtain⟨x,d,H4,h2,k4,p4,q4⟩:=hc
    exact rT hfn hcd (by intro cl doc pm cdv ct;rfl) (by simp) rfl rfl rfl (by decide) ⟨by decide,by decide⟩ (fun a k S=>Ev.call (cK S iA (by walk_at"mem")) Bm (ap.cons (Ev.free S (by walk_at"mem") c1x (by walk_at"mem")) ap.nil) h2.cl) k4 ⟨x,d,rfl,p4,q4⟩
   | bad w r c=>
    rw[hr] at hc
    obtain⟨x,d,H4,h2,k4,p4,q4⟩:=hc
    exact mD hfn hcd (by intro cl doc pm cdv ct;rfl) (by simp) rfl rfl rfl (by decide) ⟨by decide,by decide⟩ (fun a k S=>ej.call (cK S iA (by walk_at"mem")) Bm (ap.cons (Ev.free S (by walk_at"mem") c1x (by walk_at"mem")) ap.nil) h2.cl) k4 p4 q4 (fun j H' hj=>⟨j,rfl,hj⟩)
   | left w r=>
   rw[hr] at hc
   obtain⟨x,d,H4,h2,k4,p4,q4⟩:=hc
   exact tL hfn hcd (by intro cl doc pm cdv ct;rfl) (by simp) rfl rfl rfl (by decide) ⟨by decide,by decide⟩ (fun a k S=>ej.call (cK S iA (by walk_at"mem")) Bm (ap.cons (Ev.free S (by walk_at"mem") c1x (by walk_at"mem")) ap.nil) h2.cl) k4 p4 q4 (fun j H' hj=>⟨j,rfl,hj⟩)
  case R2=>
  intro v H3 k3 t3 p3
  exact⟨ia,rfl,(KI.tab0 t2).tup k3 ha,p3,(k2.sub (List.nil_subset _)).trans k3,t3⟩
 case r=>
 rintro a bb H2 ⟨ia,rfl,ha,hw,k2,t2⟩
 have kk:Kp [0] H H2:=(kp0.sub (List.nil_subset _)).trans (k1.trans k2)
 refine cN fun H3 e3=>?_
 have k3:Kp [] H2 H3:=by rw[e3];exact Kp.app
 clear e3
 have ha3:=k3.get ha J8
 have t3:=t2.keep0 k3
 have kk3:Kp [0] H H3:=kk.step k3 (by simp)
 unfold PW at hw
 have hg:=xn (b:=b)
 cases hr:fL b with
 | bad w r c=>
  rw[hr] at hw ha3 hg
  obtain⟨x,rfl,hx⟩:=hw
  have hcm:Cm GG 24 .Eq (.obj x) (.obj ia) H3 true:=kS (d:=kY (.bad w r c)) (kD (k3.get hx J8)) (kD ha3) (jd hg) kg
  have ha4:H3[ia]?=some (.tup [.str "bad",.str w,.int r,.int c]):=ha3
  refine d6 (Es.ret (IT (TT (Te.val (CB S aU aV aJ (AB (Ev.item (EL S M2) ac GT) (ET S qG qU kO)) (j4)) Tv.bool)) (Es.ret (Ex.ret (bo (EL S M1) (EL S M2) (by assumption)))))) ⟨rfl,kk3,t3⟩
 | left w r=>
  rw[hr] at hw ha3 hg
  obtain⟨x,rfl,hx⟩:=hw
  have hcm:Cm GG 24 .Eq (.obj x) (.obj ia) H3 true:=kS (d:=kY (.left w r)) (kD (k3.get hx J8)) (kD ha3) (jd hg) kg
  have ha4:H3[ia]?=some (.tup [.str "left",.str w,.int r]):=ha3
  refine d6 (Es.ret (IT (TT (Te.val (CB S aU aV aJ (AB (Ev.item (EL S M2) ac GT) (ET S qG qU kO)) (j4)) Tv.bool)) (Es.ret (Ex.ret (bo (EL S M1) (EL S M2) (by assumption)))))) ⟨rfl,kk3,t3⟩
 | want k v a=>
 obtain⟨wk,wa,wv,wn⟩:=xm hr
 rw[hr] at hw ha3 hg
 obtain⟨x,d,rfl,hx,hxd⟩:=hw
 have hx3:=k3.get hx J8
 have hxd3:=k3.get hxd J8
 have ha4:H3[ia]?=some (.tup [aI k,aI v,.bool a]):=ha3
 have hi:Cl GG 0 (.bi "isinstance") [aI k,.ty "str"] H3 (.bool false) H3:=by
  cases k
  ·exact pU
  exact sO
 have nb1:∀ n,aI k≠.bi n:=mC
 have nb2:∀ n,aI v≠.bi n:=mC
 have nb3:∀ n,V.bool a≠.bi n:=by intro n h;cases h
 have hcm:Cm GG 24 .NotEq (.obj H3.length) (.obj ia) (H3++[.tup [aI k,aI v,.bool a]]) false:=ff (d:=kY (.want k v a)) (kD (r:=.want k v a) aB) (kD (r:=.want k v a) (cF ha3)) (jd hg) kg
 refine cv (IF (TT (Te.val (CB S aU aV aJ (AB (Ev.item (EL S M2) ac GT) (ET S qG qU kO)) (hi)) Tv.bool)) Es.nil) ?_
 refine cv (IF (TC (Ev.tup (AC (AT (EL S M1) ay) (AT (EL S M1) cg) (AT (EL S M1) bu)) (bG rfl)) (EL S M2) (by assumption)) Es.nil) ?_
 refine cN fun H4 e4=>?_
 have k4:Kp [] H3 H4:=by rw[e4];exact Kp.app
 clear e4
 have hx4:=k4.get hx3 J8
 have hxd4:=k4.get hxd3 J8
 have ha5:=k4.get ha4 J8
 have t4:=t3.keep0 k4
 have kk4:Kp [0] H H4:=kk3.step k4 (by simp)
 refine cv (ls':=[("branch",.obj j),("wanted",.obj x),("due",.obj ia),("words",.str (i9 k v a))]) (H₁:=H4) ?words ?rest2
 case words=>
  clear hxd4 hx4 hxd3 hx3 hxd hx hcm ha4 ha3 hi nb1 nb2 nb3 hr hg ha wn
  cases k with
  | none=>
  exact(NM S (aj (k:=true) (TC (Ev.item (EL S M2) ac GT) ai bk) aa))
  | some q=>
  obtain⟨q1,q2,q3⟩:=iL (wk q rfl)
  cases a with
  | true=>
   have hq:q=-16∨q=-17:=by rcases wa rfl with e | e <;> (cases e;simp)
   have ht:=j7 (H:=H4) (k:=q) (v:=some 0) (wk q rfl) (by intro x hx;cases hx;decide)
   have es:=u4 hq
   have z1:(fk q (some 0)).length≤J5:=by rcases hq with rfl | rfl <;> decide +kernel
   have z2:(J0 "some ").length+(Txt.slice (fk q (some 0)) none (some (-2))).length≤J5:=by rcases hq with rfl | rfl <;> decide +kernel
   show Ex GG 24 _ _ _ _ _ [(J0 "branch",.obj j),(J0 "wanted",.obj x),(J0 "due",.obj ia),(J0 "words",.str ((J0 "some ")++im q))] H4
   rw[←es]
   exact(NM S (aj (k:=false) (TC (Ev.item (EL S M2) ac GT) ai bk) (aj (k:=true) (TT (Te.val (Ev.item (EL S M2) ac GT) Tv.bool)) (ak aa (bJ (CG S iC Bl (AB (Ev.item (EL S M2) ac GT) ac) (ht.cl)) a9 (aZ (aK ac)) (by assumption)) (bS (by assumption))))))
  | false=>
  have ht:=j7 (H:=H4) (k:=q) (v:=v) (wk q rfl) wv
  exact(NM S (aj (k:=false) (TC (Ev.item (EL S M2) ac GT) ai bk) (aj (k:=false) (TT (Te.val (Ev.item (EL S M2) ac GT) Tv.bool)) (CG S iC Bl (AB (Ev.item (EL S M2) ac GT) (Ev.item (EL S M2) ac GT)) (ht.cl)))))
 case rest2=>
 have htx:=xt hx4 hxd4 wk wv
 have cn:(i9 k v a != i9 k v a)=false:=by simp
 refine cv (IF (TC (au (EL S M1) (GI wf) F6 ap.nil (htx.cl)) (EL S M3) cy) Es.nil) ?_
 refine C9 S (Inv:=fun H'=>Kp [] (H4++[O.tup [.int (-1),.int (-2),.int (-16),.int (-17)]]) H') (Io.tup (Ev.tup (ap.cons (aK ac) (ap.cons (aK ac) (ap.cons (aK ac) (ap.cons (aK ac) ap.nil)))) (bG rfl)) aB) Kp.refl (fun H' hI=>hI.get aB J8) ?ht ?hr
 case hr=>
  intro H6 k6
  refine d6 (Es.ret (Ex.ret bn)) ⟨rfl,kk4.step (Kp.app.trans k6) (by simp),t4.keep0 (Kp.app.trans k6)⟩
 case ht=>
 intro kv hkv H6 k6
 obtain⟨kd,rfl,hkd⟩:∃ kd,kv=.int kd∧kd∈[(-1:Int),-2,-16,-17]:=by
  simp only[K2,J8,or_false] at hkv
  rcases hkv with rfl | rfl | rfl | rfl
  ·exact⟨-1,rfl,by simp⟩
  ·exact⟨-2,rfl,by simp⟩
  ·exact⟨-16,rfl,by simp⟩
  exact⟨-17,rfl,by simp⟩
 have k46:Kp [] H4 H6:=Kp.app.trans k6
 have hx6:=k46.get hx4 J8
 have hxd6:=k46.get hxd4 J8
 have ha6:=k46.get ha5 J8
 refine Dk (l₁:=[("branch",.obj j),("wanted",.obj x),("due",.obj ia),("words",.str (i9 k v a)),("kind",.int kd)]) (.loc (by walk_at"mem") (.there n6 (.there nA (.there tE (.there o9 .new))))) ?_ m9 z3
 have ha':a=true→k.isSome=true:=fun e=>by rcases wa e with h | h <;> (rw[h];rfl)
 refine(AJ S ?turn ?ev).imp fun H₂ h=>⟨h.1,k6.trans h.2⟩
 case turn=>
  intro val H8 k8
  have hx8:=k8.get hx6 J8
  have hxd8:=k8.get hxd6 J8
  have ha8:=k8.get ha6 J8
  have hf1:=yd (value:=val) hx8 hxd8 hkd ha'
  have hf2:=rS (value:=val) (kind:=kd) ha8 ha'
  have cb:(qw k v a kd val != qw k v a kd val)=false:=bne_self_eq_false _
  refine Dk (l₁:=[("branch",.obj j),("wanted",.obj x),("due",.obj ia),("words",.str (i9 k v a)),("kind",.int kd),("value",aI val)]) (.loc (by walk_at"mem") (.there ml (.there lN (.there rH (.there ny (.there ca .new)))))) ?_ m9 xS
  refine⟨H8,?_,Kp.refl⟩
  exact(Es.cons (IF (TC (au (EL S M1) (GI wg) F7 (AB (EL S M4) (EL S M5)) (hf1.cl)) (CG S uw FZ (AC (EL S M2) (EL S M4) (EL S M5)) (hf2.cl)) EK) Es.nil)
    Es.nil)
 case ev=>
 clear ha' hx6 hxd6 ha5 hxd4 hx4 hxd3 hx3 hxd hx hcm ha4 ha3 hi nb1 nb2 nb3 htx cn wk wa wv wn hr hg ha
 cases v with
 | none=>
  cases hlt:decide (kd < -2) with
  | true=>exact⟨[.int 0,.int 7,.int 1],[.none],B3 (c:=some 1) (zS none (fun _ h=>nomatch h)),(ak (Ev.list (AC ac ac (aj (k:=true) (TC (Ev.item (EL S M2) ac GT) ai bk) ac)) (bG rfl)) (aj (k:=true) (TC (EL S M4) (aK ac) bQ) (Ev.list (AA ai) (bG rfl))) (mQ (by walk_at"lk") (by walk_at"lk") (bG rfl)))⟩
  | false=>exact⟨[.int 0,.int 7,.int 1],[],B3 (c:=some 1) (fun _ h=>nomatch h),(ak (Ev.list (AC ac ac (aj (k:=true) (TC (Ev.item (EL S M2) ac GT) ai bk) ac)) (bG rfl)) (aj (k:=false) (TC (EL S M4) (aK ac) bQ) (Ev.list ap.nil (bG rfl))) (mQ (by walk_at"lk") (by walk_at"lk") (bG rfl)))⟩
 | some y=>
 cases hlt:decide (kd < -2) with
 | true=>exact⟨[.int 0,.int 7,.int y],[.none],B3 (c:=some y) (zS none (fun _ h=>nomatch h)),(ak (Ev.list (AC ac ac (aj (k:=false) (TC (Ev.item (EL S M2) ac GT) ai bk) (Ev.item (EL S M2) ac GT))) (bG rfl)) (aj (k:=true) (TC (EL S M4) (aK ac) bQ) (Ev.list (AA ai) (bG rfl))) (mQ (by walk_at"lk") (by walk_at"lk") (bG rfl)))⟩
 | false=>exact⟨[.int 0,.int 7,.int y],[],B3 (c:=some y) (fun _ h=>nomatch h),(ak (Ev.list (AC ac ac (aj (k:=false) (TC (Ev.item (EL S M2) ac GT) ai bk) (Ev.item (EL S M2) ac GT))) (bG rfl)) (aj (k:=false) (TC (EL S M4) (aK ac) bQ) (Ev.list ap.nil (bG rfl))) (mQ (by walk_at"lk") (by walk_at"lk") (bG rfl)))⟩
section
variable {G:cq}{dd d₁ t:Nat}{fn:bW}{ls ls' ls'' l':List (Str×V)}{H H' H₁ Hb:List O}{v f ov:V}{first:List V}{st:Stmt}{sts rest:List Stmt}{P:V→List O→Prop}{Q:List O→Prop}
theorem sG{o name apos a p rp}{R:V→List O→Prop}{pl:Env→Sem Bool}(ho:Ev G dd fn o ls H ov H)(hg:Gm G dd ov name H f first)(hk:ey G f)(h:∃ x H1,Ev G dd fn a ls H x H1∧R x H1)(hc:∀ x H1,R x H1→∃ v H',Cl G d₁ f (first++[x]) H1 v H'∧P v H')(hd:d₁<dd:=by decide)
  (he:∀ env,eval (.Call (.Attribute o name apos) [a] [] p) env=(do
   let ov←eval o env
   standAt apos.atName
   let (f,first)←holding [ov] (getMethod ov name (pl env))
   callWith p f first (backTo p (K7 [a] env)) (backToKw p (keywordEach [] env))):=by intro _;rfl) (he1:∀ env,K7 [a] env=(false,eval a env)::K7 [] env:=by intro _;rfl) :
  ∃ v H',Es G dd fn [.Return (some (.Call (.Attribute o name apos) [a] [] p)) rp] ls H (.ret v) [] H'∧P v H':=by
 obtain⟨x,H1,h1,r⟩:=h
 obtain⟨v,H',h2,p⟩:=hc x H1 r
 exact⟨v,H',Es.less (Es.ret (Ex.ret (au ho hg hk (ap.cons h1 ap.nil he1) h2 hd he))) (fun _ h=>nomatch h) V7,p⟩
theorem iJ:∀ (ks:List Int) (vs:List (Option Int)),c8 (ks.map V.int) (vs.map aI)=(ks.zip vs).map fun p=>hM.pair (.int p.1) (aI p.2)
 | [],vs=>by simp[c8]
 | k::ks,[]=>by simp[c8]
 | k::ks,v::vs=>by
  have:=iJ ks vs
  unfold c8 at this ⊢
  simp at this ⊢
  exact this
theorem D6{target elt:Expr}{kp vp:Nat}{ks:List Int}{vs:List (Option Int)}(res:Int→Option Int→Str)(L:Int→Option Int→List (Str×V))(hk:Hb[kp]?=some (.list (ks.map V.int)))(hv:Hb[vp]?=some (.list (vs.map aI)))
  (htn:∀ k v l h,(l=[]∨∃ k' v',l=L k' v')→Tn fn target (.pair (.int k) (aI v)) l h (L k v) (h++[.tup [.int k,aI v]]))
  (hel:∀ k v h,(k,v)∈ks.zip vs→Ev G dd fn elt (L k v) h (.str (res k v)) h) :
  ∃ ws H',Lc G dd fn target elt (fun h=>h[kp]?=some (.list (ks.map V.int))∧h[vp]?=some (.list (vs.map aI))) (c8 (ks.map V.int) (vs.map aI)) [] Hb ws H'∧(ws=((ks.zip vs).map fun p=>V.str (res p.1 p.2))∧Kp [] Hb H'):=by
 refine Fm (fun p:Int×Option Int=>hM.pair (.int p.1) (aI p.2)) (fun p=>L p.1 p.2) (fun d ws H'=>ws=(d.map fun p=>V.str (res p.1 p.2))∧Kp [] Hb H') (ks.zip vs) (iJ ks vs) (fun d ws H' h=>⟨h.2.get hk (by simp),h.2.get hv (by simp)⟩) ?_ ⟨rfl,Kp.refl⟩ (fun ws H' h=>h)
 rintro⟨k,v⟩ hm l H' d ws hl ⟨rfl,kp'⟩
 exact⟨_,_,_,htn k v l H' (hl.imp id fun⟨y,e⟩=>⟨y.1,y.2,e⟩),hel k v _ hm,by simp,kp'.trans Kp.app⟩
theorem rQ{target elt:Expr}{kp vp:Nat}{ks:List Int}{vs:List (Option Int)}{R:List V→List O→Prop}(res:Int→Option Int→Str)(L:Int→Option Int→List (Str×V))(hk:Hb[kp]?=some (.list (ks.map V.int)))(hv:Hb[vp]?=some (.list (vs.map aI)))
  (htn:∀ k v l h,(l=[]∨∃ k' v',l=L k' v')→Tn fn target (.pair (.int k) (aI v)) l h (L k v) (h++[.tup [.int k,aI v]]))
  (hel:∀ k v h,(k,v)∈ks.zip vs→Ev G dd fn elt (L k v) h (.str (res k v)) h) (fin:∀ H',Kp [] Hb H'→R ((ks.zip vs).map fun p=>V.str (res p.1 p.2)) H') :
  ∃ ws H',Lc G dd fn target elt (fun h=>h[kp]?=some (.list (ks.map V.int))∧h[vp]?=some (.list (vs.map aI))) (c8 (ks.map V.int) (vs.map aI)) [] Hb ws H'∧R ws H':=by
 obtain⟨ws,H',hc,rfl,k⟩:=D6 (G:=G) (dd:=dd) (target:=target) (elt:=elt) res L hk hv htn hel
 exact⟨_,H',hc,fin H' k⟩
end
noncomputable def f6(k:Int):Prop:=k∈[(-1:Int),-2,-16,-17]
noncomputable def mS(v:Option Int):Prop:=∀ x,v=some x→0≤x∧x<2 ^ 64
noncomputable def de(ks:List Int)(vs:List (Option Int)):List Str:=(ks.zip vs).map fun p=>fk p.1 p.2
noncomputable def yC(ks:List Int)(vs:List (Option Int)):Str:=if vs=[] then "nothing" else Txt.join ", " (de ks vs)
theorem pX{k:Int}{v:Option Int}(hk:f6 k)(hv:mS v):(fk k v).length≤2000:=by
 unfold fk
 cases v with
 | none=>show(J0 "null").length≤2000;decide
 | some x=>
 obtain⟨h0,h1⟩:=hv x rfl
 obtain⟨s1,_⟩:=j8 h0 h1
 have:=int_text_len_1921 s1
 have hk2:(im k).length≤9:=by
  unfold f6 at hk
  simp only[K2,J8,or_false] at hk
  rcases hk with rfl | rfl | rfl | rfl <;> decide
 show(im k++J0 " "++J0 (toString x)).length≤2000
 rw[Str.length_append,Str.length_append]
 have:(J0 " ").length=1:=rfl
 lia
theorem qq{ts:List Str}(hl:ts.length≤3)(h:∀ t∈ts,t.length≤2000):JoinOk ", " ts=true:=by
 have e:(J0 ", ").length=2:=rfl
 unfold JoinOk Builtin.Str.tooLong
 rw[Bool.not_eq_true',decide_eq_false_iff_not]
 rcases ts with _ | ⟨a,_ | ⟨b,_ | ⟨c,_ | ⟨d,r⟩⟩⟩⟩
 ·simp
 ·have:=h a (by simp);simp[e];have:=J9;lia
 ·have:=h a (by simp);have:=h b (by simp);simp[e];have:=J9;lia
 ·have:=h a (by simp);have:=h b (by simp);have:=h c (by simp);simp[e];have:=J9;lia
 simp at hl
theorem o6{H:List O}{kp vp:Nat}{ks:List Int}{vs:List (Option Int)}(hk:H[kp]?=some (.list (ks.map V.int)))(hv:H[vp]?=some (.list (vs.map aI)))(ok1:∀ k∈ks,f6 k)(ok2:∀ v∈vs,mS v)(hz:vs.length≤3)(hzk:ks.length≤3) :
  ∃ v H',Co GG 22 (.top 368) [.obj kp,.obj vp] H v H'∧v=.str (yC ks vs)∧Kp [] H H':=by
 have zl:(vs.map aI).length≤J5:=by rw[J9,K8];lia
 unfold yC
 refine' sI (args':=[.obj kp,.obj vp]) (ns:=[J0 "kinds",J0 "values"]) ?ho ?hcd ?hb ?hloc ?hk ?hco ?hgen ?hcell ?hS ?h
 case ho=>exact jj
 case hcd=>exact jk
 case hloc=>decide
 case hk=>rfl
 case hco=>rfl
 case hgen=>rfl
 case hcell=>decide
 case hS=>exact⟨by decide,by decide⟩
 case hb=>exact jZ
 case h=>
 intro S
 by_cases e:vs=[]
 ·have c0:(((vs.map aI).length:Int)==0)=true:=by rw[e];rfl
  refine d6 (Es.ret (IT (TC (CB S aM aN aA (AA (EL S M1)) (ar hv zl)) ac bF) (Es.ret (Ex.ret aa)))) ⟨by rw[if_pos e],Kp.refl⟩
 have c0:(((vs.map aI).length:Int)==0)=false:=by
  have:=List.length_pos_iff.mpr e
  rw[beq_eq_false_iff_ne,K8];lia
 rw[if_neg e]
 refine cv (IF (TC (CB S aM aN aA (AA (EL S M1)) (ar hv zl)) ac bF) Es.nil) ?_
 refine sG (d₁:=0) (R:=fun x H'=>∃ l,x=.obj l∧H'[l]?=some (.list ((de ks vs).map V.str))∧Kp [] H H') aa (Gm.str PySem.GM.join) trivial (Gz ⟨by decide,by decide⟩ (b8.none (by decide)) (by decide) rfl (by decide) (js.zip (d5 S qF qT kN (by walk_at"mem")) (Ev.loc S (.head _) (by walk_at"mem")) (Ev.loc S (.tail _ (.head _)) (by walk_at"mem")) hk hv) ?lc ?sz) ?fin
 case sz=>
  rw[iJ];simp;lia
 case lc=>
  intro S
  refine rQ fk (fun k v=>[("kind",V.int k),("value",aI v)]) hk hv ?tn ?el (fun H' k=>⟨_,rfl,by rw[show(de ks vs).map V.str=(ks.zip vs).map fun p=>V.str (fk p.1 p.2) from by simp[de]];exact aB,k.trans Kp.app⟩)
  case tn=>
   intro k v l h hl
   rcases hl with rfl | ⟨k',v',rfl⟩
   ·exact .pair (.cons (.loc (by walk_at"mem") .new) (.cons (.loc (by walk_at"mem") (.there ca .new)) .nil))
   exact .pair (.cons (.loc (by walk_at"mem") .here) (.cons (.loc (by walk_at"mem") (.there ca .here)) .nil))
  case el=>
  intro k v h hm
  have hm2:=List.of_mem_zip hm
  have hs:=jc (H:=h) (ok1 k hm2.1) (ok2 v hm2.2)
  exact(CG S sr Bo (AB (EL S M0) (EL S M1)) (hs.cl))
 case fin=>
 rintro x H1 ⟨l,rfl,hl,k⟩
 have hlen:(de ks vs).length≤3:=by simp[de];lia
 refine⟨_,_,Cl.join hl (qq hlen ?_),rfl,k⟩
 intro t ht
 obtain⟨p,hp,rfl⟩:=V9.mp ht
 have hm2:=List.of_mem_zip hp
 exact pX (ok1 _ hm2.1) (ok2 _ hm2.2)
inductive jo(H:List O)(v:V)(t:Th):Prop
 | mk0 (j:Nat) (p0:v=.obj j) (p1:H[j]?=some (.tup [.str (aq t.told),.str t.sort,.int t.value])):jo H v t
noncomputable def dw(H:List O):List V→List Th→Prop
 | [],[]=>True
 | v::vs,t::ts=>jo H v t∧dw H vs ts
 | _,_=>False
theorem dw.keep{I:List Nat}{m:Nat}{H H':List O}(hI:KI I m H)(k:Kp I H H'):∀ {vs:List V} {ts:List Th},dw H vs ts→dw H' vs ts
 | [],[],_=>trivial
 | _::_,_::_,⟨⟨j,e,h⟩,r⟩=>⟨⟨j,e,hI.tup k h⟩,dw.keep hI k r⟩
 | [],_::_,h=>h.elim
 | _::_,[],h=>h.elim
theorem dw.app{H:List O}:∀ {vs ws:List V} {ts us:List Th},dw H vs ts→dw H ws us→dw H (vs++ws) (ts++us)
 | [],_,[],_,_,h=>h
 | _::_,_,_::_,_,⟨a,b⟩,h=>⟨a,dw.app b h⟩
 | [],_,_::_,_,h,_=>h.elim
 | _::_,_,[],_,h,_=>h.elim
theorem dw.len{H:List O}:∀ {vs:List V} {ts:List Th},dw H vs ts→vs.length=ts.length
 | [],[],_=>rfl
 | _::_,_::_,⟨_,b⟩=>by simp[dw.len b]
 | [],_::_,h=>h.elim
 | _::_,[],h=>h.elim
theorem dw.at{H:List O}:∀ {vs:List V} {ts:List Th} {k:Nat} {t:Th},dw H vs ts→ts[k]?=some t→∃ v,vs[k]?=some v∧jo H v t
 | _::_,_::_,0,_,⟨a,_⟩,e=>by cases e;exact⟨_,rfl,a⟩
 | _::_,_::_,k+1,_,⟨_,b⟩,e=>dw.at (k:=k) b e
 | [],_::_,_,_,h,_=>h.elim
 | [],[],k,_,_,e=>by cases k <;> cases e
theorem jo.mk{H:List O}{j:Nat}{s:String}{sort:Str}{v:Int}(h:H[j]?=some (.tup [.str (J0 s),.str sort,.int v])):jo H (.obj j) ⟨cps s,sort,v⟩:=⟨j,rfl,by rw[dR];exact h⟩
theorem zU:tg.all (fun n=>decide (n.natAbs.log2<1920))=true:=by decide +kernel
theorem sW{H:List O}:∃ v H',Co GG 20 (.top 457) [] H v H'∧∃ l vs,v=.obj l∧Kp [] H H'∧H.length≤l∧H'[l]?=some (.list vs)∧dw H' vs ch:=by
 refine' sI (args':=[]) (ns:=[]) ?ho ?hcd ?hb ?hloc ?hk ?hco ?hgen ?hcell ?hS ?h
 case ho=>exact jj
 case hcd=>exact jk
 case hloc=>decide
 case hk=>rfl
 case hco=>rfl
 case hgen=>rfl
 case hcell=>decide
 case hS=>exact⟨by decide,by decide⟩
 case hb=>exact Hi
 case h=>
 intro S
 refine cv (NM S (Ev.list (ap.cons ac (ap.cons ac (ap.cons ac (ap.cons (ak ac ac (bM (by lia) (by lia) (by lia))) (ap.cons (ak (ak ac ac (bM (by lia) (by lia) (by lia))) ac cU) (ap.cons (ak ac ac (bM (by lia) (by lia) (by lia))) (ap.cons (ak ac ac (bM (by lia) (by lia) (by lia))) (ap.cons (ak (ak ac ac (bM (by lia) (by lia) (by lia))) ac cU) (ap.cons (ak ac ac (bM (by lia) (by lia) (by lia))) (ap.cons (aK ac) (ap.cons (aK (ak ac ac (bM (by lia) (by lia) (by lia)))) (ap.cons (ak (aK (ak ac ac (bM (by lia) (by lia) (by lia)))) ac cU) (ap.cons (aK (ak ac ac (bM (by lia) (by lia) (by lia)))) (ap.cons (ak (aK (ak ac ac (bM (by lia) (by lia) (by lia)))) ac cU) ap.nil (af rfl)) (af rfl)) (af rfl)) (af rfl)) (af rfl)) (af rfl)) (af rfl)) (af rfl)) (af rfl)) (af rfl)) (af rfl)) (af rfl)) (af rfl)) (af rfl)) (bG rfl))) ?_
 refine cN fun H1 e1=>?_
 have k1:Kp [] H H1:=by rw[e1];exact Kp.app
 have l1:H1.length=H.length+1:=by rw[e1];simp
 have hn:H1[H.length]?=some (.list (tg.map V.int)):=by rw[e1];exact aB
 clear e1
 refine gN S (R:=fun vs H'=>Kp [] H1 H'∧dw H' vs EX) (L':=fun n=>[("numbers",.obj H.length),("found",.obj n)]) ⟨by decide,by decide⟩ (b8.none (by decide)) (by decide) rfl (by decide) (js.list (Ev.loc S (.head _) (by walk_at"mem")) hn) ?lc (by simp[bT,tg]) ?st ?rest (hsw:=Gr)
 case st=>
  intro n h
  exact .loc (by walk_at"mem") (.there km .new)
 case lc=>
  intro S
  refine Fm (fun n:Int=>hM.one (.int n)) (fun n:Int=>[("number",V.int n)]) (fun d vs H'=>Kp [] H1 H'∧dw H' vs (d.map fun n=>⟨cps (toString n),"int",n⟩)) tg rfl (fun d vs H' h=>h.1.get hn J8) ?turn ⟨Kp.refl,trivial⟩ (fun vs H' h=>h)
  rintro n hm l H' d vs hl ⟨k,ha⟩
  have hlog:n.natAbs.log2<1920:=by simpa using W8.mp zU n hm
  refine⟨H',.obj H'.length,H'++[.tup [.str (J0 (toString n)),.str "int",.int n]],?tn,?el,k.trans Kp.app,?iv⟩
  case tn=>
   rcases hl with rfl | ⟨y,rfl⟩
   ·exact .one (.loc (by walk_at"mem") .new)
   exact .one (.loc (by walk_at"mem") .here)
  case el=>
   exact(Ev.tup (AC (CT S qG qU kO (AA (EL S M0)) (kT hlog)) aa (EL S M0)) (bG rfl))
  case iv=>
  rw[V0]
  refine dw.app (ha.keep (m:=0) KI.nil Kp.app) ⟨⟨H'.length,rfl,?_⟩,trivial⟩
  show _=some (O.tup [.str (aq (cps (toString n))),_,_])
  rw[dR]
  exact aB
 case rest=>
 rintro vs H2 ⟨k2,ha⟩
 have hl2:=ha.len
 refine cN fun H3 e3=>?_
 have k3:Kp [] H2 H3:=by rw[e3];exact Kp.app
 have l3:H3.length=H2.length+1:=by rw[e3];simp
 have hf:H3[H2.length]?=some (.list vs):=by rw[e3];exact aB
 clear e3
 have ha3:=ha.keep (m:=0) KI.nil k3
 have hvs:vs.length=14:=hl2
 have kk3:Kp [] H H3:=(k1.trans k2).trans k3
 have hle:H.length≤H2.length:=(k1.trans k2).1
 generalize eL:H2.length=L at *
 have x1:∀ (A:List O),Kp [] H3 A→A[L]?=some (.list vs):=fun A k=>k.get hf J8
 refine cv (Ex.expr (uD (EL S M1) (Gm.list PySem.F.slot_list_extend PySem.F.type_list_extend (by walk_at"lk")) trivial (ap.cons (Ev.tup (ap.cons aa (ap.cons aa (ap.cons ac ap.nil (af rfl)) (af rfl)) (af rfl)) (bG rfl)) (ap.cons (Ev.tup (ap.cons aa (ap.cons aa (ap.cons (ak ac ac (bM (by lia) (by lia) (by lia))) ap.nil (af rfl)) (af rfl)) (af rfl)) (bG rfl)) (ap.cons (Ev.tup (ap.cons aa (ap.cons aa (ap.cons ac ap.nil (af rfl)) (af rfl)) (af rfl)) (bG rfl)) (ap.cons (Ev.tup (ap.cons aa (ap.cons aa (ap.cons ac ap.nil (af rfl)) (af rfl)) (af rfl)) (bG rfl)) ap.nil (af rfl)) (af rfl)) (af rfl)) (af rfl)) (bG rfl) (Cl.extend (by walk_at"lk") aB (by simp) (by rw[J9];simp;lia) (by simp[hvs];decide)))) ?_
 refine cN fun H4 e4=>?_
 have hlL:=bC hf
 have k4:Kp [L] H3 H4:=by rw[e4];exact((((Kp.app.trans Kp.app).trans Kp.app).trans Kp.app).trans Kp.app).trans (Kp.set (.head _))
 have ki3:KI [L] (L+1) H3:=KI.one (Nat.lt_succ_self _) hf rfl
 have hB:∃ us,H4[L]?=some (.list (vs++us))∧dw H4 us EW:=by
  refine⟨[V.obj (H3).length,V.obj (H3++[O.tup [.str "+7",.str "int",.int 7]]).length,V.obj (H3++[O.tup [.str "+7",.str "int",.int 7]]++[O.tup [.str "+2147483648",.str "int",.int ((2:Int) ^ (31:Int).toNat)]]).length,V.obj (H3++[O.tup [.str "+7",.str "int",.int 7]]++[O.tup [.str "+2147483648",.str "int",.int ((2:Int) ^ (31:Int).toNat)]]++[O.tup [.str "0x_1",.str "reserved",.int 0]]).length],by rw[e4];exact cR (by walk_at"lt"),?_⟩
  exact⟨jo.mk (by rw[e4];walk_at"lk"),jo.mk (v:=(2:Int) ^ (31:Int).toNat) (by rw[e4];walk_at"lk"),jo.mk (by rw[e4];walk_at"lk"),jo.mk (by rw[e4];walk_at"lk"),trivial⟩
 obtain⟨us,hf4,hB4⟩:=hB
 have hA4:=ha3.keep ki3 k4
 have kk4:Kp [] H H4:=kk3.step k4 (by simp;lia)
 have hlu:us.length=4:=hB4.len
 clear e4
 have hlL4:=bC hf4
 refine cv (Ex.expr (uD (EL S M1) (Gm.list PySem.F.slot_list_extend PySem.F.type_list_extend (by walk_at"lk")) trivial (ap.cons (Ev.tup (ap.cons aa (ap.cons aa (ap.cons ac ap.nil (af rfl)) (af rfl)) (af rfl)) (bG rfl)) (ap.cons (Ev.tup (ap.cons aa (ap.cons aa (ap.cons ac ap.nil (af rfl)) (af rfl)) (af rfl)) (bG rfl)) (ap.cons (Ev.tup (ap.cons aa (ap.cons aa (ap.cons ac ap.nil (af rfl)) (af rfl)) (af rfl)) (bG rfl)) (ap.cons (Ev.tup (ap.cons aa (ap.cons aa (ap.cons ac ap.nil (af rfl)) (af rfl)) (af rfl)) (bG rfl)) (ap.cons (Ev.tup (ap.cons aa (ap.cons aa (ap.cons ac ap.nil (af rfl)) (af rfl)) (af rfl)) (bG rfl)) (ap.cons (Ev.tup (ap.cons aa (ap.cons aa (ap.cons ac ap.nil (af rfl)) (af rfl)) (af rfl)) (bG rfl)) ap.nil (af rfl)) (af rfl)) (af rfl)) (af rfl)) (af rfl)) (af rfl)) (bG rfl) (Cl.extend (by walk_at"lk") aB (by simp) (by rw[J9];simp;lia) (by simp[hvs,hlu];decide)))) ?_
 refine cN fun H5 e5=>?_
 have k5:Kp [L] H4 H5:=by rw[e5];exact((((((Kp.app.trans Kp.app).trans Kp.app).trans Kp.app).trans Kp.app).trans Kp.app).trans Kp.app).trans (Kp.set (.head _))
 have ki4:KI [L] (L+1) H4:=KI.one (Nat.lt_succ_self _) hf4 rfl
 have hC:∃ ws,H5[L]?=some (.list (vs++us++ws))∧dw H5 ws EV:=by
  refine⟨[V.obj (H4).length,V.obj (H4++[O.tup [.str "func",.str "word",.int 0]]).length,V.obj (H4++[O.tup [.str "func",.str "word",.int 0]]++[O.tup [.str "extern",.str "word",.int 0]]).length,V.obj (H4++[O.tup [.str "func",.str "word",.int 0]]++[O.tup [.str "extern",.str "word",.int 0]]++[O.tup [.str "any",.str "word",.int 0]]).length,V.obj (H4++[O.tup [.str "func",.str "word",.int 0]]++[O.tup [.str "extern",.str "word",.int 0]]++[O.tup [.str "any",.str "word",.int 0]]++[O.tup [.str "$x",.str "id",.int 0]]).length,V.obj (H4++[O.tup [.str "func",.str "word",.int 0]]++[O.tup [.str "extern",.str "word",.int 0]]++[O.tup [.str "any",.str "word",.int 0]]++[O.tup [.str "$x",.str "id",.int 0]]++[O.tup [.str "\"ab\"",.str "string",.int 0]]).length],by rw[e5];exact cR (by walk_at"lt"),?_⟩
  exact⟨jo.mk (by rw[e5];walk_at"lk"),jo.mk (by rw[e5];walk_at"lk"),jo.mk (by rw[e5];walk_at"lk"),jo.mk (by rw[e5];walk_at"lk"),jo.mk (by rw[e5];walk_at"lk"),jo.mk (by rw[e5];walk_at"lk"),trivial⟩
 obtain⟨ws,hf5,hC5⟩:=hC
 clear e5
 refine d6 (Es.ret (Ex.ret (EL S M1))) ⟨L,vs++us++ws,rfl,kk4.step k5 (by simp;lia),hle,hf5,?_⟩
 exact((hA4.keep ki4 k5).app (hB4.keep ki4 k5)).app hC5
theorem xT:[J0 "tape",J0 "text",J0 "begin",J0 "row",J0 "heads",J0 "column",J0 "things",J0 "head"].Nodup:=by decide +kernel
theorem dY{x:Int}{m:Int}(h:0<m):0≤x.fmod m∧x.fmod m<m:=⟨Int.fmod_nonneg_of_pos x h,Int.fmod_lt_of_pos x h⟩
theorem dO.app{H:List O}:∀ {vs ws:List V} {ts us:List LT},dO H vs ts→dO H ws us→dO H (vs++ws) (ts++us)
 | [],_,[],_,_,h=>h
 | _::_,_,_::_,_,⟨a,b⟩,h=>⟨a,dO.app b h⟩
 | [],_,_::_,_,h,_=>h.elim
 | _::_,_,[],_,h,_=>h.elim
theorem Az{k:Nat}(h:k<10):∃ hd,cY[k]?=some hd∧hd∈cY:=by
 have:k<cY.length:=h
 exact⟨cY[k],Y1 this,List.getElem_mem this⟩
theorem DR{k:Nat}(h:k<24):∃ t,ch[k]?=some t∧t∈ch:=by
 have e:ch.length=24:=by decide +kernel
 have:k<ch.length:=by lia
 exact⟨ch[k],Y1 this,List.getElem_mem this⟩
noncomputable def FL(ths:List Th):List Nat:=ths.flatMap fun t=>32::t.told
theorem Bv{ths:List Th}(h:∀ t∈ths,t∈ch)(hl:ths.length≤2):(FL ths).length≤62:=J7 (vG fun t ht=>(jb (h t ht)).len) (Nat.mul_le_mul_left 31 hl)
theorem tn{y:Int}{k:Nat}(h:y<(k:Int))(hk:0<k:=by decide):y.toNat<k:=by lia
theorem BW{y m:Int}(h:y<m)(hm:m≤1000:=by decide):y<2 ^ 63:=Int.lt_of_lt_of_le h (Int.le_trans hm (by decide))
theorem GW{k:Nat}(h:k<3):k=0∨k=1∨k=2:=by lia
theorem qx{α:Type}(l:List α):l.dropLast.length≤l.length:=by rw[List.length_dropLast];exact Nat.sub_le _ 1
theorem Hf{y:Int}(h:0≤y∧y<3):1≤(1+y).toNat∧(1+y).toNat≤3:=by lia
theorem GX{R C:V→List O→Prop}(k:∀ P:V→List O→Prop,(∀ v H',R v H'→P v H')→∃ v H',C v H'∧P v H'):∃ v H',C v H'∧R v H':=k R fun _ _ h=>h
inductive G7(tp:Nat)(cs:List Nat)(ns:List Int)(H:List O)(v:V)(H':List O):Prop
 | mk (a b:Nat) (h:List Nat) (ths:List Th) (ns':List Int) (r bt:Nat) (e:v=.obj r) (a1:1≤a) (a3:a≤3) (b3:b≤3) (hh:h∈cY) (ht:∀ t∈ths,t∈ch) (hl:ths.length≤2) (k:Kp [tp] H H') (t:H'[tp]?=some (.list (ns'.map V.int))) (hz:ns'.length≤ns.length)
  (g:H'[r]?=some (.tup [.str (aq (cs++(List.replicate a 10++List.replicate b 32++aE (wV h ths)))),.obj bt])) (B:sA H.length H' bt (z5 h ths (1+cnt 10 cs+a) ((b:Int)+1))):G7 tp cs ns H v H'
theorem ud{H:List O}{tp:Nat}{cs:List Nat}{ns:List Int}(hT:H[tp]?=some (.list (ns.map V.int)))(hz:ns.length≤100)(hl:cs.length≤600) :
  ∃ v H',Co GG 22 (.top 464) [.obj tp,.str (aq cs)] H v H'∧G7 tp cs ns H v H':=by
 refine GX fun P hP=>?_
 have hlt:=bC hT
 obtain⟨Ha,ha,ka,ta⟩:=eY hT (J7 hz (by decide))
 obtain⟨Hb,hb,kb,tb⟩:=eY ta (J7 (qx ns) (J7 hz (by decide)))
 generalize ns.getLastD 0=x1 at ha
 generalize ns.dropLast.getLastD 0=x2 at hb
 have f1:=dY (x:=x1) (m:=3) (by decide)
 have f2:=dY (x:=x2) (m:=4) (by decide)
 obtain⟨a,ea⟩:∃ a:Nat,(1+x1.fmod 3).toNat=a:=⟨_,rfl⟩
 obtain⟨b,eb⟩:∃ b:Nat,(x2.fmod 4).toNat=b:=⟨_,rfl⟩
 have a1:1≤a∧a≤3:=ea▸Hf f1
 have b1:b≤3:=eb▸Nat.le_of_lt_succ (tn (k:=4) f2.2)
 obtain⟨ns2,en2⟩:∃ l,ns.dropLast.dropLast=l:=⟨_,rfl⟩
 have hns2:ns2.length≤ns.length:=by rw[←en2];exact J7 (qx _) (qx _)
 rw[en2] at tb
 obtain⟨cs1,ecs1⟩:∃ l,cs++List.replicate a 10++List.replicate b 32=l:=⟨_,rfl⟩
 have hl1:cs1.length=cs.length+a+b:=by rw[←ecs1,V6,V6,List.length_replicate,List.length_replicate]
 have hcs1:cs1.length≤606:=hl1▸Y0 (Y0 hl a1.2) b1
 have et:aq cs++Txt.mul (J0 "\n") (1+x1.fmod 3)++Txt.mul (J0 " ") (x2.fmod 4)=aq cs1:=by
  rw[q7,xB,jJ,jJ,ea,eb,← eB,← eB,ecs1]
 have m1:MulOk (J0 "\n") (1+x1.fmod 3):=by rw[q7];exact qj (Int.add_nonneg (by decide) f1.1) (Int.le_trans (Int.add_le_add_left (Int.le_of_lt f1.2) 1) (by decide))
 have m2:MulOk (J0 " ") (x2.fmod 4):=by rw[xB];exact qj f2.1 (Int.le_trans (Int.le_of_lt f2.2) (by decide))
 have z1:(aq cs).length+(Txt.mul (J0 "\n") (1+x1.fmod 3)).length≤J5:=by rw[q7,jJ,ea,az,az,List.length_replicate];exact cQ (J7 (Y0 hl a1.2) (by decide))
 have z2:(aq cs++Txt.mul (J0 "\n") (1+x1.fmod 3)).length+(Txt.mul (J0 " ") (x2.fmod 4)).length≤J5:=by rw[q7,xB,jJ,jJ,ea,eb,← eB,az,az,V6,List.length_replicate,List.length_replicate];exact cQ (J7 (Y0 (Y0 hl a1.2) b1) (by decide))
 have kab:Kp [tp] H Hb:=ka.trans kb
 refine' sI (args':=[.obj tp,.str (aq cs)]) (ns:=[J0 "tape",J0 "text"]) ?ho ?hcd ?hb ?hloc ?hk ?hco ?hgen ?hcell ?hS ?h
 case ho=>exact jj
 case hcd=>exact jk
 case hloc=>decide
 case hk=>rfl
 case hco=>rfl
 case hgen=>rfl
 case hcell=>decide
 case hS=>exact⟨by decide,by decide⟩
 case hb=>exact jZ
 case h=>
 intro S
 refine cv (ls':=[("tape",.obj tp),("text",.str (aq cs1))]) (H₁:=Hb) ?s1 ?rest
 case s1=>
  rw[←et]
  exact(NM S (ak (ak (EL S M1) (ak aa (ak ac (ak (CG S bc fG (AA (EL S M0)) (ha.cl)) ac (cB (by lia))) dq) (xg (by assumption))) (bS (by assumption))) (ak aa (ak (CG S bc fG (AA (EL S M0)) (hb.cl)) ac (cB (by lia))) (xg (by assumption))) (bS (by assumption))))
 case rest=>
 clear et m1 m2 z1 z2 f1 f2 ea eb ha hb hT
 obtain⟨rw',erw⟩:∃ r:Int,1+cnt 10 cs1=r:=⟨_,rfl⟩
 obtain⟨bg,ebg⟩:∃ r:Int,(cs.length:Int)+a-1=r:=⟨_,rfl⟩
 have hrw:rw'=1+cnt 10 cs+a:=by
  rw[←erw,← ecs1,cnt_append,cnt_append,ua,oD (l:=List.replicate b 32) (by simp)];lia
 have hcnt:Txt.count (aq cs1) (J0 "\n")=cnt 10 cs1:=AM
 have hrf:∀ {H:List O},Cl GG 0 (.bi "str.rfind") [.str (aq cs1),.str "\n"] H (.int bg) H:=by
  intro H
  have e:Txt.rfind (aq cs1) (J0 "\n")=bg:=by
   obtain⟨a',rfl⟩:∃ a',a=a'+1:=⟨a-1,by lia⟩
   have e2:cs1=(cs++List.replicate a' 10)++10::List.replicate b 32:=by
    rw[←ecs1,List.replicate_succ'];simp
   rw[e2,zJ (by simp),← ebg];simp;lia
  rw[←e];exact Cl.rfind
 have zl:(aq cs1).length≤J5:=by rw[az];exact cQ (J7 hcs1 (by decide))
 have ehd:[V.str "i32.const",V.str "i64.const",V.str "ref.null",V.str "ref.extern",V.str "ref.func",V.str "f32.const",V.str "f64.const",V.str "v128.const",V.str "i32.add",V.str "\"s\""]=cY.map fun h=>V.str (aq h):=by kernel_rfl
 refine cv (iH S (ap.cons (ak ac (au (EL S M1) (Gm.str PySem.GM.count) trivial (ap.cons aa ap.nil (af rfl)) (Cl.count hcnt)) dq) (ap.cons (au (EL S M1) (Gm.str PySem.GM.rfind) trivial (ap.cons aa ap.nil (af rfl)) (hrf)) ap.nil (af rfl)) (af rfl)) (.cons (SL (hst:=(.there (po) (.there (pi) .new)))) (.cons (SL (hst:=(.there (tr) (.there (fR) (.there (rI) .new))))) .nil)) (hw:=SW)) ?_
 refine qQ S (ap.cons aa (ap.cons aa (ap.cons aa (ap.cons aa (ap.cons aa (ap.cons aa (ap.cons aa (ap.cons aa (ap.cons aa (ap.cons aa ap.nil (af rfl)) (af rfl)) (af rfl)) (af rfl)) (af rfl)) (af rfl)) (af rfl)) (af rfl)) (af rfl)) (af rfl)) (bG rfl) (by walk_at"mem") (.there (pj) (.there (ph) (.there (n7) (.there (rB) .new)))) ?_
 refine cN fun H2 e2=>?_
 rw[erw,ehd] at e2
 rw[erw]
 have k2:Kp [] Hb H2:=by rw[e2];exact Kp.app.trans Kp.app
 have hh2:∃ hx,H2[hx]?=some (.list (cY.map fun h=>V.str (aq h)))∧hx=(Hb++[O.tup [V.int rw',V.int bg]]).length:=⟨_,by rw[e2];exact aB,rfl⟩
 obtain⟨hx,hh2,ehx⟩:=hh2
 rw[←ehx]
 clear e2 ehx
 have t2:=k2.get tb (by simp)
 have hhne:hx≠tp:=fun e=>by
  rw[e,t2] at hh2
  injection (Option.some.inj hh2) with hh2
  have e4:=congrArg List.head? hh2
  cases ns2 <;> cases e4
 obtain⟨H3,h3,k3,t3⟩:=eY t2 (by lia)
 generalize ns2.getLastD 0=x3 at h3
 obtain⟨ns3,en3⟩:∃ l,ns2.dropLast=l:=⟨_,rfl⟩
 have hns3:ns3.length≤ns.length:=by rw[←en3];exact J7 (qx _) hns2
 rw[en3] at t3
 have f3:=dY (x:=x3) (m:=10) (by decide)
 obtain⟨h,eh,hmem⟩:=Az (k:=(x3.fmod 10).toNat) (tn (k:=10) f3.2)
 have ghead:(cY.map fun h=>V.str (aq h))[(x3.fmod 10).toNat]?=some (.str (aq h)):=by rw[List.getElem?_map,eh];rfl
 have hh3:=k3.get hh2 (by simpa using hhne)
 have oh:=AD hmem
 have zB:∀ ths:List Th,(FL ths).length≤62→(cs1++40::(h++FL ths)).length≤700:=fun ths hF=>by
  rw[V6,List.length_cons,V6]
  exact J7 (Y0 hcs1 (Nat.succ_le_succ (Y0 oh.len hF))) (by decide)
 have ecol:((aq cs1).length:Int)-bg=(b:Int)+1:=by rw[az,hl1,← ebg];lia
 have zt1:(aq cs1).length+(J0 "(").length≤J5:=by rw[az];exact cQ (J7 (Y0 hcs1 (Nat.le_refl 1)) (by decide))
 have zt2:(aq cs1++J0 "(").length+(aq h).length≤J5:=by
  rw[DU,← eB,az,az,V6];exact cQ (J7 (Y0 (Y0 hcs1 (Nat.le_refl 1)) oh.len) (by decide))
 have etx:aq cs1++J0 "("++aq h=aq (cs1++40::(h++FL [])):=by rw[DU,← eB,← eB];simp[FL]
 refine cv (oW S (AC (Ev.item (EL S M4) (ak (CG S bc fG (AA (EL S M0)) (h3.cl)) ac (cB (by lia))) (bE.list hh3 f3.1 (BW f3.2) ghead)) (Ev.list ap.nil (by simp)) (ak (CB S aM aN aA (AA (EL S M1)) (ez zl)) (EL S M2) cU)) (.cons (SL (hst:=(.there (nM) (.there (dh) (.there (mt) (.there (b9) (.there (md) .new))))))) (.cons (SL (hst:=(.there (nK) (.there (nH) (.there (mq) (.there (pv) (.there (mc) (.there (kn) .new)))))))) (.cons (SL (hst:=(.there (ru) (.there (rt) (.there (pH) (.there (tC) (.there (pD) (.there (n0) (.there (nF) .new))))))))) .nil))) (hw:=SW)) ?_
 refine cv (NM S (ak (ak (EL S M1) aa (bS (by assumption))) (EL S M7) (bS (by assumption)))) ?_
 rw[ecol,etx]
 refine cN fun H4 e4=>?_
 have k4:Kp [] H3 H4:=by rw[e4];exact Kp.app.trans Kp.app
 have hT4:H4[H3.length]?=some (.list []):=by rw[e4];exact g8 aB
 have hT3:H.length≤H3.length:=((kab.trans (k2.sub (by simp))).trans k3).1
 generalize eT:H3.length=T at *
 clear e4
 have t4:=k4.get t3 (by simp)
 have hTtp:T≠tp:=by have:=bC t3;lia
 have kk4:Kp [tp] H H4:=((kab.trans (k2.sub (by simp))).trans k3).trans (k4.sub (by simp))
 have k4':Kp [tp] (H4++[O.list [.int 1,.int 0,.int 2]]) (H4++[O.list [.int 1,.int 0,.int 2]]):=Kp.refl
 obtain⟨H5,h5,k5,t5⟩:=eY (H:=H4++[O.list [.int 1,.int 0,.int 2]]) (g8 t4) (by lia)
 generalize ns3.getLastD 0=x4 at h5
 obtain⟨ns5,en5⟩:∃ l,ns3.dropLast=l:=⟨_,rfl⟩
 have hns5:ns5.length≤ns.length:=by rw[←en5];exact J7 (qx _) hns3
 rw[en5] at t5
 have f5:=dY (x:=x4) (m:=3) (by decide)
 have hn:∃ n:Nat,n≤2∧[V.int 1,V.int 0,V.int 2][(x4.fmod 3).toNat]?=some (.int (n:Int)):=by
  have:=GW (tn (k:=3) f5.2)
  rcases this with e | e | e <;> rw[e]
  ·exact⟨1,by lia,rfl⟩
  ·exact⟨0,by lia,rfl⟩
  exact⟨2,by lia,rfl⟩
 obtain⟨n,hn2,gn⟩:=hn
 have hrg:Builtin.Range.small 0 n 1=true∧Builtin.Range.rangeSize 0 n 1=n:=by
  have:=GW (Nat.lt_succ_of_le hn2)
  rcases this with e | e | e <;> rw[e] <;> exact⟨rfl,rfl⟩
 have hl5:H5[H4.length]?=some (.list [.int 1,.int 0,.int 2]):=k5.get aB (by have:=bC t4;simp;lia)
 have k45:Kp [tp] H4 H5:=Kp.app.trans k5
 have hT5:=k45.get hT4 (by simpa using hTtp)
 obtain⟨c0,ec0⟩:∃ c:Int,(b:Int)+1+1+(h.length:Nat)=c:=⟨_,rfl⟩
 have hlV:(df n).length=n:=by simp[df]
 refine C7 (H₁:=H5) S (x:=J0 "k") (xs:=df n) (fun ths=>[("tape",.obj tp),("text",.str (aq (cs1++40::(h++FL ths)))),("begin",.int bg),("row",.int rw'),("heads",.obj hx),("column",.int ((b:Int)+1)),("things",.obj T),("head",.str (aq h))]) (fun ths H'=>Kp [tp,T] H4 H'∧(∃ ns':List Int,H'[tp]?=some (.list (ns'.map V.int))∧ns'.length≤ns.length)∧(∃ vs:List V,H'[T]?=some (.list vs)∧dO H' vs (qk ths c0))∧(∀ t∈ths,t∈ch)) List.length [] (Io.range (d5 S jT j6 iE (by walk_at"mem")) ?arg hrg.1 hrg.2) ?h0 (fun _ _ _=>trivial) rfl ?turn ?ret
 case arg=>
  exact(Ev.item (Ev.list (AC ac ac ac) (bG rfl)) (ak (CG S bc fG (AA (EL S M0)) (h5.cl)) ac (cB (by lia))) (bE.list hl5 f5.1 (BW f5.2) gn))
 case h0=>exact⟨k45.sub (by simp),⟨ns5,t5,hns5⟩,⟨[],hT5,trivial⟩,fun t ht=>nomatch ht⟩
 case turn=>
  rintro k ths H6 ⟨k6,⟨ns6,t6,hns6⟩,⟨vs,v6,l6⟩,hth⟩ hlt6
  have hths:ths.length≤1:=by lia
  have hFL:=Bv hth (by lia)
  have hvs:vs.length=ths.length:=by rw[l6.len,rM]
  refine GV (a:=[]) (l₁:=[("tape",.obj tp),("text",.str (aq (cs1++40::(h++FL ths)))),("begin",.int bg),("row",.int rw'),("heads",.obj hx),("column",.int ((b:Int)+1)),("things",.obj T),("head",.str (aq h)),("k",k)]) (.loc (by walk_at"mem") (.there xP (.there qh (.there vn (.there zZ (.there vm (.there tG (.there tj (.there xQ .new))))))))) ?_
  obtain⟨vt,H7,h7,l,us,rfl,k7,hle7,hus,hTs⟩:=sW (H:=H6)
  have hul:us.length=24:=by rw[hTs.len];decide +kernel
  have t7:=k7.get t6 (by simp)
  obtain⟨H8,h8,k8,t8⟩:=eY t7 (by lia)
  generalize ns6.getLastD 0=x8 at h8
  have hu8:(us.length:Int)=24:=congrArg Nat.cast hul
  have f8:=dY (x:=x8) (m:=(us.length:Int)) (by rw[hu8];decide)
  obtain⟨t,et,htm⟩:=DR (k:=(x8.fmod (us.length:Int)).toNat) (hul▸tn f8.2 (by rw[hul];decide))
  obtain⟨vt,evt,j,rfl,hj⟩:=hTs.at et
  have htp6:=bC t6
  have hus8:=k8.get hus (by simp;lia)
  have ki7:KI [tp] (tp+1) H7:=KI.one (by lia) t7 rfl
  have hj8:=ki7.tup k8 hj
  have v8:=k8.get (k7.get v6 (by simp)) (by simpa using hTtp)
  have l8:dO H8 vs (qk ths c0):=(l6.keep (m:=0) KI.nil k7).keep ki7 k8
  have zul:us.length≤J5:=by rw[hul];decide
  have zb:=zB ths hFL
  have zt:(aq (cs1++40::(h++FL ths))).length≤J5:=by rw[az];exact cQ (J7 zb (by decide))
  have zv:vs.length≤J5:=by rw[hvs];exact cQ (J7 hths (by decide))
  have ot:=jb htm
  have zt3:(aq (cs1++40::(h++FL ths))).length+(J0 " ").length≤J5:=by rw[az];exact cQ (J7 (Y0 zb (Nat.le_refl 1)) (by decide))
  have zt4:(aq (cs1++40::(h++FL ths))++J0 " ").length+(aq t.told).length≤J5:=by
   rw[xB,← eB,az,az,V6];exact cQ (J7 (Y0 (Y0 zb (Nat.le_refl 1)) ot.len) (by decide))
  have etx2:aq (cs1++40::(h++FL ths))++J0 " "++aq t.told=aq (cs1++40::(h++FL (ths++[t]))):=by rw[xB,← eB,← eB];simp[FL]
  have epl:((aq (cs1++40::(h++FL ths))).length:Int)+1-bg=oz ths c0+1:=by
   rw[tR,az,← ebg,← ec0];show _=_+(((FL ths).length:Nat):Int)+1;simp;lia
  have hTH8:=bC v8
  refine j3 (NM S (CG S pR F3 ap.nil (h7.cl))) ?_
  refine j3 (Ex.tuple S (Ev.item (EL S M9) (ak (CG S bc fG (AA (EL S M0)) (h8.cl)) (CB S aM aN aA (AA (EL S M9)) (ar hus8 zul)) (cB (by lia))) (bE.list hus8 f8.1 (BW f8.2 (by rw[hu8];decide)) evt)) (by walk_at"lk") (.cons SL (.cons SL (.cons SL .nil)))) ?_
  refine j3 (Ex.expr (au (EL S M6) (Gm.append (by walk_at"lk")) trivial (AA (Ev.tup (ap.cons (EL S sP) (ap.cons (EL S G1) (ap.cons (EL S Hg) (ap.cons (ak (ak (CB S aM aN aA (AA (EL S M1)) (ez zt)) ac dq) (EL S M2) cU) ap.nil)))) (bG rfl))) (Cl.append (by walk_at"lk") zv))) ?_
  refine BB fun H9 e9=>?_
  rw[epl] at e9
  have k9:Kp [T] H8 H9:=by rw[e9];exact Kp.app.trans (Kp.set (by simp))
  have v9:H9[T]?=some (.list (vs++[.obj H8.length])):=by rw[e9];exact cR (by walk_at"lt")
  have w9:H9[H8.length]?=some (.tup [.str (aq t.told),.str t.sort,.int t.value,.int (oz ths c0+1)]):=by rw[e9];exact wN (by lia) aB
  clear e9
  have ki8:KI [T] (T+1) H8:=KI.one (by lia) v8 rfl
  refine uG (ths++[t]) (l':=[("tape",.obj tp),("text",.str (aq (cs1++40::(h++FL ths))++J0 " "++aq t.told)),("begin",.int bg),("row",.int rw'),("heads",.obj hx),("column",.int ((b:Int)+1)),("things",.obj T),("head",.str (aq h))]) (Es.cons (NM S (ak (ak (EL S M1) aa (bS (by assumption))) (EL S sP) (bS (by assumption))))
  Es.nil) (by rw[etx2]) m9 xT ⟨⟨((k6.trans (k7.sub (by simp))).trans (k8.sub (by simp))).trans (k9.sub (by simp)),⟨ns6.dropLast,k9.get t8 (by simpa using Ne.symm hTtp),by simp;lia⟩,⟨_,v9,?_⟩,?_⟩,by simp⟩
  ·rw[wJ]
   exact dO.app (l8.keep ki8 k9) ⟨⟨_,rfl,w9⟩,trivial⟩
  intro x hx
  rcases Q1.mp hx with hx | hx
  ·exact hth x hx
  rw[J6.mp hx];exact htm
 case ret=>
 rintro ths H6 ⟨k6,⟨ns6,t6,hns6⟩,⟨vs,v6,l6⟩,hth⟩ hsz
 have hths:ths.length≤2:=by lia
 have hFL:=Bv hth hths
 have zt:(aq (cs1++40::(h++FL ths))).length+(J0 ")").length≤J5:=by rw[az];exact cQ (J7 (Y0 (zB ths hFL) (Nat.le_refl 1)) (by decide))
 have eF:aq (cs1++40::(h++FL ths))++J0 ")" = aq (cs++(List.replicate a 10++List.replicate b 32++aE (wV h ths))):=by
  rw[E9,← eB,← ecs1,kG hth];simp[FL]
 have kk6:Kp [tp] H H6:=kk4.step k6 (by simp;lia)
 have fin:∀ (nm:Str),rJ h=nm→(nm=nm)→sA H.length (H6++[O.tup [.str nm,.obj T,.int rw',.int ((b:Int)+1)]]++[O.tup [.str (aq (cs1++40::(h++FL ths))++J0 ")"),.obj H6.length]]) H6.length (z5 h ths (1+cnt 10 cs+a) ((b:Int)+1)):=by
  intro nm en _
  have kf:Kp [] H6 (H6++[O.tup [.str nm,.obj T,.int rw',.int ((b:Int)+1)]]++[O.tup [.str (aq (cs1++40::(h++FL ths))++J0 ")"),.obj H6.length]]):=Kp.app.trans Kp.app
  refine⟨T,vs,hT3,?_,kf.get v6 (by simp),?_⟩
  ·show _=some (O.tup [.str (rJ h),_,_,_])
   rw[en,← hrw]
   exact g8 aB
  show dO _ vs (qk ths ((b:Int)+1+1+(h.length:Nat)))
  rw[ec0]
  exact l6.keep (m:=0) KI.nil kf
 by_cases es:h=cps "\"s\""
 ·have cn:(aq h==(J0 "\"s\""))=true:=by rw[es];kernel_rfl
  refine d6 (Es.ret (Ex.ret (Ev.tup (AB (ak (EL S M1) aa (bS (by assumption))) (Ev.tup (ap.cons (aj (k:=true) (TC (EL S M7) aa ae) aa) (ap.cons (EL S M6) (ap.cons (EL S M3) (ap.cons (EL S M5) ap.nil)))) (bG rfl))) (bG rfl)))) (hP _ _ ⟨a,b,h,ths,ns6,_,H6.length,rfl,a1.1,a1.2,b1,hmem,hth,hths,kk6.trans (Kp.app.trans Kp.app),g8 (g8 t6),hns6,by rw[←eF];exact aB,fin _ ((if_pos es)) rfl⟩)
 have cn:(aq h==(J0 "\"s\""))=false:=by rw[←dR,dE];simpa using es
 refine d6 (Es.ret (Ex.ret (Ev.tup (AB (ak (EL S M1) aa (bS (by assumption))) (Ev.tup (ap.cons (aj (k:=false) (TC (EL S M7) aa ae) (EL S M7)) (ap.cons (EL S M6) (ap.cons (EL S M3) (ap.cons (EL S M5) ap.nil)))) (bG rfl))) (bG rfl)))) (hP _ _ ⟨a,b,h,ths,ns6,_,H6.length,rfl,a1.1,a1.2,b1,hmem,hth,hths,kk6.trans (Kp.app.trans Kp.app),g8 (g8 t6),hns6,by rw[←eF];exact aB,fin _ ((if_neg es)) rfl⟩)
noncomputable abbrev qL:Str:="law"++".<locals>."++"<lambda>"
structure E0(T:Nat)(H:List O):Prop where
 t0:bX 0 Dm H
 t1:bX 1 qL H
 cT:H[2]?=some (.cell (some (.obj T)))
 c3:∃ w,H[3]?=some (.cell w)
 c4:∃ w,H[4]?=some (.cell w)
 c5:∃ w,H[5]?=some (.cell w)
 c6:∃ w,H[6]?=some (.cell w)
 hT:6<T
 tp:∃ ns:List Int,H[T]?=some (.list (ns.map V.int))∧ns.length≤63
section
variable {T:Nat}{H H':List O}
theorem E0.lT(e:E0 T H):T<H.length:=e.tp.elim fun _ h=>bC h.1
theorem E0.kiT(e:E0 T H):KI [T] (T+1) H:=e.tp.elim fun _ h=>KI.one (Nat.lt_succ_self T) h.1 rfl
theorem E0.mv(e:E0 T H){I:List Nat}(k:Kp I H H')(n:∀ i,2≤i→i<7→i∉I)(t0:bX 0 Dm H')(t1:bX 1 qL H')(tp:∃ ns:List Int,H'[T]?=some (.list (ns.map V.int))∧ns.length≤63):E0 T H':=
 ⟨t0,t1,k.get e.cT (n 2 (by decide) (by decide)),e.c3.imp fun _ h=>k.get h (n 3 (by decide) (by decide)),e.c4.imp fun _ h=>k.get h (n 4 (by decide) (by decide)),e.c5.imp fun _ h=>k.get h (n 5 (by decide) (by decide)),e.c6.imp fun _ h=>k.get h (n 6 (by decide) (by decide)),e.hT,tp⟩
theorem E0.k0(e:E0 T H)(k:Kp [] H H'):E0 T H':=
 e.mv k (fun _ _ _=>J8) (e.t0.keep0 k) (e.t1.keep0 k) (e.tp.imp fun _ h=>⟨k.get h.1 J8,h.2⟩)
theorem E0.lo(e:E0 T H){i:Nat}(h:i<7):i<T:=Nat.lt_of_lt_of_le h e.hT
theorem E0.next(e:E0 T H)(k:Kp [T] H H'){ns:List Int}(h:H'[T]?=some (.list (ns.map V.int)))(hz:ns.length≤63):E0 T H':=
 e.mv k (fun _ _ h=>ef (W3 (e.lo h))) (e.t0.keep e.kiT k (ef (W3 (e.lo (by decide))))) (e.t1.keep e.kiT k (ef (W3 (e.lo (by decide))))) ⟨ns,h,hz⟩
inductive GZ(T:Nat)(H:List O):Prop
 | mk (x:Int) (H':List O) (h:Co GG 10 (.top 452) [.obj T] H (.int x) H') (k:Kp [T] H H') (E:E0 T H'):GZ T H
theorem E0.nx(e:E0 T H):GZ T H:=by
 obtain⟨ns,h,z⟩:=e.tp
 obtain⟨H',a,k,t⟩:=eY h (J7 z (by decide))
 exact⟨_,H',a,k,e.next k t (J7 (qx _) z)⟩
theorem q0{j:Nat}(h:∃ w,H[j]?=some (O.cell w)):KI [j] (j+1) H:=h.elim fun _ h=>KI.one (Nat.lt_succ_self j) h rfl
theorem E0.up(e:E0 T H){i:Nat}(h:i<7)(k:KI [i] (i+1) H):KI [i] (T+1) H:=k.up (Nat.succ_le_succ (Nat.le_of_lt (e.lo h)))
theorem E0.ki0(e:E0 T H):KI [0] (T+1) H:=e.up (by decide) (e.t0.elim fun _ h=>KI.one (Nat.lt_succ_self 0) h.1 rfl)
theorem E0.ki1(e:E0 T H):KI [1] (T+1) H:=e.up (by decide) (e.t1.elim fun _ h=>KI.one (Nat.lt_succ_self 1) h.1 rfl)
theorem E0.cell(e:E0 T H){i:Nat}(h3:3≤i)(h6:i<7)(hc:∃ w,H[i]?=some (O.cell w)){v:V}:E0 T (H.set i (O.cell (some v))):=by
 have k:Kp [i] H (H.set i (O.cell (some v))):=Kp.set (.head _)
 have lt:∀ {j},j<3→j∉[i]:=fun h=>ef (W3 (Nat.lt_of_lt_of_le h h3))
 have ki:=q0 hc
 have c:∀ {j:Nat},(∃ w,H[j]?=some (O.cell w))→∃ w,(H.set i (O.cell (some v)))[j]?=some (O.cell w):=fun {j} h=>h.elim fun w h=>by
  by_cases e:i=j
  ·rw[←e];rw[←e] at h;exact⟨_,cR (bC h)⟩
  exact⟨w,AH e h⟩
 exact⟨e.t0.keep ki k (lt (by decide)),e.t1.keep ki k (lt (by decide)),k.get e.cT (lt (by decide)),c e.c3,c e.c4,c e.c5,c e.c6,e.hT,e.tp.imp fun _ h=>⟨k.get h.1 (ef (W5 (e.lo h6))),h.2⟩⟩
theorem E0.tab1(e:E0 T H)(k:Kp [1] H H')(t:bX 1 qL H'):E0 T H':=
 e.mv k (fun _ h _=>ef (W5 h)) (e.t0.keep e.ki1 k (ef (by decide))) t (e.tp.imp fun _ h=>⟨k.get h.1 (ef (W5 (e.lo (by decide)))),h.2⟩)
theorem E0.tab0(e:E0 T H)(k:Kp [0] H H')(t:bX 0 Dm H'):E0 T H':=
 e.mv k (fun _ h _=>ef (W5 (Nat.lt_of_succ_lt h))) t (e.t1.keep e.ki0 k (ef (by decide))) (e.tp.imp fun _ h=>⟨k.get h.1 (ef (W5 (e.lo (by decide)))),h.2⟩)
end
theorem E0.hi{T B:Nat}{H H':List O}{xs:List V}(e:E0 T H)(hB:T<B)(hb:H[B]?=some (.list xs))(k:Kp [B] H H'):E0 T H':=by
 have n:∀ {i},i≤T→i∉[B]:=fun h=>ef (W3 (Nat.lt_of_le_of_lt h hB))
 have ki:KI [B] (B+1) H:=KI.one (Nat.lt_succ_self B) hb rfl
 have l:∀ {i},i<7→i∉[B]:=fun h=>n (Nat.le_of_lt (e.lo h))
 exact e.mv k (fun _ _ h=>l h) (e.t0.keep ki k (l (by decide))) (e.t1.keep ki k (l (by decide))) (e.tp.imp fun _ h=>⟨k.get h.1 (n (Nat.le_refl T)),h.2⟩)
noncomputable def d4(m:Nat)(H:List O):List V→List LB→Prop
 | [],[]=>True
 | v::vs,b::bs=>(∃ j,v=.obj j∧sA m H j b)∧d4 m H vs bs
 | _,_=>False
theorem d4.keep{I:List Nat}{m:Nat}{H H':List O}(hI:KI I m H)(k:Kp I H H'):∀ {vs:List V} {bs:List LB},d4 m H vs bs→d4 m H' vs bs
 | [],[],_=>trivial
 | _::_,_::_,⟨⟨j,e,h⟩,r⟩=>⟨⟨j,e,h.keep hI k⟩,d4.keep hI k r⟩
 | [],_::_,h=>h.elim
 | _::_,[],h=>h.elim
theorem d4.app{m:Nat}{H:List O}{j:Nat}{b:LB}(h2:sA m H j b):∀ {vs:List V} {bs:List LB},d4 m H vs bs→d4 m H (vs++[.obj j]) (bs++[b])
 | [],[],_=>⟨⟨j,rfl,h2⟩,trivial⟩
 | _::_,_::_,⟨a,r⟩=>⟨a,d4.app h2 r⟩
 | [],_::_,h=>h.elim
 | _::_,[],h=>h.elim
theorem sA.low{m m':Nat}{H:List O}{j:Nat}{b:LB}(l:m'≤m):sA m H j b→sA m' H j b:=fun⟨tl,vs,a,p,q,r⟩=>⟨tl,vs,J7 l a,p,q,r⟩
theorem d4.len{m:Nat}{H:List O}:∀ {vs:List V} {bs:List LB},d4 m H vs bs→vs.length=bs.length
 | [],[],_=>rfl
 | _::_,_::_,⟨_,r⟩=>by simp[d4.len r]
 | [],_::_,h=>h.elim
 | _::_,[],h=>h.elim
theorem d4.low{m m':Nat}{H:List O}(l:m'≤m):∀ {vs:List V} {bs:List LB},d4 m H vs bs→d4 m' H vs bs
 | [],[],_=>trivial
 | _::_,_::_,⟨⟨j,e,h⟩,r⟩=>⟨⟨j,e,h.low l⟩,d4.low l r⟩
 | [],_::_,h=>h.elim
 | _::_,[],h=>h.elim
noncomputable def Q3(m:Nat)(H:List O)(p:Nat×Nat×LB):Prop:=(∃ ce,mA m H (.obj p.1) (ug p.2.2 ce))∧sA m H p.2.1 p.2.2
theorem Q3.keep{I:List Nat}{m:Nat}{H H':List O}(hI:KI I m H)(k:Kp I H H'){p:Nat×Nat×LB}:Q3 m H p→Q3 m H' p:=fun⟨⟨ce,a⟩,b⟩=>⟨⟨ce,a.keep hI k⟩,b.keep hI k⟩
theorem Do{m:Nat}{H:List O}:∀ {ws:List V} {brs:List Br} {bs:List V} {lbs:List LB},fX m H ws brs→BL brs lbs→d4 m H bs lbs→
  ∃ ps:List (Nat×Nat×LB),ws=(ps.map fun p=>V.obj p.1)∧bs=(ps.map fun p=>V.obj p.2.1)∧lbs=(ps.map fun p=>p.2.2)∧∀ p∈ps,Q3 m H p
 | [],[],[],[],_,_,_=>⟨[],rfl,rfl,rfl,fun _ h=>nomatch h⟩
 | _::_,_::_,_::_,_::_,⟨a,r⟩,⟨⟨ce,e⟩,r2⟩,⟨⟨j,e3,c⟩,r3⟩=>by
  obtain⟨ps,e1,e2,e4,hq⟩:=Do r r2 r3
  have a':=a
  obtain⟨i,_,_,_,ev,_⟩:=a'
  subst e e1 e2 e3 e4 ev
  refine⟨(i,j,_)::ps,rfl,rfl,rfl,fun p hp=>?_⟩
  rcases K2.mp hp with rfl | hp
  ·exact⟨⟨ce,a⟩,c⟩
  exact hq p hp
 | [],_::_,_,_,h,_,_=>h.elim
 | _::_,[],_,_,h,_,_=>h.elim
 | [],[],_,_::_,_,h,_=>h.elim
 | _::_,_::_,_,[],_,h,_=>h.elim
 | [],[],_::_,[],_,_,h=>h.elim
 | _::_,_::_,[],_::_,_,_,h=>h.elim
theorem Dp{m i:Nat}{H:List O}{b:LB}{ce:Int}(hm:2≤m)(h:mA m H (.obj i) (ug b ce)):PB H i b:=by
 obtain⟨i',e,l,vs,ev,⟨l1,l2,l3⟩,p,q,r,hs⟩:=h
 cases ev
 match vs,hs with
 | v::xs,⟨⟨ht,e1,h1⟩,h2⟩=>
 subst e1
 exact⟨e,l,ht,xs,p,q,r,h1,h2.low hm,by lia⟩
structure E1(T F B:Nat)(ps:List (Nat×Nat×LB))(H:List O):Prop where
 e:E0 T H
 tF:T<F
 tB:T<B
 fF:H[F]?=some (.list (ps.map fun p=>V.obj p.1))
 fB:H[B]?=some (.list (ps.map fun p=>V.obj p.2.1))
 q:∀ p∈ps,Q3 (T+1) H p
 ok:∀ p∈ps,p.2.2.ok
 len:ps.length=4
section
variable {T F B:Nat}{ps:List (Nat×Nat×LB)}{H H':List O}
theorem E1.mv(g:E1 T F B ps H)(e:E0 T H'){I:List Nat}(hI:KI I (T+1) H)(k:Kp I H H'):E1 T F B ps H':=by
 have n:∀ {j},T<j→j∉I:=fun {j} h x=>by have:=(hI j x).1;lia
 exact⟨e,g.tF,g.tB,k.get g.fF (n g.tF),k.get g.fB (n g.tB),fun p hp=>(g.q p hp).keep hI k,g.ok,g.len⟩
theorem E1.k0(g:E1 T F B ps H)(k:Kp [] H H'):E1 T F B ps H':=g.mv (g.e.k0 k) KI.nil k
theorem E1.nx(g:E1 T F B ps H)(k:Kp [T] H H')(e:E0 T H'):E1 T F B ps H':=g.mv e g.e.kiT k
theorem E1.cell(g:E1 T F B ps H){i:Nat}(h3:3≤i)(h6:i<7)(hc:∃ w,H[i]?=some (O.cell w)){v:V}:E1 T F B ps (H.set i (O.cell (some v))):=g.mv (g.e.cell h3 h6 hc) (g.e.up h6 (q0 hc)) (Kp.set (.head _))
theorem E1.tab1(g:E1 T F B ps H)(k:Kp [1] H H')(t:bX 1 qL H'):E1 T F B ps H':=g.mv (g.e.tab1 k t) g.e.ki1 k
theorem E1.tab0(g:E1 T F B ps H)(k:Kp [0] H H')(t:bX 0 Dm H'):E1 T F B ps H':=g.mv (g.e.tab0 k t) g.e.ki0 k
end
structure E2(T F B:Nat)(ps:List (Nat×Nat×LB))(p:Nat×Nat×LB)(tl:Nat)(vs:List V)(e l ht:Nat)(xs:List V)(H:List O):Prop where
 g:E1 T F B ps H
 c3:H[3]?=some (.cell (some (.obj p.1)))
 ltl:T<tl
 hvs:H[tl]?=some (.list vs)
 lts:dO H vs p.2.2.things
 le:T<p.1∧T<e∧T<l
 hi:H[p.1]?=some (.inst 167 e)
 he:H[e]?=some (dA l p.2.2.row p.2.2.col)
 hl:H[l]?=some (.list (.obj ht::xs))
 its:cM (T+1) H xs (p.2.2.things.map (LT.it p.2.2.row))
section
variable {T F B:Nat}{ps:List (Nat×Nat×LB)}{p:Nat×Nat×LB}{tl e l ht:Nat}{vs xs:List V}{H H':List O}
theorem E2.mv(x:E2 T F B ps p tl vs e l ht xs H)(g:E1 T F B ps H'){I:List Nat}(hI:KI I (T+1) H)(k:Kp I H H')(h3:3∉I):E2 T F B ps p tl vs e l ht xs H':=by
 have n:∀ {j},T<j→j∉I:=fun {j} h y=>by have:=(hI j y).1;lia
 exact⟨g,k.get x.c3 h3,x.ltl,k.get x.hvs (n x.ltl),x.lts.keep hI k,x.le,k.get x.hi (n x.le.1),k.get x.he (n x.le.2.1),k.get x.hl (n x.le.2.2),x.its.keep hI k⟩
theorem E2.k0(x:E2 T F B ps p tl vs e l ht xs H)(k:Kp [] H H'):E2 T F B ps p tl vs e l ht xs H':=x.mv (x.g.k0 k) KI.nil k (by simp)
theorem E2.nx(x:E2 T F B ps p tl vs e l ht xs H)(k:Kp [T] H H')(e':E0 T H'):E2 T F B ps p tl vs e l ht xs H':=x.mv (x.g.nx k e') x.g.e.kiT k (ef (W3 (e'.lo (by decide))))
theorem E2.cell(x:E2 T F B ps p tl vs e l ht xs H){i:Nat}(h3:3<i)(h6:i<7)(hc:∃ w,H[i]?=some (O.cell w)){v:V}:E2 T F B ps p tl vs e l ht xs (H.set i (O.cell (some v))):=x.mv (x.g.cell (Nat.le_of_lt h3) h6 hc) (x.g.e.up h6 (q0 hc)) (Kp.set (.head _)) (ef (W3 h3))
theorem E2.tab1(x:E2 T F B ps p tl vs e l ht xs H)(k:Kp [1] H H')(t:bX 1 qL H'):E2 T F B ps p tl vs e l ht xs H':=x.mv (x.g.tab1 k t) x.g.e.ki1 k (ef (by decide))
theorem E1.turn(g:E1 T F B ps H)(hp:p∈ps)(c3:H[3]?=some (.cell (some (.obj p.1)))):∃ tl vs e l ht xs,E2 T F B ps p tl vs e l ht xs H∧H[p.2.1]?=some (.tup [.str p.2.2.name,.obj tl,.int p.2.2.row,.int p.2.2.col]):=by
 obtain⟨⟨ce,i',e,l,vs',ev,⟨l1,l2,l3⟩,h1,h2,h3,hs⟩,tl,vs,a,b1,b2,b3⟩:=g.q p hp
 cases ev
 match vs',hs with
 | v::xs,⟨⟨ht,e1,_⟩,h5⟩=>
 subst e1
 exact⟨tl,vs,e,l,ht,xs,⟨g,c3,by lia,b2,b3,⟨by lia,by lia,by lia⟩,h1,h2,h3,h5⟩,b1⟩
end
noncomputable def Q4(m:Nat)(r:Int)(H:List O)(q:Nat×V×LT):Prop:=H[q.1]?=some (.tup [.str (aq q.2.2.th.told),.str q.2.2.th.sort,.int q.2.2.th.value,.int q.2.2.place])∧iF m H q.2.1 (q.2.2.it r)
theorem Q4.keep{I:List Nat}{m:Nat}{r:Int}{H H':List O}(hI:KI I m H)(k:Kp I H H'){q:Nat×V×LT}:Q4 m r H q→Q4 m r H' q:=fun⟨a,b⟩=>⟨hI.tup k a,b.keep hI k⟩
theorem Dn{m:Nat}{r:Int}{H:List O}:∀ {vs xs:List V} {ts:List LT},dO H vs ts→cM m H xs (ts.map (LT.it r))→∃ qs:List (Nat×V×LT),vs=(qs.map fun q=>V.obj q.1)∧xs=(qs.map fun q=>q.2.1)∧∀ q∈qs,q.2.2∈ts∧Q4 m r H q
 | [],[],[],_,_=>⟨[],rfl,rfl,fun _ h=>nomatch h⟩
 | _::_,x::_,t::_,⟨⟨j,e,a⟩,h1⟩,⟨b,h2⟩=>by
  obtain⟨qs,e1,e2,h3⟩:=Dn h1 h2
  subst e e1 e2
  refine⟨(j,x,t)::qs,rfl,rfl,fun q hq=>?_⟩
  rcases K2.mp hq with rfl | hq
  ·exact⟨K5,a,b⟩
  exact⟨K6 _ (h3 q hq).1,(h3 q hq).2⟩
 | [],_,_::_,h,_=>h.elim
 | _::_,_,[],h,_=>h.elim
 | [],_::_,[],_,h=>h.elim
 | _::_,[],_::_,_,h=>h.elim
theorem xL{H:List O}{v:V}{t:Th}{r p:Int}(ht:t∈ch)(h:iF 0 H v (fN t r p)) :
  (t.sort="string"→Co GG 10 (.top 349) [v] H (.byt #[97,98]) H)∧(t.sort≠"string"→gs 10 (.top 349) [v] H "a string is wanted" r p):=by
 have o:=jb ht
 by_cases hn:t.sort="int"
 ·rw[eE o hn] at h
  obtain⟨i,rfl,td,_,_,t1,t2⟩:=h
  refine⟨fun e=>?_,fun _=>gs.of (nt t1 t2 (by show J0 "int"≠J0 "string";decide))⟩
  rw[hn] at e;exact absurd e (by decide)
 rcases fx (r:=r) (c:=p) o hn with⟨s,w,e,_,es,hs⟩ | ⟨eb,o',a,c',e,e1,e2,_,_⟩
 ·rw[e] at h
  obtain⟨i,rfl,td,_,_,t1,t2⟩:=h
  constructor
  ·intro q
   rcases hs with hs | ⟨hs,hw⟩
   ·exact absurd (es.trans q) hs
   rw[hw] at t2
   exact xK t1 t2 hs (by intro n h;cases h)
  intro q
  exact gs.of (nt t1 t2 (by rw[←es] at q;exact q))
 rw[e] at h
 obtain⟨i,b,l,j,rfl,_,a1,a2,a3,_⟩:=h
 rw[e1,e2] at a2
 refine⟨fun q=>?_,fun _=>gs.of (xM a1 a2)⟩
 rw[eb] at q;exact absurd q (by decide)
theorem CR(c:Char):c.toNat<1114112:=by
 have h:=c.valid
 rcases h with h | h
 ·have:c.val.toNat<0xD800:=h
  show c.val.toNat<_
  lia
 exact h.2
theorem gd(s:String):PyData.strOk (J0 s)=true:=by
 rw[Str.ofString_eq_toList]
 unfold PyData.strOk
 simp[CR]
theorem pY{a b:Str}(ha:PyData.strOk a=true)(hb:PyData.strOk b=true):PyData.strOk (a++b)=true:=by
 unfold PyData.strOk at *
 show(a.cps++b.cps).all _=true
 rw[Array.all_append,ha,hb];rfl
theorem Au{k:Int}:PyData.strOk (im k)=true:=by
 unfold im
 split
 ·exact gd _
 split
 ·exact gd _
 split <;> exact gd _
theorem zr{k:Int}{v:Option Int}:PyData.strOk (fk k v)=true:=by
 cases v with
 | none=>exact gd _
 | some x=>exact pY (pY Au (gd _)) (gd _)
theorem sU{ks:List Int}{vs:List (Option Int)}:∀ x∈de ks vs,PyData.strOk x=true:=by
 intro x hx
 obtain⟨p,_,rfl⟩:=V9.mp hx
 exact zr
theorem vk{xs:List Str}:SeqAt.noMix (.list (xs.map PyData.str)) (.list (xs.map PyData.str))=true:=SeqAt.noMix_of_shape (.list .str) rfl _ _ (list_map_has fun _=>rfl) (list_map_has fun _=>rfl)
theorem s4{n:Nat}(h:n≤3):Builtin.Range.small 0 n 1=true∧Builtin.Range.rangeSize 0 n 1=n:=by
 have:n=0∨n=1∨n=2∨n=3:=by lia
 rcases this with e | e | e | e <;> rw[e] <;> exact⟨rfl,rfl⟩
theorem Aq{j:Nat}(h:j<4):∃ k:Int,[V.int (-1),V.int (-2),V.int (-16),V.int (-17)][j]?=some (.int k)∧f6 k:=by
 have:j=0∨j=1∨j=2∨j=3:=by lia
 rcases this with e | e | e | e <;> rw[e]
 ·exact⟨-1,rfl,by simp[f6]⟩
 ·exact⟨-2,rfl,by simp[f6]⟩
 ·exact⟨-16,rfl,by simp[f6]⟩
 exact⟨-17,rfl,by simp[f6]⟩
theorem sS{j:Nat}(h:j<6):∃ w:Str,(fj.map V.str)[j]?=some (.str w)∧w∈fj:=by
 have hl:j<fj.length:=h
 exact⟨fj[j],by rw[List.getElem?_map,Y1 hl];rfl,List.getElem_mem hl⟩
theorem za{near far:Str}(h1:near∈fj)(h2:far∈fj):((Txt.startswith near far || Txt.startswith far near)==(Txt.slice near none (some (if((far.length:Int)<(near.length:Int)) then(far.length:Int) else near.length))==Txt.slice far none (some (if((far.length:Int)<(near.length:Int)) then(far.length:Int) else near.length))))=true:=by
 have h3:=W8.mp (W8.mp CQ near h1) far h2
 exact h3
theorem xk:fj.all (fun w=>decide (w.length≤1000))=true:=by decide +kernel
theorem vf(ns:List Int)(lo hi st:Option Int):∃ ms:List Int,ft (ns.map V.int) lo hi st=ms.map V.int:=by
 have key:∀ l:List Nat,∃ ms:List Int,l.filterMap ((ns.map V.int)[·]?)=ms.map V.int:=by
  intro l
  refine⟨l.filterMap (ns[·]?),?_⟩
  rw[List.map_filterMap]
  congr 1
  funext i
  simp
 unfold ft
 exact key _
theorem zO(ns:List Int)(hz:ns.length≤63):∃ ms:List Int,ft (ns.map V.int) none (some 63) none=ms.map V.int∧ms.length≤63:=by
 obtain⟨ms,e⟩:=vf ns none (some 63) none
 refine⟨ms,e,?_⟩
 have hl:(ft (ns.map V.int) none (some 63) none).length≤63:=by
  unfold ft
  refine J7 (List.length_filterMap_le _ _) ?_
  unfold sliceRange
  rw[K8,List.length_range,K8]
  simp[sliceBounds]
  lia
 rw[e] at hl
 simpa using hl
theorem El{α:Type}{p:α→Prop}{a b:α}(h1:p a)(h2:p b):∀ x∈[a,b],p x:=List.forall_mem_cons.2 ⟨h1,List.forall_mem_cons.2 ⟨h2,fun _ h=>nomatch h⟩⟩
theorem Fz{α:Type}{p:α→Prop}{a b c d e:α}(h1:p a)(h2:p b)(h3:p c)(h4:p d)(h5:p e):∀ x∈[a,b,c,d,e],p x:=List.forall_mem_cons.2 ⟨h1,List.forall_mem_cons.2 ⟨h2,List.forall_mem_cons.2 ⟨h3,El h4 h5⟩⟩⟩
theorem aC.adoptC{c:Cx}{T:Addr}{I:List Addr}{ls:List (Str×V)}{ρ:List Addr}{H:List O}{s:Shared}(R:aC c (T::I) ls ρ H s)(h:s.heap.IsCell T none):aC c I ls (ρ++[T]) (H++[.cell none]) s:=
 h.elim fun _ h=>R.adopt (x:=.cell none) h.1 h.2
section
variable {G:cq}{dd:Nat}{f₀ A t1 t2 k1 k2:Addr}{oc:Value}{od:Option Addr}{osl:Array (Option Value)}{name qual:Str}{params:Arguments}{rest:List Stmt}{scope:Scope}{dV kV doc pm cdv ct:Value}{an:Option Addr}
 {x y1 y2 y3 y4 y5:Str} {p1 p2 p3 p4 p5 p6:Pos} {kc:Tok} {p:Program} {loose:List Str} {mean:ExcName→Option Value} {mg mb:Str→Option Value} {w:World} {s₁:Shared} {vs:List Value} {ns:List Int}
theorem Fq{fn:bW}{ls:List (Str×V)}{H:List O}:BO G dd fn none ls H none H:=rfl
theorem GC{fn:bW}{ls:List (Str×V)}{H H₁:List O}{e:Expr}{i:Int}(h:Ev G dd fn e ls H (.int i) H₁):BO G dd fn (some e) ls H (some i) H₁:=h
theorem xX
  (ho:∀ P,(G.K P).lookup f₀=some ⟨oc,od,.func (fnOf name qual params (.Assign [.Name x p1] (.Subscript (.Name x p2) (.Slice none (some (.Constant (.int 63) kc p3)) none p4) p5) p6::rest) scope dV kV doc pm an cdv ct),osl⟩)
  (hcd:∀ P,codeIn (G.K P) cdv qual=true)
  (hb:∀ v,bindArgs (fnOf name qual params (.Assign [.Name x p1] (.Subscript (.Name x p2) (.Slice none (some (.Constant (.int 63) kc p3)) none p4) p5) p6::rest) scope dV kV doc pm an cdv ct) ⟨[v],[]⟩=pure [(x,v)])
  (hx:(x,NameKind.local)∈scope.names) (hcf:∀ n,cellsFrom n scope.names []=[(y5,n+4),(y4,n+3),(y3,n+2),(y2,n+1),(y1,n)]) (hnd:[y1,y2,y3,y4,y5].Nodup)
  (hk:scope.kind=.function) (hco:scope.isCoroutine=false) (hgen:scope.isGenerator=false) (hS:bz ⟨qual,scope,f₀,cdv,[(y1,2),(y2,3),(y3,4),(y4,5),(y5,6)]⟩)
  (hdd:callerA.depth+2*dd+2<recursionLimit) (hu:callerA.units+8*dd+8<cLine)
  (h:∀ ms:List Int,ms.length≤63→bz ⟨qual,scope,f₀,cdv,[(y1,2),(y2,3),(y3,4),(y4,5),(y5,6)]⟩→∃ v H',be G dd ⟨qual,scope,f₀,cdv,[(y1,2),(y2,3),(y3,4),(y4,5),(y5,6)]⟩ rest [(x,.obj 7)] [.tab [],.tab [],.cell none,.cell none,.cell none,.cell none,.cell none,.list (ms.map V.int)] (.ret v) [] H'∧v=.bool true∧(∃ ps,H'[0]?=some (.tab ps))∧∃ ps,H'[1]?=some (.tab ps))
  (hT:TabsAt [(k1,t1),(k2,t2)] s₁.heap) (ht:t1≠t2) (hpn:G.pn=[t1,t2]) (X:(G.K w.params).In s₁.heap) (hK:noTabs (G.K w.params)=true)
  (T:Top p loose mean mg mb s₁.heap) (hv:G.view=topProg) (hl:G.loose=loose++(recsOf p).map (·.name)++(litsOf p).map (·.1)++(clssOf p loose).map (·.name))
  (hL:s₁.heap.IsList A vs.toArray) (hns:bq [] (ns.map V.int) vs) (hz:ns.length≤63) :
  cr (model G.prog w) callerA (.call (.ref f₀) ⟨[.ref A],[]⟩) (fun f s'=>f=.ret (.bool true)∧(∀ b o,(ghostOf s₁.heap [(k1,t1),(k2,t2)]).get? b=some o→s'.heap.get? b=some o)∧GrownAt t1 s'.heap∧GrownAt t2 s'.heap∧s'.gens=s₁.gens∧s'.os=s₁.os) s₁:=by
 suffices key:∀ Q:Flow→Shared→Prop,(∀ s':Shared,(∀ b o,(ghostOf s₁.heap [(k1,t1),(k2,t2)]).get? b=some o→s'.heap.get? b=some o)→GrownAt t1 s'.heap→GrownAt t2 s'.heap→s'.gens=s₁.gens→s'.os=s₁.os→Q (.ret (.bool true)) s')→cr (model G.prog w) callerA (.call (.ref f₀) ⟨[.ref A],[]⟩) Q s₁ from key _ fun _ a b c d e=>⟨rfl,a,b,c,d,e⟩
 intro Q hQ
 have hbase:∀ b o,(ghostOf s₁.heap [(k1,t1),(k2,t2)]).get? b=some o→s₁.heap.get? b=some o:=fun b o e=>of_hideAll _ e
 have gsz:(ghostOf s₁.heap [(k1,t1),(k2,t2)]).objs.size=s₁.heap.objs.size:=hideAll_size _ _
 have gn1:(ghostOf s₁.heap [(k1,t1),(k2,t2)]).get? t1=none:=hideAll_none _ (by simp)
 have gn2:(ghostOf s₁.heap [(k1,t1),(k2,t2)]).get? t2=none:=hideAll_none _ (by simp)
 have gK:=ghost_K hT X hK
 have gT:=ghost_top hT T
 have gL:=ghost_list hT hL
 generalize ghostOf s₁.heap [(k1,t1),(k2,t2)]=gh at hQ hbase gsz gn1 gn2 gK gT gL
 generalize eF:(⟨qual,scope,f₀,cdv,[(y1,2),(y2,3),(y3,4),(y4,5),(y5,6)]⟩:bW)=fn' at h hS
 have hx':(x,NameKind.local)∈fn'.sc.names:=eF▸hx
 have hxl:scope.names.lookup x=some .local:=by
  have h0:=hS.1
  rw[←eF] at h0
  exact gi h0 hx
 refine iu (body:=.Assign [.Name x p1] (.Subscript (.Name x p2) (.Slice none (some (.Constant (.int 63) kc p3)) none p4) p5) p6::rest) (by decide) (X _ _ (ho _)) rfl hco hgen rfl (codeRec_of X (hcd _)) ?_
 rw[hb]
 refine K1 (wpAny_newFunctionEnv_cells hk (fun z hz=>?_) fun env he s' IC=>?_)
 ·rw[J6.mp hz];exact .inl hxl
 subst he
 refine⟨T.nolimit.keeps IC.toInCall.keep,oB ?_⟩
 obtain⟨IN,hcell,hap,habv⟩:=IC
 obtain⟨h₁,tk,rfl⟩:=IN.same
 have hkeep:=IN.keep
 have hfn:=IN.ns
 have hnL:∀ b o,s₁.heap.get? b=some o→b≠s₁.heap.objs.size:=fun b o e=>W3 (Heap.lt_size e)
 have kx:∀ q,(newEnv scope s₁.heap.objs.size J3 (cellsFrom (s₁.heap.objs.size+1) scope.names []) q (some f₀) cdv none builtinsNs).kindOf x=some .local:=fun q=>hxl
 have fns:h₁.Ns s₁.heap.objs.size (fun y=>if y=x then some (.ref A) else none):=by
  have z:=IN.ns
  simp only[bindL] at z
  erw [kx] at z
  rw[if_pos rfl] at z
  exact z
 have fce:∀ y a,(cellsFrom (s₁.heap.objs.size+1) scope.names []).lookup y=some a→h₁.IsCell a none:=fun y a e=>by
  have z:=hcell y a e
  simp only[bindC] at z
  erw [kx] at z
  rw[if_pos rfl] at z
  exact z
 rw[hcf] at fce
 generalize eN:s₁.heap.objs.size=N at *
 have lk:∀ y a,(y,a)∈[(y5,N+1+4),(y4,N+1+3),(y3,N+1+2),(y2,N+1+1),(y1,N+1)]→([(y5,N+1+4),(y4,N+1+3),(y3,N+1+2),(y2,N+1+1),(y1,N+1)]:List (Str×Addr)).lookup y=some a:=fun y a e=>
  gi (show([y5,y4,y3,y2,y1]:List Str).Nodup from List.pairwise_reverse.mpr (hnd.imp Ne.symm)) e
 have m1:(y1,N+1)∈[(y5,N+1+4),(y4,N+1+3),(y3,N+1+2),(y2,N+1+1),(y1,N+1)]:=.tail _ (.tail _ (.tail _ (.tail _ (.head _))))
 have m2:(y2,N+1+1)∈[(y5,N+1+4),(y4,N+1+3),(y3,N+1+2),(y2,N+1+1),(y1,N+1)]:=.tail _ (.tail _ (.tail _ (.head _)))
 have m3:(y3,N+1+2)∈[(y5,N+1+4),(y4,N+1+3),(y3,N+1+2),(y2,N+1+1),(y1,N+1)]:=.tail _ (.tail _ (.head _))
 have m4:(y4,N+1+3)∈[(y5,N+1+4),(y4,N+1+3),(y3,N+1+2),(y2,N+1+1),(y1,N+1)]:=.tail _ (.head _)
 have m5:(y5,N+1+4)∈[(y5,N+1+4),(y4,N+1+3),(y3,N+1+2),(y2,N+1+1),(y1,N+1)]:=.head _
 obtain⟨c,ec⟩:∃ c:Cx,c={ w:=w,base:=gh,A₀:=callerA,outer:=[],fr:=[],kp:=[],L:=N,fn:=⟨qual,scope,f₀,cdv,[]⟩,cl:=[(y5,N+1+4),(y4,N+1+3),(y3,N+1+2),(y2,N+1+1),(y1,N+1)],cm:=none,mean:=mean,mg:=mg,mb:=mb,gens:=s₁.gens,drawn:=s₁.drawn,os:=s₁.os,pn:=[t1,t2]}:=⟨_,rfl⟩
 have g1:=(hT (k1,t1) (.head _)).2
 have g2:=(hT (k2,t2) (.tail _ (.head _))).2
 have hnone:∀ a,N≤a→gh.get? a=none:=fun a ha=>by
  cases q:gh.get? a with
  | none=>rfl
  | some o=>exact absurd (eN▸Heap.lt_size (hbase _ _ q)) (Nat.not_lt.mpr ha)
 have W:co c [(x,.top A)] [t1,t2] [.tab [],.tab []] (fun y=>if y=x then some (.ref A) else none) [] [tabObj #[],tabObj #[]] { s₁ with heap:=h₁,toks:=tk}:=by
  rw[ec]
  refine⟨rfl,rfl,rfl,⟨fns,fun b o e=>hkeep b o (hbase b o e),Nat.le_of_eq (gsz)⟩,?_,⟨fun q hq=>by rw[J6.mp hq];exact⟨.ref A,by simp,rfl⟩,by simp⟩,trivial,⟨⟨[],rfl,trivial⟩,⟨[],rfl,trivial⟩,trivial⟩,rfl,by simpa using ht,(fun y i hy=>nomatch hy),J2 _⟩
  exact El (a:=(t1,tabObj #[])) (b:=(t2,tabObj #[])) ⟨hkeep _ _ g1,hnL _ _ g1,gn1⟩ ⟨hkeep _ _ g2,hnL _ _ g2,gn2⟩
 have R0:aC c [N+1,N+1+1,N+1+2,N+1+3,N+1+4] [(x,.top A)] [t1,t2] [.tab [],.tab []] { s₁ with heap:=h₁,toks:=tk}:=by
  refine⟨_,_,_,W,by simp,fun a ha=>?_⟩
  have hge:N<a:=Fz (p:=(N < ·)) (Nat.lt_succ_self N) (Nat.lt_succ_of_le (Nat.le_add_right N 1)) (Nat.lt_succ_of_le (Nat.le_add_right N 2)) (Nat.lt_succ_of_le (Nat.le_add_right N 3)) (Nat.lt_succ_of_le (Nat.le_add_right N 4)) a ha
  have hl12:=El (p:=(· < N)) (eN▸Heap.lt_size g1) (eN▸Heap.lt_size g2)
  rw[ec]
  exact⟨W5 hge,hnone a (Nat.le_of_lt hge),fun hm=>Nat.lt_asymm hge (hl12 a hm)⟩
 have R1:=((((R0.adoptC (fce y1 _ (lk _ _ m1))).adoptC (fce y2 _ (lk _ _ m2))).adoptC (fce y3 _ (lk _ _ m3))).adoptC (fce y4 _ (lk _ _ m4))).adoptC (fce y5 _ (lk _ _ m5))
 obtain⟨c',ec'⟩:∃ c':Cx,({ c with fn:=fn'}:Cx)=c':=⟨_,rfl⟩
 have R2:=ut R1.rep (fn:=fn') fun z i hz=>by
  rw[←eF] at hz
  rw[show c.cl=_ from congrArg Cx.cl ec]
  exact Fz (p:=fun q:Str×Nat=>∃ a,([t1,t2]++[N+1]++[N+1+1]++[N+1+2]++[N+1+3]++[N+1+4])[q.2]?=some a∧([(y5,N+1+4),(y4,N+1+3),(y3,N+1+2),(y2,N+1+1),(y1,N+1)]:List (Str×Addr)).lookup q.1=some a) ⟨N+1,rfl,lk _ _ m1⟩ ⟨N+1+1,rfl,lk _ _ m2⟩ ⟨N+1+2,rfl,lk _ _ m3⟩ ⟨N+1+3,rfl,lk _ _ m4⟩ ⟨N+1+4,rfl,lk _ _ m5⟩ _ hz
 have henv:newEnv scope N J3 (cellsFrom (N+1) scope.names []) (qual++".<locals>.") (some f₀) cdv none builtinsNs=c'.env:=by
  rw[←ec',← eF,ec];rw[hcf];rfl
 have hA:callerA.deeper c'.env=c'.A:=by rw[←ec',← eF,ec];rfl
 have ok:c'.Ok G dd:=by
  rw[←ec',← eF,ec]
  refine⟨gK,?_,rfl,trivial,hk,hk,rfl,hdd,hu,hpn.symm,.inl rfl⟩
  rw[hv,hl]
  exact gT
 have hg:c'.A₀.guards=some []:=by rw[←ec',← eF,ec];rfl
 have hb':c'.base=gh:=by rw[←ec',ec]
 have hg':c'.gens=s₁.gens:=by rw[←ec',ec]
 have ho':c'.os=s₁.os:=by rw[←ec',ec]
 have hpost:∀ ρ s' H',[t1,t2] <+: ρ→(∃ ps,H'[0]?=some (.tab ps))→(∃ ps,H'[1]?=some (.tab ps))→aY c' [] ρ H' s'→Q (.ret (.bool true)) s':=by
  rintro ρ s' H' hp ⟨ps,e1⟩ ⟨qs,e2⟩ ⟨m',fr',os',W'⟩
  obtain⟨ob1,_,_,⟨u1,r1,_⟩,gg1⟩:=W'.mem (aH hp (i:=0) rfl) e1
  obtain⟨ob2,_,_,⟨u2,r2,_⟩,gg2⟩:=W'.mem (aH hp (i:=1) rfl) e2
  exact hQ _ (hb'▸W'.F.keep) ⟨u1.toArray,r1▸gg1⟩ ⟨u2.toArray,r2▸gg2⟩ (W'.gens.trans hg') (W'.sos.trans ho')
 have hLb:∀ {s:Shared} {ρ H ls},aY c' ls ρ H s→s.heap.IsList A vs.toArray:=by
  rintro s ρ H ls ⟨m',fr',os',W'⟩
  have z:=gL
  obtain⟨o,e,r⟩:=z
  exact⟨o,W'.F.keep _ _ (hb'.symm▸e),r⟩
 have hw:c'.w=w:=by rw[←ec',ec]
 obtain⟨ρ₀,eρ,hpρ⟩:∃ ρ₀,[t1,t2]++[N+1]++[N+1+1]++[N+1+2]++[N+1+3]++[N+1+4]=ρ₀∧[t1,t2] <+: ρ₀:=⟨_,rfl,by simp[K0]⟩
 rw[ec',eρ] at R2
 erw [henv,hA]
 have hfn:c'.fn=fn':=by subst ec';rfl
 clear hA henv lk m1 m2 m3 m4 m5 fce fns hkeep hcell hap habv W R0 R1
 rw[←hw]
 refine fh (gV (by rfl) (bB.any ?_))
 refine Subscript_ (Ev.loc hS (.head _) hx' c' _ _ _ _ hfn ok R2 fun ρ₁ s₂ o' hp₁ R₁ ro=>?_)
 have ro':o'=.ref A:=ro
 subst ro'
 refine wpAny_Slice (cP (ls:=[(x,.top A)]) Fq hfn ok R₁ fun ρ₂ s₂ tl hp₂ R₂=>cP (GC ac) hfn ok R₂ fun ρ₃ s₃ tu hp₃ R₃=>cP Fq hfn ok R₃ fun ρ₄ s₄ ts hp₄ R₄=>?_)
 have R₅:=R₄.push { cls:=.type "slice",data:=.fields #[partValue ((none:Option Int).map fun k=>(k,tl)),partValue ((some (63:Int)).map fun k=>(k,tu)),partValue ((none:Option Int).map fun k=>(k,ts))]} (t:=s₄.toks)
 have hIs:=hLb R₅
 have hlen:=R₅.hlen
 have hvl:=hns.len
 obtain⟨_,hsub⟩:∃ vs,subscripted (.Slice none (some (.Constant (.int 63) kc p3)) none p4) false (.ref A) (.ref s₄.heap.objs.size)=operate vs (getItem (.ref A) (.ref s₄.heap.objs.size)):=⟨_,rfl⟩
 refine tail_any hIs.typeIs slot_list_getitem.lookup (wpAny_getItem_list_slice hIs (Heap.IsSliceOf.new _ _ _ _) iI iI iI (by decide) ?_ (by rw[Q2,← hvl,K8,J9];lia)) hsub
 obtain⟨m,fr,os,W⟩:=R₅
 have e:slicePick vs.toArray none (some 63) none=((sliceRange (sliceBounds none (some 63) none (ns.map V.int).length).1 (sliceBounds none (some 63) none (ns.map V.int).length).2.1 (sliceBounds none (some 63) none (ns.map V.int).length).2.2).filterMap (vs.toArray[·]?)).toArray:=by
  unfold slicePick
  rw[Q2,← hvl]
 rw[e]
 have h1:News c'.base c'.L ((s₄.heap.push { cls:=.type "slice",data:=.fields #[partValue ((none:Option Int).map fun k=>(k,tl)),partValue ((some (63:Int)).map fun k=>(k,tu)),partValue ((none:Option Int).map fun k=>(k,ts))]}).push { cls:=.type "list",data:=.seq ((sliceRange (sliceBounds none (some 63) none (ns.map V.int).length).1 (sliceBounds none (some 63) none (ns.map V.int).length).2.1 (sliceBounds none (some 63) none (ns.map V.int).length).2.2).filterMap (vs.toArray[·]?)).toArray})
   ((_,{ cls:=.type "list",data:=.seq ((sliceRange (sliceBounds none (some 63) none (ns.map V.int).length).1 (sliceBounds none (some 63) none (ns.map V.int).length).2.1 (sliceBounds none (some 63) none (ns.map V.int).length).2.2).filterMap (vs.toArray[·]?)).toArray})::((fr++c'.kp)++ρ₄.zip os)):=fun p hp=>by
  rcases K2.mp hp with rfl | hp
  ·refine⟨Q5 _ rfl,W5 (W.F.ns.lt),?_⟩
   exact next_is_new W.F
  exact⟨K3 _ (W.N p hp).1,(W.N p hp).2⟩
 obtain⟨ms,ems,hms⟩:=zO ns hz
 have R':=W.alloc (t:=s₄.toks) (x:=.list (ms.map V.int)) (W.F.push _) h1 W.lt ⟨_,0,rfl,ems▸(hns.mono (List.nil_prefix)).filterMap _⟩
 have hpa:∀ a,ρ₀ <+: ρ₄++[a]:=fun a=>(((hp₁.trans hp₂).trans hp₃).trans hp₄).trans (K4 _ [a])
 have h7:ρ₄.length=7:=by rw[←hlen];rfl
 refine store (v:=.obj 7) (ls':=[(x,.obj 7)]) hS hx' .here hfn ok R' ⟨_,by rw[←h7];exact dW,rfl⟩ fun s₅ R₆=>?_
 obtain⟨v,H',hE,rfl,q1,q2⟩:=h ms hms hS
 refine hE c' _ _ _ hfn ok hg R₆ fun ρ₅ s₆ f' hp' R₇ rf=>?_
 obtain⟨v',rfl,rv⟩:=rf
 have rv':v'=.bool true:=rv
 subst rv'
 exact hpost _ _ _ (hpρ.trans ((hpa _).trans hp')) q1 q2 R₇
end
section
variable {G:cq}{dd d₁:Nat}{fn:bW}{ls ls' l':List (Str×V)}{H H' H₁:List O}{v fv:V}{st:Stmt}{sts rest:List Stmt}{P:V→List O→Prop}{Q:List O→Prop}
theorem Bf{α:Type}(S:bz fn){x:Str}{px:Pos}{iter:Expr}{body:List Stmt}{pos:Pos}{xs:List V}{Good:List O→Prop}(L:α→List (Str×V))(St:α→List O→Prop)(sz:α→Nat)(a:α)(hi:Io G dd fn iter (L a) H xs Good H₁)(h0:St a H₁)(hg:∀ a H,St a H→Good H)(h00:sz a=0)
  (ht:∀ k a H,St a H→sz a<xs.length→∃ l₁ a' H₂,Sn fn x k (L a) H l₁ H∧Es G dd fn body l₁ H .next (L a') H₂∧St a' H₂∧sz a'=sz a+1) (hr:∀ a' H',St a' H'→sz a'=xs.length→∃ v H'',be G dd fn rest (L a') H' (.ret v) [] H''∧P v H'')
  (hs:∀ env x,V1 iter env x=pure x:=by intro _ _;rfl):∃ v H'',be G dd fn (.For (.Name x px) iter body [] pos::rest) (L a) H (.ret v) [] H''∧P v H'':=by
 obtain⟨a',H',hf,hi',e⟩:=AI L St sz hg xs.length ht xs a H₁ h0 (by lia)
 obtain⟨v,H'',h,p⟩:=hr a' H' hi' (by lia)
 exact⟨v,H'',be.cons (dz.of (gM S hi hf hs)) h,p⟩
theorem sh{f a:Expr}{p up:Pos}{R:V→List O→Prop}(hf:Ev G dd fn f ls H fv H)(hk:ey G fv)(h:∃ x H1,Ev G dd fn a ls H x H1∧R x H1)(hc:∀ x H1,R x H1→Cl G d₁ fv [x] H1 (.bool true) H1∧Q H1)(hd:d₁<dd:=by decide)
  (he:∀ env,eval (.Call f [a] [] p) env=(do callWith p (←eval f env) [] (backTo p (K7 [a] env)) (backToKw p (keywordEach [] env))):=by intro _;rfl) (he1:∀ env,K7 [a] env=(false,eval a env)::K7 [] env:=by intro _;rfl)
  (hw:∀ env whole,isTrue (.Call f [a] [] p) env whole=(do let v←whole;standAt (Expr.Call f [a] [] p).pos;holding [v] (truthy v)):=by intro _ _;rfl) :
  ∃ H2,Te G dd fn (.UnaryOp .Not (.Call f [a] [] p) up) ls H false H2∧Q H2:=by
 obtain⟨x,H1,h1,r⟩:=h
 obtain⟨c,q⟩:=hc x H1 r
 exact⟨H1,aO (k:=true) (Te.val (Ev.call hf hk (ap.cons h1 ap.nil he1) c hd he) Tv.bool hw),q⟩
theorem rY{α:Type}{target:Expr}{body:List Stmt}{Good Inv:List O→Prop}(it:α→hM)(hg:∀ H,Inv H→Good H):∀ (xs:List α),(∀ x∈xs,∀ H,Inv H→∃ l₁ h₁ H₂,Tn fn target (it x) ls H l₁ h₁∧Es G dd fn body l₁ h₁ .next ls H₂∧Inv H₂)→∀ H,Inv H→∃ H',oV G dd fn target body Good (xs.map it) ls H .next ls H'∧Inv H'
 | [],_,H,hi=>⟨H,.nil (hg H hi),hi⟩
 | x::xs,ht,H,hi=>
 let ⟨_,_,H₂,hs,he,hi₂⟩:=ht x K5 H hi
 let ⟨H',hf,hi'⟩:=rY it hg xs (fun y hy=>ht y (K6 _ hy)) H₂ hi₂
 ⟨H',.cons (hg H hi) hs he hf,hi'⟩
theorem BE{α:Type}(S:bz fn){target iter:Expr}{body:List Stmt}{pos:Pos}{ys:List hM}{Good Inv:List O→Prop}(it:α→hM)(xs:List α)(e:ys=xs.map it)(hi:js G dd fn iter ls H ys Good H₁)(h0:Inv H₁)(hg:∀ H,Inv H→Good H)
  (ht:∀ x∈xs,∀ H,Inv H→∃ l₁ h₁ H₂,Tn fn target (it x) ls H l₁ h₁∧Es G dd fn body l₁ h₁ .next ls H₂∧Inv H₂) (hr:∀ H',Inv H'→∃ v H'',Es G dd fn rest ls H' (.ret v) [] H''∧P v H'')
  (hs:∀ env x,V1 iter env x=pure x:=by intro _ _;rfl):∃ v H'',Es G dd fn (.For target iter body [] pos::rest) ls H (.ret v) [] H''∧P v H'':=by
 subst e
 obtain⟨H',hf,hi'⟩:=rY it hg xs ht H₁ h0
 obtain⟨v,H'',h,p⟩:=hr H' hi'
 exact⟨v,H'',Es.cons (mM S hi hf hs) h,p⟩
theorem BD{α:Type}{l₂:List (Str×V)}(S:bz fn){target iter:Expr}{body:List Stmt}{pos:Pos}{ys:List hM}{Good Inv:List O→Prop}(it:α→hM)(xs:List α)(e:ys=xs.map it)(hi:js G dd fn iter ls H ys Good H₁)(h0:Inv H₁)(hg:∀ H,Inv H→Good H)
  (ht:∀ x∈xs,∀ H,Inv H→∃ l₁ h₁ H₂,Tn fn target (it x) ls H l₁ h₁∧Es G dd fn body l₁ h₁ .next ls H₂∧Inv H₂) (hq:∀ H',Inv H'→Q H') (hl:∀ p∈l₂,p∈ls) (nd:(l₂.map (·.1)).Nodup)
  (hs:∀ env x,V1 iter env x=pure x:=by intro _ _;rfl):∃ H',Es G dd fn [.For target iter body [] pos] ls H .next l₂ H'∧Q H':=by
 subst e
 obtain⟨H',hf,hi'⟩:=rY it hg xs ht H₁ h0
 exact⟨H',Es.less (Es.cons (mM S hi hf hs) Es.nil) hl nd,hq H' hi'⟩
theorem Dj{x:hM}{target:Expr}{body:List Stmt}{l₁:List (Str×V)}{h₁:List O}(h1:Tn fn target x ls H l₁ h₁)(h2:∃ H₂,Es G dd fn body l₁ h₁ .next ls H₂∧Q H₂):∃ l₁ h₁ H₂,Tn fn target x ls H l₁ h₁∧Es G dd fn body l₁ h₁ .next ls H₂∧Q H₂:=by
 obtain⟨H₂,h,q⟩:=h2
 exact⟨l₁,h₁,H₂,h1,h,q⟩
theorem qR{x:Str}{e:Expr}{px pos:Pos}{l₂:List (Str×V)}{R:V→List O→Prop}{L:V→List (Str×V)}(S:bz fn)(h:∃ v H1,Ev G dd fn e ls H v H1∧R v H1)(hk:(x,NameKind.local)∈fn.sc.names)(hst:∀ v,iz x v ls (L v))(hr:∀ v H1,R v H1→∃ H',Es G dd fn rest (L v) H1 .next l₂ H'∧Q H')
  (hs:∀ env,Y3 e (some (.Name x px)) pos.line env=pure false:=by intro _;rfl):∃ H',Es G dd fn (.Assign [.Name x px] e pos::rest) ls H .next l₂ H'∧Q H':=by
 obtain⟨v,H1,h1,r⟩:=h
 obtain⟨H',h2,q⟩:=hr v H1 r
 exact⟨H',Es.cons (Ex.name S h1 hk (hst v) hs) h2,q⟩
theorem BC{l₁ l₂:List (Str×V)}(h:∃ H',Es G dd fn sts l₁ H .next l₂ H'∧Q H')(hs:∀ p∈l₁,p∈ls)(nd:(l₁.map (·.1)).Nodup):∃ H',Es G dd fn sts ls H .next l₂ H'∧Q H':=by
 obtain⟨H',h',q⟩:=h
 exact⟨H',C6 h' hs nd,q⟩
theorem uH{test pos}{body:List Stmt}{l₂:List (Str×V)}{R:List O→Prop}(h:∃ H1,Te G dd fn test ls H false H1∧R H1)(hr:∀ H1,R H1→∃ H',Es G dd fn rest ls H1 .next l₂ H'∧Q H'):∃ H',Es G dd fn (.If test body [] pos::rest) ls H .next l₂ H'∧Q H':=by
 obtain⟨H1,ht,q⟩:=h
 obtain⟨H',h',p⟩:=hr H1 q
 exact⟨H',Es.cons (sE (b:=false) ht Es.nil) h',p⟩
theorem gg{α:Type}(f g:α→V):∀ xs:List α,c8 (xs.map f) (xs.map g)=xs.map fun p=>hM.pair (f p) (g p)
 | []=>rfl
 | x::xs=>by
  have:=gg f g xs
  unfold c8 at this ⊢
  simp only[List.map_cons,List.zipWith_cons_cons,this]
end
theorem jG:[J0 "text",J0 "base",J0 "was_digit",J0 "found",J0 "digits"].Nodup:=by decide +kernel
theorem zc{cs:List Nat}{H:List O}(hk:∀ k∈cs,k<128):Co GG 2 (.top 186) [.str (aq cs),.int 16] H (aI (dc 16 true cs 0 false)) (H++[.tup [.str "0123456789abcdefABCDEF",.int 0,.bool false]]):=by
 refine' fJ (args':=[.str (aq cs),.int 16]) (ns:=[J0 "text",J0 "base"]) ?ho ?hcd ?hb ?hloc ?hk ?hco ?hgen ?hcell ?hS ?h
 case ho=>exact jj
 case hcd=>exact jk
 case hloc=>decide
 case hk=>rfl
 case hco=>rfl
 case hgen=>rfl
 case hcell=>decide
 case hS=>exact⟨by decide,by decide⟩
 case hb=>exact jZ
 case h=>
 intro S
 refine Es.cons (ls'':=[]) (ls':=[("text",.str (aq cs)),("base",.int 16),("was_digit",.bool false),("found",.int 0),("digits",.str "0123456789abcdefABCDEF")]) (H₁:=H++[.tup [.str "0123456789abcdefABCDEF",.int 0,.bool false]]) ?asg ?fin
 case asg=>
  exact(oW S (AC (aj (k:=true) (TC (EL S M1) ac bF) (sR S gI)) ac bn) (.cons (SL (hst:=(.there (fQ) (.there (fS) .new)))) (.cons (SL (hst:=(.there (eD) (.there (i5) (.there (fu) .new))))) (.cons (SL (hst:=(.there (ii) (.there (il) (.there (eK) (.there (gW) .new)))))) .nil))) (hw:=SW))
 case fin=>
 refine pW (hex:=true) (base:=16) (L:=fun was found=>[("text",.str (aq cs)),("base",.int 16),("was_digit",.bool was),("found",.int found),("digits",.str "0123456789abcdefABCDEF")])
  (L2:=fun k was found=>[("text",.str (aq cs)),("base",.int 16),("was_digit",.bool was),("found",.int found),("digits",.str "0123456789abcdefABCDEF"),("sign",.str (aq [k]))]) S ?io hk ?hT ?h1 ?h2 ?h3 ?h4 ?h5
 case io=>exact js.str (Ev.loc S (.head _) (by walk_at"mem")) (oI hk)
 case hT=>
  intro k was found
  exact .one (.loc (by walk_at"mem") (.there jy (.there jF (.there fP (.there iZ (.there ik .new))))))
 case h1=>
  intro found
  exact(Es.less (Es.cons (IT (TC (EL S M5) aa ae) (Es.cons (IF (TT (aO (Te.val (EL S M2) Tv.bool))) Es.nil)
  (Es.cons (NM S bn)
  Es.nil)))
  Es.nil) m9 jG)
 case h2=>
  intro found
  exact(Es.less (Es.ret (IT (TC (EL S M5) aa ae) (Es.ret (IT (TT (aO (Te.val (EL S M2) Tv.bool))) (Es.ret (Ex.ret ai)))))) (fun _ h=>nomatch h) V7)
 case h3=>
  intro k v was found hk hne hv
  have c1:(aq [k]==(J0 "_"))=false:=by rw[show(J0 "_")=aq [95] from by kernel_rfl,beq_eq_false_iff_ne];intro h;exact hne (by simpa using eQ.mp h)
  have c2:(!(iT (if true then "0123456789abcdefABCDEF" else "0123456789") (aq [k])).isEmpty)=true:=by rw[wM true hk,hv];rfl
  obtain⟨⟨rest,e1⟩,e2⟩:=Ax hk (tV hv)
  have e3:Builtin.Str.tooLong (Txt.lower (aq [k])).length=false:=by rw[e2];rfl
  exact(Es.less (Es.cons (IF (TC (EL S M5) aa ae) (Es.cons (IT (TC (EL S M5) (EL S M4) aT) (Es.cons (NM S (ak (ak (EL S M3) (EL S M1) (gS (IntMulOk.of_right (by decide)))) (au (sR S gI) (Gm.str PySem.GM.index) trivial (AA (au (EL S M5) (Gm.str PySem.GM.lower) trivial ap.nil (Cl.lower rfl e3))) (Cl.index e1)) dq))
  (Es.cons (NM S bn)
  Es.nil)))
  Es.nil))
  Es.nil) m9 jG)
 case h4=>
  intro k was found hk hne hv
  have c1:(aq [k]==(J0 "_"))=false:=by rw[show(J0 "_")=aq [95] from by kernel_rfl,beq_eq_false_iff_ne];intro h;exact hne (by simpa using eQ.mp h)
  have c2:(!(iT (if true then "0123456789abcdefABCDEF" else "0123456789") (aq [k])).isEmpty)=false:=by rw[wM true hk,hv];rfl
  exact(Es.less (Es.ret (IF (TC (EL S M5) aa ae) (Es.ret (IF (TC (EL S M5) (EL S M4) aT) (Es.ret (Ex.ret ai)))))) (fun _ h=>nomatch h) V7)
 case h5=>
 intro w f
 cases w
 ·
   exact(Es.less (Es.ret (Ex.ret (aj (k:=false) (TT (Te.val (EL S M2) Tv.bool)) ai))) (fun _ h=>nomatch h) V7)
 ·
   exact(Es.less (Es.ret (Ex.ret (aj (k:=true) (TT (Te.val (EL S M2) Tv.bool)) (EL S M3)))) (fun _ h=>nomatch h) V7)
theorem zd{cs:List Nat}{H:List O}(hk:∀ k∈cs,k<128):Co GG 2 (.top 186) [.str (aq cs),.int 10] H (aI (dc 10 false cs 0 false)) (H++[.tup [.str "0123456789",.int 0,.bool false]]):=by
 refine' fJ (args':=[.str (aq cs),.int 10]) (ns:=[J0 "text",J0 "base"]) ?ho ?hcd ?hb ?hloc ?hk ?hco ?hgen ?hcell ?hS ?h
 case ho=>exact jj
 case hcd=>exact jk
 case hloc=>decide
 case hk=>rfl
 case hco=>rfl
 case hgen=>rfl
 case hcell=>decide
 case hS=>exact⟨by decide,by decide⟩
 case hb=>exact jZ
 case h=>
 intro S
 refine Es.cons (ls'':=[]) (ls':=[("text",.str (aq cs)),("base",.int 10),("was_digit",.bool false),("found",.int 0),("digits",.str "0123456789")]) (H₁:=H++[.tup [.str "0123456789",.int 0,.bool false]]) ?asg ?fin
 case asg=>
  exact(oW S (AC (aj (k:=false) (TC (EL S M1) ac bF) (sR S Bc)) ac bn) (.cons (SL (hst:=(.there (fQ) (.there (fS) .new)))) (.cons (SL (hst:=(.there (eD) (.there (i5) (.there (fu) .new))))) (.cons (SL (hst:=(.there (ii) (.there (il) (.there (eK) (.there (gW) .new)))))) .nil))) (hw:=SW))
 case fin=>
 refine pW (hex:=false) (base:=10) (L:=fun was found=>[("text",.str (aq cs)),("base",.int 10),("was_digit",.bool was),("found",.int found),("digits",.str "0123456789")])
  (L2:=fun k was found=>[("text",.str (aq cs)),("base",.int 10),("was_digit",.bool was),("found",.int found),("digits",.str "0123456789"),("sign",.str (aq [k]))]) S ?io hk ?hT ?h1 ?h2 ?h3 ?h4 ?h5
 case io=>exact js.str (Ev.loc S (.head _) (by walk_at"mem")) (oI hk)
 case hT=>
  intro k was found
  exact .one (.loc (by walk_at"mem") (.there jy (.there jF (.there fP (.there iZ (.there ik .new))))))
 case h1=>
  intro found
  exact(Es.less (Es.cons (IT (TC (EL S M5) aa ae) (Es.cons (IF (TT (aO (Te.val (EL S M2) Tv.bool))) Es.nil)
  (Es.cons (NM S bn)
  Es.nil)))
  Es.nil) m9 jG)
 case h2=>
  intro found
  exact(Es.less (Es.ret (IT (TC (EL S M5) aa ae) (Es.ret (IT (TT (aO (Te.val (EL S M2) Tv.bool))) (Es.ret (Ex.ret ai)))))) (fun _ h=>nomatch h) V7)
 case h3=>
  intro k v was found hk hne hv
  have c1:(aq [k]==(J0 "_"))=false:=by rw[show(J0 "_")=aq [95] from by kernel_rfl,beq_eq_false_iff_ne];intro h;exact hne (by simpa using eQ.mp h)
  have c2:(!(iT (if false then "0123456789abcdefABCDEF" else "0123456789") (aq [k])).isEmpty)=true:=by rw[wM false hk,hv];rfl
  obtain⟨⟨rest,e1⟩,e2⟩:=Ax hk (tV hv)
  have e3:Builtin.Str.tooLong (Txt.lower (aq [k])).length=false:=by rw[e2];rfl
  exact(Es.less (Es.cons (IF (TC (EL S M5) aa ae) (Es.cons (IT (TC (EL S M5) (EL S M4) aT) (Es.cons (NM S (ak (ak (EL S M3) (EL S M1) (gS (IntMulOk.of_right (by decide)))) (au (sR S gI) (Gm.str PySem.GM.index) trivial (AA (au (EL S M5) (Gm.str PySem.GM.lower) trivial ap.nil (Cl.lower rfl e3))) (Cl.index e1)) dq))
  (Es.cons (NM S bn)
  Es.nil)))
  Es.nil))
  Es.nil) m9 jG)
 case h4=>
  intro k was found hk hne hv
  have c1:(aq [k]==(J0 "_"))=false:=by rw[show(J0 "_")=aq [95] from by kernel_rfl,beq_eq_false_iff_ne];intro h;exact hne (by simpa using eQ.mp h)
  have c2:(!(iT (if false then "0123456789abcdefABCDEF" else "0123456789") (aq [k])).isEmpty)=false:=by rw[wM false hk,hv];rfl
  exact(Es.less (Es.ret (IF (TC (EL S M5) aa ae) (Es.ret (IF (TC (EL S M5) (EL S M4) aT) (Es.ret (Ex.ret ai)))))) (fun _ h=>nomatch h) V7)
 case h5=>
 intro w f
 cases w
 ·
   exact(Es.less (Es.ret (Ex.ret (aj (k:=false) (TT (Te.val (EL S M2) Tv.bool)) ai))) (fun _ h=>nomatch h) V7)
 ·
   exact(Es.less (Es.ret (Ex.ret (aj (k:=true) (TT (Te.val (EL S M2) Tv.bool)) (EL S M3)))) (fun _ h=>nomatch h) V7)
noncomputable abbrev vd:O:=.tup [.str "+",.str "-"]
noncomputable abbrev mx(b:Bool):O:=.tup [.str (if b then "0123456789abcdefABCDEF" else "0123456789"),.int 0,.bool false]
theorem dS{cs:List Nat}{H:List O}(hk:∀ k∈cs,k<128)(hl:cs.length≤1000):Co GG 4 (.top 193) [.str (aq cs)] H (aI (iU cs)) (H++[vd]++[mx (jM (cu cs))]):=by
 have z0:(aq cs).length≤J5:=by rw[az];exact cQ hl
 have zb:(aq (cu cs)).length≤J5:=by
  rw[az,J9];unfold cu;split
  ·simp;lia
  lia
 refine' fJ (args':=[.str (aq cs)]) (ns:=[J0 "text"]) ?ho ?hcd ?hb ?hloc ?hk ?hco ?hgen ?hcell ?hS ?h
 case ho=>exact jj
 case hcd=>exact jk
 case hloc=>decide
 case hk=>rfl
 case hco=>rfl
 case hgen=>rfl
 case hcell=>decide
 case hS=>exact⟨by decide,by decide⟩
 case hb=>exact cI
 case h=>
 intro S
 refine Es.cons (ls'':=[("text",.str (aq cs)),("body",.str (aq (cu cs))),("found",aI (iq cs))]) (ls':=[("text",.str (aq cs)),("body",.str (aq (cu cs)))]) (H₁:=H++[vd]) ?a
  (Es.cons (ls':=[("text",.str (aq cs)),("body",.str (aq (cu cs))),("found",aI (iq cs))]) (H₁:=H++[vd]++[mx (jM (cu cs))]) ?b ?c)
 case a=>
  cases hs:lL cs
  ·have eb:cu cs=cs:=by unfold cu;rw[hs];rfl
   have c1:([J0 "+",J0 "-"].any fun y=>y==Txt.slice (aq cs) none (some 1))=false:=by rw[jw,wC];exact hs
   rw[eb]
   exact(NM S (aj (k:=false) (TC (bJ (EL S M0) a9 (aZ ac) (by assumption)) (Ev.tup (AB aa aa) (bG rfl)) (kR (by walk_at"lk"))) (EL S M0)))
  have eb:cu cs=cs.drop 1:=by unfold cu;rw[hs];rfl
  have c1:([J0 "+",J0 "-"].any fun y=>y==Txt.slice (aq cs) none (some 1))=true:=by rw[jw,wC];exact hs
  rw[eb,← zH]
  exact(NM S (aj (k:=true) (TC (bJ (EL S M0) a9 (aZ ac) (by assumption)) (Ev.tup (AB aa aa) (bG rfl)) (kR (by walk_at"lk"))) (bJ (EL S M0) (aZ ac) a9 (by assumption))))
 case b=>
  cases hs:jM (cu cs)
  ·have c1:(Txt.slice (aq (cu cs)) none (some 2)==(J0 "0x"))=false:=by rw[s5,Fa,dE];exact hs
   have e:iq cs=dc 10 false (cu cs) 0 false:=by unfold iq;rw[hs];rfl
   have hw:=zd (H:=H++[vd]) (uh hk)
   rw[e]
   exact(NM S (aj (k:=false) (TC (bJ (EL S M1) a9 (aZ ac) (by assumption)) aa ae) (CG S oO DE (AB (EL S M1) ac) (hw.cl))))
  have c1:(Txt.slice (aq (cu cs)) none (some 2)==(J0 "0x"))=true:=by rw[s5,Fa,dE];exact hs
  have e:iq cs=dc 16 true ((cu cs).drop 2) 0 false:=by unfold iq;rw[hs];rfl
  have hw:=zc (H:=H++[vd]) (CI (uh hk) 2)
  rw[←zG] at hw
  rw[e]
  exact(NM S (aj (k:=true) (TC (bJ (EL S M1) a9 (aZ ac) (by assumption)) aa ae) (CG S oO DE (AB (bJ (EL S M1) (aZ ac) a9 (by assumption)) ac) (hw.cl))))
 case c=>
 unfold iU
 cases hf:iq cs with
 | none=>
  show Es GG _ _ _ _ _ (.ret .none) _ _
  exact(Es.ret (Ex.ret (aj (k:=true) (TC (EL S M2) ai bk) ai)))
 | some v=>
 cases hs:cs.take 1==[45]
 ·have c1:(Txt.slice (aq cs) none (some 1)==(J0 "-"))=false:=by rw[jw,rc,dE];exact hs
  show Es GG _ _ _ _ _ (.ret (.int v)) _ _
  exact(Es.ret (Ex.ret (aj (k:=false) (TC (EL S M2) ai bk) (aj (k:=false) (TC (bJ (EL S M0) a9 (aZ ac) (by assumption)) aa ae) (EL S M2)))))
 have c1:(Txt.slice (aq cs) none (some 1)==(J0 "-"))=true:=by rw[jw,rc,dE];exact hs
 show Es GG _ _ _ _ _ (.ret (.int (-v))) _ _
 exact(Es.ret (Ex.ret (aj (k:=false) (TC (EL S M2) ai bk) (aj (k:=true) (TC (bJ (EL S M0) a9 (aZ ac) (by assumption)) aa ae) (aK (EL S M2))))))
theorem u0{k:Nat}{r:List Nat}{H:List O}(hk:∀ j∈k::r,j<128)(hl:(k::r).length≤1000){v:Int}(hN:iU (k::r)=some v):Co GG 6 (.top 200) [.str (aq (k::r))] H (.obj (H++[vd]++[mx (jM (cu (k::r)))]).length) (H++[vd]++[mx (jM (cu (k::r)))]++[.tup [.str "int",.int v]]):=by
 have hk0:k<128:=hk k K5
 have z0:(aq (k::r)).length≤J5:=by rw[az];exact cQ hl
 have zi1:-((aq (k::r)).length:Int)≤0:=by lia
 have zi2:(0:Int)<(aq (k::r)).length:=by rw[az];simp
 have ei:Txt.item (aq (k::r)) 0=aq [k]:=gp rfl
 have el:((aq (k::r)).length:Int)=(r.length:Int)+1:=by rw[az];simp
 have hn:=dS (H:=H) hk hl
 rw[hN] at hn
 simp only[aI] at hn
 refine' aG (hb:=cI) (ns:=["text"]) ?h
 case h=>
 intro S
 exact(Es.cons (NM S (CG S c9 xa (AA (EL S M0)) (hn.cl)))
 (Es.ret (IT (TC (EL S M1) ai aS) (Es.ret (Ex.ret (Ev.tup (AB aa (EL S M1)) (bG rfl)))))))
theorem xy{k:Nat}{r:List Nat}{H:List O}(hk:∀ j∈k::r,j<128)(hl:(k::r).length≤1000)(hN:iU (k::r)=none)(h1:k=36)(h2:r≠[]):Co GG 6 (.top 200) [.str (aq (k::r))] H (.obj (H++[vd]++[mx (jM (cu (k::r)))]).length) (H++[vd]++[mx (jM (cu (k::r)))]++[.tup [.str "id",.str (aq (k::r))]]):=by
 have hk0:k<128:=hk k K5
 have z0:(aq (k::r)).length≤J5:=by rw[az];exact cQ hl
 have zi1:-((aq (k::r)).length:Int)≤0:=by lia
 have zi2:(0:Int)<(aq (k::r)).length:=by rw[az];simp
 have ei:Txt.item (aq (k::r)) 0=aq [k]:=gp rfl
 have el:((aq (k::r)).length:Int)=(r.length:Int)+1:=by rw[az];simp
 have hn:=dS (H:=H) hk hl
 rw[hN] at hn
 simp only[aI] at hn
 have c1:(Txt.item (aq (k::r)) 0==(J0 "$"))=true:=by rw[ei,na,cA];simp[h1]
 have c3:decide ((1:Int)<(aq (k::r)).length)=true:=by rw[decide_eq_true_iff,el];have:=List.length_pos_iff.mpr h2;lia
 refine' aG (hb:=cI) (ns:=["text"]) ?h
 case h=>
 intro S
 exact(Es.cons (NM S (CG S c9 xa (AA (EL S M0)) (hn.cl)))
 (Es.cons (IF (TC (EL S M1) ai aS) Es.nil)
 (Es.ret (IT (TT (ah (av (TC (Ev.item (EL S M0) ac (bE.str (by assumption) (by assumption) (by decide))) aa ae) (av (TC (CB S aM aN aA (AA (EL S M0)) (ez z0)) ac gP) cD)))) (Es.ret (Ex.ret (Ev.tup (AB aa (EL S M0)) (bG rfl))))))))
theorem xx{k:Nat}{r:List Nat}{H:List O}(hk:∀ j∈k::r,j<128)(hl:(k::r).length≤1000)(hN:iU (k::r)=none)(h1:k≠36)(h2:97≤k∧k≤122):Co GG 6 (.top 200) [.str (aq (k::r))] H (.obj (H++[vd]++[mx (jM (cu (k::r)))]).length) (H++[vd]++[mx (jM (cu (k::r)))]++[.tup [.str "word",.str (aq (k::r))]]):=by
 have hk0:k<128:=hk k K5
 have z0:(aq (k::r)).length≤J5:=by rw[az];exact cQ hl
 have zi1:-((aq (k::r)).length:Int)≤0:=by lia
 have zi2:(0:Int)<(aq (k::r)).length:=by rw[az];simp
 have ei:Txt.item (aq (k::r)) 0=aq [k]:=gp rfl
 have el:((aq (k::r)).length:Int)=(r.length:Int)+1:=by rw[az];simp
 have hn:=dS (H:=H) hk hl
 rw[hN] at hn
 simp only[aI] at hn
 have c1:(Txt.item (aq (k::r)) 0==(J0 "$"))=false:=by rw[ei,na,cA];simp[h1]
 have c2:(!(iT "abcdefghijklmnopqrstuvwxyz" (Txt.item (aq (k::r)) 0)).isEmpty)=true:=by rw[ei,Fp hk0];simp;lia
 refine' aG (hb:=cI) (ns:=["text"]) ?h
 case h=>
 intro S
 exact(Es.cons (NM S (CG S c9 xa (AA (EL S M0)) (hn.cl)))
 (Es.cons (IF (TC (EL S M1) ai aS) Es.nil)
 (Es.cons (IF (TT (ah (am (TC (Ev.item (EL S M0) ac (bE.str (by assumption) (by assumption) (by decide))) aa ae)))) Es.nil)
 (Es.ret (IT (TC (Ev.item (EL S M0) ac (bE.str (by assumption) (by assumption) (by decide))) (sR S gZ) aT) (Es.ret (Ex.ret (Ev.tup (AB aa (EL S M0)) (bG rfl)))))))))
theorem uZ{k:Nat}{r:List Nat}{H:List O}(hk:∀ j∈k::r,j<128)(hl:(k::r).length≤1000)(hN:iU (k::r)=none)(h1:k≠36)(h2:¬ (97≤k∧k≤122)):Co GG 6 (.top 200) [.str (aq (k::r))] H (.obj (H++[vd]++[mx (jM (cu (k::r)))]).length) (H++[vd]++[mx (jM (cu (k::r)))]++[.tup [.str "reserved",.str (aq (k::r))]]):=by
 have hk0:k<128:=hk k K5
 have z0:(aq (k::r)).length≤J5:=by rw[az];exact cQ hl
 have zi1:-((aq (k::r)).length:Int)≤0:=by lia
 have zi2:(0:Int)<(aq (k::r)).length:=by rw[az];simp
 have ei:Txt.item (aq (k::r)) 0=aq [k]:=gp rfl
 have el:((aq (k::r)).length:Int)=(r.length:Int)+1:=by rw[az];simp
 have hn:=dS (H:=H) hk hl
 rw[hN] at hn
 simp only[aI] at hn
 have c1:(Txt.item (aq (k::r)) 0==(J0 "$"))=false:=by rw[ei,na,cA];simp[h1]
 have c2:(!(iT "abcdefghijklmnopqrstuvwxyz" (Txt.item (aq (k::r)) 0)).isEmpty)=false:=by rw[ei,Fp hk0];simp;lia
 refine' aG (hb:=cI) (ns:=["text"]) ?h
 case h=>
 intro S
 exact(Es.cons (NM S (CG S c9 xa (AA (EL S M0)) (hn.cl)))
 (Es.cons (IF (TC (EL S M1) ai aS) Es.nil)
 (Es.cons (IF (TT (ah (am (TC (Ev.item (EL S M0) ac (bE.str (by assumption) (by assumption) (by decide))) aa ae)))) Es.nil)
 (Es.cons (IF (TC (Ev.item (EL S M0) ac (bE.str (by assumption) (by assumption) (by decide))) (sR S gZ) aT) Es.nil)
 (Es.ret (Ex.ret (Ev.tup (AB aa (EL S M0)) (bG rfl))))))))
theorem s0{cs:List Nat}{H:List O}(hk:∀ j∈cs,j<128)(hl:cs.length≤1000)(h0:cs≠[])(h1:cs≠[36]):Co GG 6 (.top 200) [.str (aq cs)] H (.obj (H++[vd]++[mx (jM (cu cs))]).length) (H++[vd]++[mx (jM (cu cs))]++[.tup [.str (a7 cs).1,eO cs]]):=by
 match cs,h0 with
 | k::r,_=>
 unfold eO
 cases hN:iU (k::r) with
 | some v=>rw[qX hN];exact u0 hk hl hN
 | none=>
 rw[qY hN]
 by_cases e:k=36
 ·have hr:r≠[]:=fun q=>h1 (by rw[e,q])
  rw[if_pos ⟨e,hr⟩];exact xy hk hl hN e hr
 rw[if_neg (fun q=>e q.1)]
 by_cases e2:97≤k∧k≤122
 ·rw[if_pos e2];exact xx hk hl hN e e2
 rw[if_neg e2];exact uZ hk hl hN e e2
section
variable {H:List O}{self d f n:Nat}{cs rest:List Nat}{r c:Int}{w:Str}{k:Nat}
theorem sZ(hi:H[self]?=some (.inst 295 d))(hD:H[d]?=some (bI (aq cs) (n:Int) r c f))(hl:cs.length≤1000)(hw:w.length≤1000) :
  Co GG 2 (.top 228) [.obj self,.str w] H (.bool (Txt.slice (aq cs) (some (n:Int)) (some ((n:Int)+(w.length:Int)))==w)) H:=by
 have z0:(aq cs).length≤J5:=by rw[az];exact cQ hl
 have zw:w.length≤J5:=by rw[J9];lia
 refine' aG (hb:=jZ) (ns:=["self","word"]) ?h
 case h=>
 intro S
 exact(Es.ret (Ex.ret (bo (bJ (AT (EL S M0) dL) (aZ (AT (EL S M0) cO)) (aZ (ak (AT (EL S M0) cO) (CB S aM aN aA (AA (EL S M1)) (ez zw)) dq)) (by assumption)) (EL S M1) ae)))
theorem BZ(hi:H[self]?=some (.inst 295 d))(hD:H[d]?=some (bI (aq cs) (n:Int) r c f))(hl:cs.length≤1000)(hr:cs.drop n=k::rest)(h1:k=10) :
  Co GG 4 (.top 243) [.obj self] H .none (H.set d (bI (aq cs) ((n+1:Nat):Int) (r+1) 1 f)):=by
 have hne:d≠self:=fw hD hi (by simp)
 have hlt:=bC hD
 have hg:=eZ hr
 have hn:n<cs.length:=(J4.mp hg.1).1
 have ei:Txt.item (aq cs) (n:Int)=aq [k]:=og cs hg.1
 have z0:(aq cs).length≤J5:=by rw[az];exact cQ hl
 have zi1:-((aq cs).length:Int)≤(n:Int):=by lia
 have zi2:(n:Int)<(aq cs).length:=by rw[az];lia
 have zi3:fitsSsize (n:Int)=true:=tQ (by lia)
 have c1:(Txt.item (aq cs) (n:Int)==(J0 "\n"))=true:=by rw[ei,q7,cA];simp[h1]
 refine' fW (H₁:=_) ?cc ?ee
 rotate_left
 refine' d8 (args':=[.obj self,.int 1]) (ns:=[J0 "self",J0 "many"]) ?ho ?hcd ?hb ?hloc ?hk ?hco ?hgen ?hcell ?hS ?h
 case ho=>exact jj
 case hcd=>exact jk
 case hloc=>decide
 case hk=>rfl
 case hco=>rfl
 case hgen=>rfl
 case hcell=>decide
 case hS=>exact⟨by decide,by decide⟩
 case hb=>exact⟨rfl,by decide,fun P s ρ vs X h=>by obtain⟨a,rfl,h1,_⟩:=h.c1;exact⟨[a,_],binds_K (K:=hd.heap_39 P) X rfl (show List.lookup _ (hd.heap_39 P)=_ from by k_is) rfl rfl rfl,h1,⟨_,rfl⟩,trivial⟩⟩
 case h=>
  intro S
  exact(Es.cons (gM S (Io.range (ET S jT j6 iE) (EL S M1) (n:=1) rfl rfl) (.cons trivial SL (Es.cons (NM S (Ev.item (AT (EL S M0) dL) (AT (EL S M0) cO) (bE.str (by assumption) (by assumption) (by assumption))))
  (Es.cons (aR (ak (AT (EL S M0) cO) ac dq) (EL S M0) (by walk_at"lk") (by walk_at"lk") (.there jf .here) oN (by simp))
  (Es.cons (IT (TT (ah (cJ (TC (EL S M3) aa ae)))) (Es.cons (aR (ak (AT (EL S M0) fg) ac dq) (EL S M0) (by walk_at"lk") (by walk_at"lk") (.there fR (.there qi .here)) qC (by simp))
  (Es.cons (aR ac (EL S M0) (by walk_at"lk") (by walk_at"lk") (.there dh (.there gE (.there b9 .here))) gG (by simp))
  Es.nil)))
  Es.nil)))
   (.nil trivial)))
  Es.nil)
 case ee=>simp[List.set_set]
theorem fm(hi:H[self]?=some (.inst 295 d))(hD:H[d]?=some (bI (aq cs) (n:Int) r c f))(hl:cs.length≤1000)(hr:cs.drop n=k::rest)(h1:k≠10)(h2:k≠13) :
  Co GG 4 (.top 243) [.obj self] H .none (H.set d (bI (aq cs) ((n+1:Nat):Int) r (c+1) f)):=by
 have hne:d≠self:=fw hD hi (by simp)
 have hlt:=bC hD
 have hg:=eZ hr
 have hn:n<cs.length:=(J4.mp hg.1).1
 have ei:Txt.item (aq cs) (n:Int)=aq [k]:=og cs hg.1
 have z0:(aq cs).length≤J5:=by rw[az];exact cQ hl
 have zi1:-((aq cs).length:Int)≤(n:Int):=by lia
 have zi2:(n:Int)<(aq cs).length:=by rw[az];lia
 have zi3:fitsSsize (n:Int)=true:=tQ (by lia)
 have c1:(Txt.item (aq cs) (n:Int)==(J0 "\n"))=false:=by rw[ei,q7,cA];simp[h1]
 have c2:(Txt.item (aq cs) (n:Int)==(J0 "\r"))=false:=by rw[ei,E4,cA];simp[h2]
 refine' fW (H₁:=_) ?cc ?ee
 rotate_left
 refine' d8 (args':=[.obj self,.int 1]) (ns:=[J0 "self",J0 "many"]) ?ho ?hcd ?hb ?hloc ?hk ?hco ?hgen ?hcell ?hS ?h
 case ho=>exact jj
 case hcd=>exact jk
 case hloc=>decide
 case hk=>rfl
 case hco=>rfl
 case hgen=>rfl
 case hcell=>decide
 case hS=>exact⟨by decide,by decide⟩
 case hb=>exact⟨rfl,by decide,fun P s ρ vs X h=>by obtain⟨a,rfl,h1,_⟩:=h.c1;exact⟨[a,_],binds_K (K:=hd.heap_39 P) X rfl (show List.lookup _ (hd.heap_39 P)=_ from by k_is) rfl rfl rfl,h1,⟨_,rfl⟩,trivial⟩⟩
 case h=>
  intro S
  exact(Es.cons (gM S (Io.range (ET S jT j6 iE) (EL S M1) (n:=1) rfl rfl) (.cons trivial SL (Es.cons (NM S (Ev.item (AT (EL S M0) dL) (AT (EL S M0) cO) (bE.str (by assumption) (by assumption) (by assumption))))
  (Es.cons (aR (ak (AT (EL S M0) cO) ac dq) (EL S M0) (by walk_at"lk") (by walk_at"lk") (.there jf .here) oN (by simp))
  (Es.cons (IF (TT (ah (aw (TC (EL S M3) aa ae) (aw (TT (ah (am (TC (EL S M3) aa ae)))) bh)))) (Es.cons (aR (ak (AT (EL S M0) du) ac dq) (EL S M0) (by walk_at"lk") (by walk_at"lk") (.there dh (.there gE (.there b9 .here))) gG (by simp))
  Es.nil))
  Es.nil)))
   (.nil trivial)))
  Es.nil)
 case ee=>simp[List.set_set]
end
theorem zj{k:Nat}{H:List O}(hk:k<128):i8 GG 2 (.top 121) [.str (aq [k])] H (.byt #[k.toUInt8]) (H++[.barr #[k.toUInt8]]):=by
 have c1:decide ((55296:Int)≤(k:Int))=false:=by rw[decide_eq_false_iff_not];lia
 have c2:decide ((k:Int)<128)=true:=by rw[decide_eq_true_iff];lia
 have n1:(0:Int)≤(k:Int)∧(k:Int)<256:=by lia
 have ea:∀ j∈[k],j<128:=by simpa using hk
 have e:(H++[O.barr #[]]).set H.length (O.barr (#[].push (k:Int).toNat.toUInt8))=H++[.barr (#[].push (k:Int).toNat.toUInt8)]:=by simp
 rw[show(#[k.toUInt8]:Array UInt8)=#[].push (k:Int).toNat.toUInt8 from by simp]
 refine Ew (H₁:=_) ?cc e
 refine' w7 (args':=[.str (aq [k])]) (ns:=[J0 "text"]) ?ho ?hcd ?hb ?hloc ?hk ?hco ?hgen ?hcell ?hS ?h
 case ho=>exact jj
 case hcd=>exact jk
 case hloc=>decide
 case hk=>rfl
 case hco=>rfl
 case hgen=>rfl
 case hcell=>decide
 case hS=>exact⟨by decide,by decide⟩
 case hb=>exact cI
 case h=>
 intro S
 exact(be.cons (NN S (g9.call (ET S ly lH jV) trivial (dK.of ap.nil) (Bi)))
 (be.cons (C1 S (js.str (EL S M0) (oI ea)) (.cons trivial (.one SL) (be.cons (dz.of (NM S (CB S Dw DK Bg (AA (EL S M2)) (BK))))
 (be.cons (dz.of (IF (TT (fC ac (EL S M3) (dQ cC (by assumption)))) Es.nil))
 (be.cons (eU (b:=true) (TC (EL S M3) ac bQ) (be.cons (dz.expr (iD (g9.of (EL S M1)) (Gm.barr ie mU (by walk_at"lk")) trivial (dK.of (AA (EL S M3))) (sx (by walk_at"lk") n1 (by rw[J9];decide))))
 (be.of Es.nil)))
 (be.of Es.nil))))
  (.nil trivial)))
 (be.of (Es.ret (Ex.ret (CT S wZ xi ux (AA (EL S M1)) (o0 (by walk_at"lk") (by rw[J9];simp))))))))
theorem xR:[J0 "self",J0 "found",J0 "column",J0 "row"].Nodup:=by decide +kernel
theorem dn{H:List O}{self d f n k:Nat}{cs tl:List Nat}{r c:Int}(hi:H[self]?=some (.inst 295 d))(hd:H[d]?=some (bI (aq cs) (n:Int) r c f))(hl:cs.length≤1000)(hr:cs.drop n=k::tl):Co GG 0 (.top 221) [.obj self] H (.str (aq [k])) H:=by
 have:=x5 hi hd (by rw[az];exact cQ hl)
 rwa [s6 hr] at this
theorem sY{H:List O}{self d f n:Nat}{cs w tl:List Nat}{r c:Int}(hi:H[self]?=some (.inst 295 d))(hD:H[d]?=some (bI (aq cs) (n:Int) r c f))(hl:cs.length≤1000)(hr:cs.drop n=34::(w++34::tl))(hw:∀ k∈w,DY k=true)(hwl:w.length≤1000) :
  ∃ v H',i8 GG 8 (.top 278) [.obj self] H v H'∧v=.byt (dy w)∧Kp [d] H H'∧H'[d]?=some (bI (aq cs) ((n+w.length+2:Nat):Int) r (c+((w.length+2:Nat):Int)) f):=by
 have hne:d≠self:=fw hD hi (by simp)
 have hlt:=bC hD
 have hls:=bC hi
 refine' jX (args':=[.obj self]) (ns:=[J0 "self"]) ?ho ?hcd ?hb ?hloc ?hk ?hco ?hgen ?hcell ?hS ?h
 case ho=>exact jj
 case hcd=>exact jk
 case hloc=>decide
 case hk=>rfl
 case hco=>rfl
 case hgen=>rfl
 case hcell=>decide
 case hS=>exact⟨by decide,by decide⟩
 case hb=>exact cI
 case h=>
 intro S
 refine fc (yM S (dK.cons (g9.of (AT (EL S M0) fg)) (dK.cons (g9.of (AT (EL S M0) du)) (dK.cons (g9.call (ET S ly lH jV) trivial (dK.of ap.nil) (Bi)) dK.nil))) (.cons (SL (hst:=(.there (pq) .new))) (.cons (SL (hst:=(.there (nP) (.there (me) .new)))) (.cons (SL (hst:=(.there (tw) (.there (rG) (.there (pF) .new))))) .nil))) (hw:=SW)) ?_
 refine fc (dz.of (Ex.expr (au (EL S M0) (GI dk) lD ap.nil ((fm (d:=d) (n:=n) (r:=r) (c:=c) (f:=f) (by walk_at"lk") (by walk_at"lk") hl hr (by decide) (by decide)).cl)))) ?_
 refine kM fun H1 e1=>?_
 have hi1:H1[self]?=some (.inst 295 d):=by rw[e1];walk_at"lk"
 have hD1:H1[d]?=some (bI (aq cs) ((n+1:Nat):Int) r (c+1) f):=by rw[e1];walk_at"lk"
 have hB1:H1[H.length]?=some (.barr #[]):=by rw[e1];walk_at"lk"
 have k1:Kp [d] H H1:=by rw[e1];exact(Kp.app.trans Kp.app).trans (Kp.set (.head _))
 clear e1
 refine BY (b:=H.length) (bs:=#[]) (w:=w) (tl:=tl) (g:=.tup [.str "\n",.str "\r"]) hi1 hD1 hB1 (eZ hr).2 hw (by simp;lia) ?ht ?hb ?hrest
 case ht=>
  intro H n c k tl hi hD hr
  have c1:(aq [k] != (J0 "\""))=decide (k≠34):=by rw[B1,bne,cA];simp
  exact(lr (gb (au (EL S M0) (GI aQ) dB ap.nil ((dn hi hD hl hr).cl)) aa cy) c1)
 case hb=>
  intro H n c k tl bs hi hD hB hr hk hz
  have hk2:32≤k∧k<127∧k≠34∧k≠92:=by simpa [DY,and_assoc] using hk
  have hk128:k<128:=Nat.lt_trans hk2.2.1 (by decide)
  have hk10:k≠10:=W5 (Nat.lt_of_lt_of_le (by decide) hk2.1)
  have hk13:k≠13:=W5 (Nat.lt_of_lt_of_le (by decide) hk2.1)
  have hne:d≠self:=fw hD hi (by simp)
  have hbs:=fw hB hi (by simp)
  have hbd:=fw hB hD (by simp)
  have hlt:=bC hD
  have hlb:=bC hB
  have c1:(aq [k]==(J0 ""))=false:=by rw[EY,dE];rfl
  have c2:([J0 "\n",J0 "\r"].any fun y=>y==aq [k])=false:=by simp only[List.any_cons,List.any_nil,Bool.or_false,q7,E4,cA];simp;exact⟨Ne.symm hk10,Ne.symm hk13⟩
  have c3:decide ((aq [k]).cps.toList<(J0 " ").cps.toList)=false:=by rw[xB,DX,decide_eq_false_iff_not];exact Nat.not_lt.mpr hk2.1
  have c4:(aq [k]==(J0 "\x7f"))=false:=by rw[EZ,cA];simp;exact W3 hk2.2.1
  have c5:decide ((55296:Int)≤(k:Int))=false:=by rw[decide_eq_false_iff_not];exact Int.not_le.mpr (Int.lt_trans (Int.ofNat_lt.mpr hk2.2.1) (by decide))
  have c6:(aq [k]==(J0 "\\"))=false:=by rw[Gu,cA];simp;exact hk2.2.2.2
  exact(be.less (be.cons (dz.of (NM S (au (EL S M0) (GI aQ) dB ap.nil ((dn hi hD hl hr).cl))))
  (be.cons (dz.of (IF (TT (ah (aw (TC (EL S M4) aa ae) (aw (TC (EL S M4) (Ev.tup (AB aa aa) (bG rfl)) (kR (by walk_at"lk"))) bh)))) Es.nil))
  (be.cons (dz.of (IF (TT (ah (aw (TC (EL S M4) aa EM) (aw (TC (EL S M4) aa ae) bh)))) Es.nil))
  (be.cons (dz.of (IF (TT (fC ac (CB S Dw DK Bg (AA (EL S M4)) (BK)) (dQ cC (by assumption)))) Es.nil))
  (be.cons (eU (b:=false) (TC (EL S M4) aa ae) (be.cons (dz.expr (iD (g9.of (EL S M1)) (Gm.barr ib mT (by walk_at"lk")) trivial (dK.cons (g9.call (EG S yK) Gi (dK.of (AA (EL S M4))) ((zj hk128).cl)) dK.nil) (sw (by walk_at"lk") (by rw[J9];simp;lia))))
  (be.of (Es.cons (Ex.expr (au (EL S M0) (GI dk) lD ap.nil ((fm (d:=d) (n:=n) (r:=r) (c:=c) (f:=f) (by walk_at"lk") (by walk_at"lk") hl hr hk10 hk13).cl)))
  Es.nil))))
  (be.of Es.nil)))))) m9 xR)
 case hrest=>
 intro H2 k2 hi2 hD2 hB2
 have hne:d≠self:=fw hD2 hi2 (by simp)
 have hlt:=bC hD2
 have hbd:=fw hB2 hD2 (by simp)
 have hr2:cs.drop (n+1+w.length)=34::tl:=by
  rw[←List.drop_drop,(eZ hr).2,List.drop_left]
 have k3:Kp [d] H H2:=k1.step k2 (by simp)
 have hbz:(#[]++dy w:Array UInt8).size≤J5:=by rw[J9];simp[dy];lia
 refine mK (d6 (Es.cons (Ex.expr (au (EL S M0) (GI dk) lD ap.nil ((fm (d:=d) (n:=n+1+w.length) (r:=r) (c:=c+1+(w.length:Nat)) (f:=f) (by walk_at"lk") (by walk_at"lk") hl hr2 (by decide) (by decide)).cl)))
 (Es.ret (Ex.ret (CT S wZ xi ux (AA (EL S M1)) (o0 (by walk_at"lk") hbz))))) ⟨by simp,k3.trans (Kp.set (.head _)),?_⟩)
 rw[Q8 hlt]
 rw[show((n+1+w.length+1:Nat):Int)=((n+w.length+2:Nat):Int) from by lia,show c+1+((w.length:Nat):Int)+1=c+((w.length+2:Nat):Int) from by lia]
theorem DZ:[J0 "self",J0 "begin",J0 "row",J0 "column",J0 "octets",J0 "strings"].Nodup:=by decide +kernel
theorem mW{tl:List Nat}(h:p7 tl=true):∃ k t,tl=k::t∧k<128∧k≠34∧uP k=false:=by
 match tl,h with
 | k::t,h=>
 simp only[p7,Bool.or_eq_true,beq_iff_eq] at h
 rcases h with rfl | rfl
 ·exact⟨32,t,rfl,by decide,by decide,by decide⟩
 exact⟨41,t,rfl,by decide,by decide,by decide⟩
theorem mB{I:List Nat}{H X:List O}{f:Nat}{xs:List V}{s t:Str}{v:V}{r c:Int}(k:Kp I H X)(hf:f<H.length) :
  gq H.length ((X++[fM s t v r c]++[O.inst 139 X.length]).set f (O.list (xs++[V.obj (X.length+1)]))) (X.length+1) ⟨s,t,v,r,c⟩:=by
 have:=k.1
 refine⟨X.length,by lia,by lia,?_,?_⟩
 ·rw[V5 (by lia)];exact cj
 rw[V5 (by lia)];exact aF
inductive GN(d f:Nat)(D:O)(xs:List V)(t:Tk)(H H':List O):Prop
 | mk (k:Kp [d,f] H H') (hD:H'[d]?=some D) (i:Nat) (hF:H'[f]?=some (.list (xs++[.obj i]))) (hT:gq H.length H' i t):GN d f D xs t H H'
theorem DV{H:List O}{self d f n:Nat}{cs w tl:List Nat}{r c:Int}{xs:List V}(hi:H[self]?=some (.inst 295 d))(hD:H[d]?=some (bI (aq cs) (n:Int) r c f))(hF:H[f]?=some (.list xs))(hz:xs.length+1≤10000)(hl:cs.length≤1000)(hr:cs.drop n=w++tl)(hok:(Pc.wd w).ok tl) :
  ∃ H',Co GG 10 (.top 285) [.obj self] H .none H'∧GN d f (bI (aq cs) ((n+w.length:Nat):Int) r (c+(w.length:Nat)) f) xs ⟨(a7 w).1,aq w,eO w,r,c⟩ H H':=by
 have hne:d≠self:=fw hD hi (by simp)
 have hfs:f≠self:=fw hF hi (by simp)
 have hfd:f≠d:=fw hF hD (by simp)
 have hlt:=bC hD
 have hlf:=bC hF
 have hls:=bC hi
 obtain⟨w0,w1,w2,w3,w4⟩:=hok
 obtain⟨k',tl',rfl,hk',hq',hid⟩:=mW w4
 refine' BF (args':=[.obj self]) (ns:=[J0 "self"]) ?ho ?hcd ?hb ?hloc ?hk ?hco ?hgen ?hcell ?hS ?h
 case ho=>exact jj
 case hcd=>exact jk
 case hloc=>decide
 case hk=>rfl
 case hco=>rfl
 case hgen=>rfl
 case hcell=>decide
 case hS=>exact⟨by decide,by decide⟩
 case hb=>exact cI
 case h=>
 intro S
 refine eG (sD S (ap.cons (AT (EL S M0) cO) (ap.cons (AT (EL S M0) fg) (ap.cons (AT (EL S M0) du) (ap.cons sF (ap.cons ac ap.nil))))) (bG rfl) (.cons SL (.cons SL (.cons SL (.cons SL (.cons SL .nil)))))) ?_
 refine' eG (Bw (BR (r:=r) (cs:=cs) (f:=f) (self:=self) (d:=d) ?ht ?hb hk' hq' hid w _ n c (by walk_at"lk") (by walk_at"lk") hr w3)) ?rest
 case ht=>
  intro H n c k tl hi hD hr hk hq
  have c1:(aq [k] != (J0 ""))=true:=by rw[EY,bne,dE];rfl
  have c2:(aq [k]==(J0 "\""))=false:=by rw[B1,cA];simp[hq]
  have c3:=Ee hk
  have hh:=(dn hi hD hl hr).cl
  cases e:uP k
  ·rw[e] at c3
   exact(ah (av (TC (au (EL S M0) (GI aQ) dB ap.nil (hh)) aa cy) (am (TT (ah (aw (TC (au (EL S M0) (GI aQ) dB ap.nil (hh)) aa ae) (aw (TC (au (EL S M0) (GI aQ) dB ap.nil (hh)) (sR S gH) aT) bh)))))))
  rw[e] at c3
  exact(ah (av (TC (au (EL S M0) (GI aQ) dB ap.nil (hh)) aa cy) (av (TT (ah (aw (TC (au (EL S M0) (GI aQ) dB ap.nil (hh)) aa ae) (cJ (TC (au (EL S M0) (GI aQ) dB ap.nil (hh)) (sR S gH) aT))))) cD)))
 case hb=>
  intro H n c k tl hi hD hr hk hk2 hq
  have c2:(aq [k]==(J0 "\""))=false:=by rw[B1,cA];simp[hq]
  have hk10:k≠10:=by intro e;subst e;revert hk;decide
  have hk13:k≠13:=by intro e;subst e;revert hk;decide
  exact(Es.less (Es.cons (IF (TC (au (EL S M0) (GI aQ) dB ap.nil ((dn hi hD hl hr).cl)) aa ae) (Es.cons (Ex.expr (au (EL S M0) (GI dk) lD ap.nil ((fm hi hD hl hr hk10 hk13).cl)))
  (Es.cons (NM S bn)
  Es.nil)))
  Es.nil) m9 DZ)
 case rest=>
 refine uF fun H1 e1=>?_
 have hi1:H1[self]?=some (.inst 295 d):=by rw[e1];walk_at"lk"
 have hD1:H1[d]?=some (bI (aq cs) ((n+w.length:Nat):Int) r (c+(w.length:Nat)) f):=by rw[e1];walk_at"lk"
 have hF1:H1[f]?=some (.list xs):=by rw[e1];walk_at"lk"
 have k1:Kp [d] H H1:=by rw[e1];exact Kp.app.trans (Kp.set (by simp))
 have hlt:=bC hD1
 have hlf:=bC hF1
 have hls:=bC hi1
 clear e1
 have z0:(aq cs).length≤J5:=by rw[az];exact cQ hl
 have zx:xs.length≤J5:=zC (Nat.le_of_succ_le hz)
 have esl:Txt.slice (aq cs) (some (n:Int)) (some ((n+w.length:Nat):Int))=aq w:=by
  rw[eW cs (Nat.le_add_right _ _),hr,Nat.add_sub_cancel_left,List.take_left]
 have hsrt:=(s0 (H:=H1++[.tup [.str "reserved",.str (aq w)]]) (fun j hj=>(w3 j hj).2.1) w2 w0 w1).cl
 rw[←esl] at hsrt
 refine eG (NM S (bJ (AT (EL S M0) dL) (aZ (EL S M1)) (aZ (AT (EL S M0) cO)) (by assumption))) ?_
 refine eG (Ex.tuple S (aj (k:=false) (TT (ah (am (TC (EL S M5) ac bF)))) (Ev.tup (AB aa (EL S M6)) (bG rfl))) (by walk_at"lk") (.cons SL (.cons SL .nil))) ?_
 refine eG (IT (TC (EL S M5) ac bF) (Es.cons (Ex.tuple S (CG S pP Gf (AA (EL S M6)) (hsrt)) (by walk_at"lk") (.cons SL (.cons SL .nil)))
 Es.nil)) ?_
 refine uF fun H2 e2=>?_
 rw[esl] at e2
 have hi2:H2[self]?=some (.inst 295 d):=by rw[e2];walk_at"lk"
 have hD2:H2[d]?=some (bI (aq cs) ((n+w.length:Nat):Int) r (c+(w.length:Nat)) f):=by rw[e2];walk_at"lk"
 have hF2:H2[f]?=some (.list xs):=by rw[e2];walk_at"lk"
 have k2:Kp [d] H H2:=by rw[e2];exact(((k1.trans Kp.app).trans Kp.app).trans Kp.app).trans Kp.app
 have hlt2:=bC hD2
 have hlf2:=bC hF2
 clear e2
 refine xd (l':=[]) (Es.cons (Ex.expr (au (AT (EL S M0) eI) (Gm.append (by walk_at"lk")) trivial (AA (CG S eS xb (ap.cons (EL S M7) (ap.cons (EL S M6) (ap.cons (EL S M8) (ap.cons (EL S M2) (ap.cons (EL S M3) ap.nil))))) (gB))) (Cl.append (by walk_at"lk") zx)))
 Es.nil) (fun _ h=>nomatch h) V7 ⟨((k2.sub (by simp)).trans (Kp.app.trans Kp.app)).trans (Kp.set (by simp)),?_,_,Q8 (by simp;lia),by rw[esl];exact mB k2 (bC hF)⟩
 walk_at"lk"
theorem DW{H:List O}{self d f n:Nat}{cs w tl:List Nat}{r c:Int}{xs:List V}(hi:H[self]?=some (.inst 295 d))(hD:H[d]?=some (bI (aq cs) (n:Int) r c f))(hF:H[f]?=some (.list xs))(hz:xs.length+1≤10000)(hl:cs.length≤1000)(hr:cs.drop n=34::(w++[34])++tl)(hok:(Pc.st w).ok tl) :
  ∃ H',i8 GG 10 (.top 285) [.obj self] H .none H'∧GN d f (bI (aq cs) ((n+w.length+2:Nat):Int) r (c+((w.length+2:Nat):Int)) f) xs ⟨"string",aq (34::(w++[34])),.byt (dy w),r,c⟩ H H':=by
 have hne:d≠self:=fw hD hi (by simp)
 have hfs:f≠self:=fw hF hi (by simp)
 have hfd:f≠d:=fw hF hD (by simp)
 have hlt:=bC hD
 have hlf:=bC hF
 have hls:=bC hi
 obtain⟨w0,w1,w4⟩:=hok
 obtain⟨k',tl',rfl,hk',hq',hid⟩:=mW w4
 have hr':cs.drop n=34::(w++34::(k'::tl')):=by rw[hr];simp
 have hr2:cs.drop (n+w.length+2)=k'::tl':=by
  have:(34::(w++[34])++k'::tl').drop (w.length+2)=k'::tl':=by
   rw[show w.length+2=(34::(w++[34])).length from by simp,List.drop_left]
  rw[Nat.add_assoc,← List.drop_drop,hr,this]
 have z0:(aq cs).length≤J5:=by rw[az];exact cQ hl
 have zx:xs.length≤J5:=zC (Nat.le_of_succ_le hz)
 refine' yO (args':=[.obj self]) (ns:=[J0 "self"]) ?ho ?hcd ?hb ?hloc ?hk ?hco ?hgen ?hcell ?hS ?h
 case ho=>exact jj
 case hcd=>exact jk
 case hloc=>decide
 case hk=>rfl
 case hco=>rfl
 case hgen=>rfl
 case hcell=>decide
 case hS=>exact⟨by decide,by decide⟩
 case hb=>exact cI
 case h=>
 intro S
 refine gw (dz.of (sD S (ap.cons (AT (EL S M0) cO) (ap.cons (AT (EL S M0) fg) (ap.cons (AT (EL S M0) du) (ap.cons sF (ap.cons ac ap.nil))))) (bG rfl) (.cons SL (.cons SL (.cons SL (.cons SL (.cons SL .nil))))))) ?_
 refine qK fun H1 e1=>?_
 have hi1:H1[self]?=some (.inst 295 d):=by rw[e1];walk_at"lk"
 have hD1:H1[d]?=some (bI (aq cs) (n:Int) r c f):=by rw[e1];walk_at"lk"
 have hF1:H1[f]?=some (.list xs):=by rw[e1];walk_at"lk"
 have k1:Kp [d] H H1:=by rw[e1];exact Kp.app
 clear e1
 obtain⟨v,H2,hs,rfl,k2,hD2⟩:=sY hi1 hD1 hl hr' w0 w1
 have hi2:H2[self]?=some (.inst 295 d):=k2.get hi1 (by simp;lia)
 have hF2:H2[f]?=some (.list xs):=k2.get hF1 (by simp;lia)
 have hlt2:=bC hD2
 have hlf2:=bC hF2
 have hls2:=bC hi2
 refine' gw (kL (.step ?t1 ?b1 (.done ?t2))) ?rest
 case t1=>
  have c1:(aq [34] != (J0 ""))=true:=by rw[EY,bne,dE];rfl
  have c2:(aq [34]==(J0 "\""))=true:=by rw[B1,cA];simp
  have hh:=(dn hi1 hD1 hl hr').cl
  exact(ah (av (TC (au (EL S M0) (GI aQ) dB ap.nil (hh)) aa cy) (av (TT (ah (cJ (TC (au (EL S M0) (GI aQ) dB ap.nil (hh)) aa ae)))) cD)))
 case b1=>
  have c2:(aq [34]==(J0 "\""))=true:=by rw[B1,cA];simp
  have hh:=(dn hi1 hD1 hl hr').cl
  exact(be.cons (eU (b:=true) (TC (au (EL S M0) (GI aQ) dB ap.nil (hh)) aa ae) (be.cons (yN S (dK.cons (iD (g9.of (EL S M0)) (GI sy) Ge (dK.of ap.nil) (hs.cl)) (dK.cons (g9.of (ak (EL S M5) ac dq)) dK.nil)) (.cons (SL (hst:=(.there (lS) (.there (kz) (.there (nT) (.there (jB) (.there (jz) .here))))))) (.cons (SL (hst:=(.there (nO) (.there (mr) (.there (pw) (.there (ko) .here)))))) .nil)) (hw:=SW))
  (be.of (Es.cons (NM S bn)
  Es.nil))))
  (be.of Es.nil))
 case t2=>
  have c1:(aq [k'] != (J0 ""))=true:=by rw[EY,bne,dE];rfl
  have c2:(aq [k']==(J0 "\""))=false:=by rw[B1,cA];simp[hq']
  have c3:=Ee hk'
  rw[hid] at c3
  have hh:=(dn (H:=H2++[.tup [.byt (dy w),.int (0+1)]]) (self:=self) (d:=d) (r:=r) (c:=c+((w.length+2:Nat):Int)) (f:=f) (by walk_at"lk") (by walk_at"lk") hl hr2).cl
  exact(ah (av (TC (au (EL S M0) (GI aQ) dB ap.nil (hh)) aa cy) (am (TT (ah (aw (TC (au (EL S M0) (GI aQ) dB ap.nil (hh)) aa ae) (aw (TC (au (EL S M0) (GI aQ) dB ap.nil (hh)) (sR S gH) aT) bh)))))))
 case rest=>
 have esl:Txt.slice (aq cs) (some (n:Int)) (some ((n+w.length+2:Nat):Int))=aq (34::(w++[34])):=by
  rw[eW cs (J7 (Nat.le_add_right n _) (Nat.le_add_right _ 2)),hr,show n+w.length+2-n=(34::(w++[34])).length from by rw[Nat.add_assoc,Nat.add_sub_cancel_left,List.length_cons,V6];rfl,List.take_left]
 have ei:Txt.item (Txt.slice (aq cs) (some (n:Int)) (some ((n+w.length+2:Nat):Int))) 0=aq [34]:=by rw[esl];exact gp rfl
 have c4:(Txt.item (Txt.slice (aq cs) (some (n:Int)) (some ((n+w.length+2:Nat):Int))) 0 != (J0 "\""))=false:=by rw[ei,B1,bne,cA];simp
 have zi1:-((Txt.slice (aq cs) (some (n:Int)) (some ((n+w.length+2:Nat):Int))).length:Int)≤0:=by lia
 have zi2:(0:Int)<(Txt.slice (aq cs) (some (n:Int)) (some ((n+w.length+2:Nat):Int))).length:=by rw[esl,az];simp;lia
 refine gw (dz.of (NM S (bJ (AT (EL S M0) dL) (aZ (EL S M1)) (aZ (AT (EL S M0) cO)) (by assumption)))) ?_
 refine gw (dz.of (Ex.tuple S (aj (k:=true) (TT (ah (av (TC (EL S M5) ac bF) (av (TT (Te.val (EL S M6) Tv.bool)) cD)))) (Ev.tup (AB aa (EL S M4)) (bG rfl))) (by walk_at"lk") (.cons SL (.cons SL .nil)))) ?_
 refine gw (dz.of (IF (TC (EL S M5) ac bF) (Es.cons (IF (TT (ah (av (TC (EL S M8) aa ae) (am (TC (Ev.item (EL S M7) ac (bE.str (by assumption) (by assumption) (by decide))) aa cy))))) Es.nil)
 Es.nil))) ?_
 refine qK fun H3 e3=>?_
 have hi3:H3[self]?=some (.inst 295 d):=by rw[e3];walk_at"lk"
 have hD3:H3[d]?=some (bI (aq cs) ((n+w.length+2:Nat):Int) r (c+((w.length+2:Nat):Int)) f):=by rw[e3];walk_at"lk"
 have hF3:H3[f]?=some (.list xs):=by rw[e3];walk_at"lk"
 have k3:Kp [d] H H3:=by rw[e3];exact((k1.trans k2).trans Kp.app).trans Kp.app
 have hlt3:=bC hD3
 have hlf3:=bC hF3
 clear e3
 refine fE (l':=[]) (be.of (Es.cons (Ex.expr (au (AT (EL S M0) eI) (Gm.append (by walk_at"lk")) trivial (AA (CG S eS xb (ap.cons (EL S M8) (ap.cons (EL S M7) (ap.cons (EL S M9) (ap.cons (EL S M2) (ap.cons (EL S M3) ap.nil))))) (gB))) (Cl.append (by walk_at"lk") zx)))
 Es.nil)) (fun _ h=>nomatch h) V7 ⟨((k3.sub (by simp)).trans (Kp.app.trans Kp.app)).trans (Kp.set (by simp)),?_,_,Q8 (by simp;lia),by rw[esl];exact mB k3 (bC hF)⟩
 walk_at"lk"
noncomputable def Fx(k:Nat):Bool:=!uP k || ((iT " \t\n\r" (aq [k])).isEmpty && (iT "()" (aq [k])).isEmpty && (iT ",;[]{}" (aq [k])).isEmpty && k != 59 && k != 40)
theorem A2:(List.range 128).all Fx=true:=by decide +kernel
theorem Ef{k:Nat}(hk:k<128)(h:uP k=true):(iT " \t\n\r" (aq [k])).isEmpty=true∧(iT "()" (aq [k])).isEmpty=true∧(iT ",;[]{}" (aq [k])).isEmpty=true∧k≠59∧k≠40:=by
 have:=kJ A2 hk
 unfold Fx at this
 rw[h] at this
 simpa [and_assoc] using this
theorem dM{H:List O}{self d f n:Nat}{cs rest:List Nat}{r c:Int}{w:Str}{w2:List Nat}(hw:w=aq w2)(hi:H[self]?=some (.inst 295 d))(hD:H[d]?=some (bI (aq cs) (n:Int) r c f))(hl:cs.length≤1000)(hr:cs.drop n=rest)(hz:w2.length≤1000) :
  Co GG 2 (.top 228) [.obj self,.str w] H (.bool (rest.take w2.length==w2)) H:=by
 have:=sZ (w:=w) hi hD hl (by rw[hw,az];exact hz)
 rw[hw,az,mZ hr,dE] at this
 rw[hw];exact this
theorem iK:[J0 "self"].Nodup:=by decide
theorem uS{H:List O}{self d f:Nat}{cs:List Nat}{ps:List Pc}{r c:Int}(hi:H[self]?=some (.inst 295 d))(hD:H[d]?=some (bI (aq cs) ((0:Nat):Int) r c f))(hF:H[f]?=some (.list []))(hl:cs.length≤1000)(hr:cs=aE ps)(ho:tf ps)(hz:ps.length≤1000) :
  ∃ v H',i8 GG 12 (.top 292) [.obj self] H v H'∧v=.obj f∧Kp [d,f] H H'∧∃ vs,H'[f]?=some (.list vs)∧bl H.length H' vs (eg ps r c):=by
 refine' jX (args':=[.obj self]) (ns:=[J0 "self"]) ?ho ?hcd ?hb ?hloc ?hk ?hco ?hgen ?hcell ?hS ?h
 case ho=>exact jj
 case hcd=>exact jk
 case hloc=>decide
 case hk=>rfl
 case hco=>rfl
 case hgen=>rfl
 case hcell=>decide
 case hS=>exact⟨by decide,by decide⟩
 case hb=>exact cI
 case h=>
 intro S
 refine ve (n:=0) (ps:=ps) (xs:=[]) (cs:=cs) hi hD hF (by simp;lia) hr ho ?ht ?hb ?hrest
 case ht=>
  intro H n r c hi hD
  have z0:(aq cs).length≤J5:=by rw[az];exact cQ hl
  have c1:decide ((n:Int)<((aq cs).length:Int))=decide (n<cs.length):=by rw[az,decide_eq_decide];exact Int.ofNat_lt
  exact(lr (gb (AT (EL S M0) cO) (CB S aM aN aA (AA (AT (EL S M0) dL)) (ez z0)) bQ) c1)
 case hrest=>
  intro H2 vs k2 hi2 hD2 hF2 hT2
  obtain⟨n2,r2,c2,hD2⟩:=hD2
  exact mK (d6 (Es.ret (Ex.ret (AT (EL S M0) eI))) ⟨rfl,k2,vs,hF2,hT2⟩)
 case hb=>
 intro p H n r c xs tl hi hD hF hz hr hok
 have hne:d≠self:=fw hD hi (by simp)
 have hfs:f≠self:=fw hF hi (by simp)
 have hfd:f≠d:=fw hF hD (by simp)
 have hlt:=bC hD
 have hlf:=bC hF
 have hls:=bC hi
 have zx:xs.length≤J5:=zC (Nat.le_of_succ_le hz)
 cases p with
 | nl=>
  have hr:cs.drop n=10::tl:=hr
  have c1:(!(iT " \t\n\r" (aq [10])).isEmpty)=true:=by decide +kernel
  refine fE (be.of (Es.cons (NM S (au (EL S M0) (GI aQ) dB ap.nil ((dn hi hD hl hr).cl)))
  (Es.cons (IT (TC (EL S M1) (sR S gv) aT) (Es.cons (Ex.expr (au (EL S M0) (GI dk) lD ap.nil ((BZ hi hD hl hr rfl).cl)))
  Es.nil))
  Es.nil))) m9 iK ⟨Kp.set (by simp),cR hlt,[],?_,trivial⟩
  rw[List.append_nil];walk_at"lk"
 | sp=>
  have hr:cs.drop n=32::tl:=hr
  have c1:(!(iT " \t\n\r" (aq [32])).isEmpty)=true:=by decide +kernel
  refine fE (be.of (Es.cons (NM S (au (EL S M0) (GI aQ) dB ap.nil ((dn hi hD hl hr).cl)))
  (Es.cons (IT (TC (EL S M1) (sR S gv) aT) (Es.cons (Ex.expr (au (EL S M0) (GI dk) lD ap.nil ((fm hi hD hl hr (by decide) (by decide)).cl)))
  Es.nil))
  Es.nil))) m9 iK ⟨Kp.set (by simp),cR hlt,[],?_,trivial⟩
  rw[List.append_nil];walk_at"lk"
 | op=>
  have hr:cs.drop n=40::tl:=hr
  have hok:tl.take 1≠[59]:=hok
  have c1:(!(iT " \t\n\r" (aq [40])).isEmpty)=false:=by decide +kernel
  have c2:(!(iT "()" (aq [40])).isEmpty)=true:=by decide +kernel
  have s1:=(dM (w:=";;") (w2:=[59,59]) (by kernel_rfl) hi hD hl hr (by decide)).cl
  have s2:=(dM (w:="(;") (w2:=[40,59]) (by kernel_rfl) hi hD hl hr (by decide)).cl
  rw[show(List.take ([59,59]:List Nat).length (40::tl)==[59,59])=false from by simp] at s1
  rw[show(List.take ([40,59]:List Nat).length (40::tl)==[40,59])=false from by simpa using hok] at s2
  refine fE (be.of (Es.cons (NM S (au (EL S M0) (GI aQ) dB ap.nil ((dn hi hD hl hr).cl)))
  (Es.cons (IF (TC (EL S M1) (sR S gv) aT) (Es.cons (IF (TT (Te.val (au (EL S M0) (GI cE) lE (AA aa) (s1)) Tv.bool)) (Es.cons (IF (TT (Te.val (au (EL S M0) (GI cE) lE (AA aa) (s2)) Tv.bool)) (Es.cons (IT (TC (EL S M1) aa aT) (Es.cons (Ex.expr (au (AT (EL S M0) eI) (Gm.append (by walk_at"lk")) trivial (AA (CG S eS xb (ap.cons (EL S M1) (ap.cons (EL S M1) (ap.cons (EL S M1) (ap.cons (AT (EL S M0) fg) (ap.cons (AT (EL S M0) du) ap.nil))))) (gB))) (Cl.append (by walk_at"lk") zx)))
  (Es.cons (Ex.expr (au (EL S M0) (GI dk) lD ap.nil ((fm (d:=d) (n:=n) (r:=r) (c:=c) (f:=f) (by walk_at"lk") (by walk_at"lk") hl hr (by decide) (by decide)).cl)))
  Es.nil)))
  Es.nil))
  Es.nil))
  Es.nil))
  Es.nil))) m9 iK ⟨((Kp.app.trans Kp.app).trans (Kp.set (by simp))).trans (Kp.set (by simp)),cR (by walk_at"lt"),[.obj (H.length+1)],?_,?_⟩
  ·walk_at"lk"
  show bl _ _ _ [⟨J0 "(",J0 "(",.str "(",r,c⟩]
  rw[DU]
  exact⟨⟨_,rfl,(mB (I:=[]) Kp.refl hlf).keep (I:=[d]) (Kp.set (by simp)) (by simpa using hlt)⟩,trivial⟩
 | cl=>
  have hr:cs.drop n=41::tl:=hr
  have c1:(!(iT " \t\n\r" (aq [41])).isEmpty)=false:=by decide +kernel
  have c2:(!(iT "()" (aq [41])).isEmpty)=true:=by decide +kernel
  have s1:=(dM (w:=";;") (w2:=[59,59]) (by kernel_rfl) hi hD hl hr (by decide)).cl
  have s2:=(dM (w:="(;") (w2:=[40,59]) (by kernel_rfl) hi hD hl hr (by decide)).cl
  rw[show(List.take ([59,59]:List Nat).length (41::tl)==[59,59])=false from by simp] at s1
  rw[show(List.take ([40,59]:List Nat).length (41::tl)==[40,59])=false from by simp] at s2
  refine fE (be.of (Es.cons (NM S (au (EL S M0) (GI aQ) dB ap.nil ((dn hi hD hl hr).cl)))
  (Es.cons (IF (TC (EL S M1) (sR S gv) aT) (Es.cons (IF (TT (Te.val (au (EL S M0) (GI cE) lE (AA aa) (s1)) Tv.bool)) (Es.cons (IF (TT (Te.val (au (EL S M0) (GI cE) lE (AA aa) (s2)) Tv.bool)) (Es.cons (IT (TC (EL S M1) aa aT) (Es.cons (Ex.expr (au (AT (EL S M0) eI) (Gm.append (by walk_at"lk")) trivial (AA (CG S eS xb (ap.cons (EL S M1) (ap.cons (EL S M1) (ap.cons (EL S M1) (ap.cons (AT (EL S M0) fg) (ap.cons (AT (EL S M0) du) ap.nil))))) (gB))) (Cl.append (by walk_at"lk") zx)))
  (Es.cons (Ex.expr (au (EL S M0) (GI dk) lD ap.nil ((fm (d:=d) (n:=n) (r:=r) (c:=c) (f:=f) (by walk_at"lk") (by walk_at"lk") hl hr (by decide) (by decide)).cl)))
  Es.nil)))
  Es.nil))
  Es.nil))
  Es.nil))
  Es.nil))) m9 iK ⟨((Kp.app.trans Kp.app).trans (Kp.set (by simp))).trans (Kp.set (by simp)),cR (by walk_at"lt"),[.obj (H.length+1)],?_,?_⟩
  ·walk_at"lk"
  show bl _ _ _ [⟨J0 ")",J0 ")",.str ")",r,c⟩]
  rw[E9]
  exact⟨⟨_,rfl,(mB (I:=[]) Kp.refl hlf).keep (I:=[d]) (Kp.set (by simp)) (by simpa using hlt)⟩,trivial⟩
 | wd w=>
  have hr:cs.drop n=w++tl:=hr
  obtain⟨H',h1,k1,hD1,i,hF1,hT1⟩:=DV hi hD hF hz hl hr hok
  obtain⟨w0,w1,w2,w3,w4⟩:=hok
  match w,w0 with
  | k::w',_=>
  have hr:cs.drop n=k::(w'++tl):=hr
  have hk:=w3 k K5
  obtain⟨q1,q2,q3,q4,q5⟩:=Ef hk.2.1 hk.1
  have c1:(!(iT " \t\n\r" (aq [k])).isEmpty)=false:=by rw[q1];rfl
  have c2:(!(iT "()" (aq [k])).isEmpty)=false:=by rw[q2];rfl
  have c3:(!(iT ",;[]{}" (aq [k])).isEmpty)=false:=by rw[q3];rfl
  have c4:(aq [k]==(J0 "\""))=false:=by rw[B1,cA];simp[hk.2.2]
  have c5:(!(iT "0123456789abcdefghijklmnopqrstuvwxyzABCDEFGHIJKLMNOPQRSTUVWXYZ!#$%&'*+-./:<=>?@\\^_`|~" (aq [k])).isEmpty)=true:=by rw[Ee hk.2.1];exact hk.1
  have s1:=(dM (w:=";;") (w2:=[59,59]) (by kernel_rfl) hi hD hl hr (by decide)).cl
  have s2:=(dM (w:="(;") (w2:=[40,59]) (by kernel_rfl) hi hD hl hr (by decide)).cl
  rw[show(List.take ([59,59]:List Nat).length (k::(w'++tl))==[59,59])=false from by simp[q4]] at s1
  rw[show(List.take ([40,59]:List Nat).length (k::(w'++tl))==[40,59])=false from by simp[q5]] at s2
  refine fE (be.of (Es.cons (NM S (au (EL S M0) (GI aQ) dB ap.nil ((dn hi hD hl hr).cl)))
  (Es.cons (IF (TC (EL S M1) (sR S gv) aT) (Es.cons (IF (TT (Te.val (au (EL S M0) (GI cE) lE (AA aa) (s1)) Tv.bool)) (Es.cons (IF (TT (Te.val (au (EL S M0) (GI cE) lE (AA aa) (s2)) Tv.bool)) (Es.cons (IF (TC (EL S M1) aa aT) (Es.cons (IF (TC (EL S M1) (sR S jU) aT) (Es.cons (IT (TT (ah (aw (TC (EL S M1) aa ae) (cJ (TC (EL S M1) (sR S gH) aT))))) (Es.cons (Ex.expr (au (EL S M0) (GI qM) DD ap.nil (h1.cl)))
  Es.nil))
  Es.nil))
  Es.nil))
  Es.nil))
  Es.nil))
  Es.nil))
  Es.nil))) m9 iK ⟨k1,hD1,_,hF1,⟨_,rfl,hT1⟩,trivial⟩
 | st w=>
 have hr:cs.drop n=34::(w++[34])++tl:=hr
 obtain⟨H',h1,k1,hD1,i,hF1,hT1⟩:=DW hi hD hF hz hl hr hok
 have hr:cs.drop n=34::(w++[34]++tl):=hr
 have c1:(!(iT " \t\n\r" (aq [34])).isEmpty)=false:=by decide +kernel
 have c2:(!(iT "()" (aq [34])).isEmpty)=false:=by decide +kernel
 have c3:(!(iT ",;[]{}" (aq [34])).isEmpty)=false:=by decide +kernel
 have c4:(aq [34]==(J0 "\""))=true:=by rw[B1,cA];simp
 have s1:=(dM (w:=";;") (w2:=[59,59]) (by kernel_rfl) hi hD hl hr (by decide)).cl
 have s2:=(dM (w:="(;") (w2:=[40,59]) (by kernel_rfl) hi hD hl hr (by decide)).cl
 rw[show(List.take ([59,59]:List Nat).length (34::(w++[34]++tl))==[59,59])=false from by simp] at s1
 rw[show(List.take ([40,59]:List Nat).length (34::(w++[34]++tl))==[40,59])=false from by simp] at s2
 have en:n+(Pc.st w).chars.length=n+w.length+2:=by simp[Pc.chars];lia
 have ec:((Pc.st w).chars.length:Nat)=w.length+2:=by simp[Pc.chars]
 show ∃ H',be _ _ _ _ _ _ _ _ H'∧Kp [d,f] H H'∧H'[d]?=some (bI (aq cs) ((n+(Pc.st w).chars.length:Nat):Int) r (c+((Pc.st w).chars.length:Nat)) f)∧_
 rw[en,ec]
 refine fE (be.cons (dz.of (NM S (au (EL S M0) (GI aQ) dB ap.nil ((dn hi hD hl hr).cl))))
 (be.cons (eU (b:=false) (TC (EL S M1) (sR S gv) aT) (be.cons (eU (b:=false) (TT (Te.val (au (EL S M0) (GI cE) lE (AA aa) (s1)) Tv.bool)) (be.cons (eU (b:=false) (TT (Te.val (au (EL S M0) (GI cE) lE (AA aa) (s2)) Tv.bool)) (be.cons (eU (b:=false) (TC (EL S M1) aa aT) (be.cons (eU (b:=false) (TC (EL S M1) (sR S jU) aT) (be.cons (eU (b:=true) (TT (ah (cJ (TC (EL S M1) aa ae)))) (be.cons (dz.expr (iD (g9.of (EL S M0)) (GI qM) DD (dK.of ap.nil) (h1.cl)))
 (be.of Es.nil)))
 (be.of Es.nil)))
 (be.of Es.nil)))
 (be.of Es.nil)))
 (be.of Es.nil)))
 (be.of Es.nil)))
 (be.of Es.nil))) m9 iK ⟨k1,hD1,_,hF1,⟨_,rfl,hT1⟩,trivial⟩
theorem sV{H:List O}{cs:List Nat}{ps:List Pc}(hl:cs.length≤1000)(hr:cs=aE ps)(ho:tf ps)(hz:ps.length≤1000) :
  ∃ v H',i8 GG 14 (.top 306) [.str (aq cs)] H v H'∧∃ f vs,v=.obj f∧H.length≤f∧Kp [] H H'∧H'[f]?=some (.list vs)∧bl H.length H' vs (eg ps 1 1):=by
 refine' jX (args':=[.str (aq cs)]) (ns:=[J0 "text"]) ?ho ?hcd ?hb ?hloc ?hk ?hco ?hgen ?hcell ?hS ?h
 case ho=>exact jj
 case hcd=>exact jk
 case hloc=>decide
 case hk=>rfl
 case hco=>rfl
 case hgen=>rfl
 case hcell=>decide
 case hS=>exact⟨by decide,by decide⟩
 case hb=>exact cI
 case h=>
 intro S
 have g1:(H++[bI (aq cs) 0 1 1 (H.length+2)]++[.inst 295 H.length]++[.list []])[H.length+1]?=some (.inst 295 H.length):=g8 cj
 have g2:(H++[bI (aq cs) 0 1 1 (H.length+2)]++[.inst 295 H.length]++[.list []])[H.length]?=some (bI (aq cs) 0 1 1 (H.length+2)):=g8 aF
 obtain⟨v,H',h1,rfl,k1,vs,hF1,hT1⟩:=uS (H:=H++[bI (aq cs) 0 1 1 (H.length+2)]++[.inst 295 H.length]++[.list []]) (self:=H.length+1) (d:=H.length) (f:=H.length+2) (r:=1) (c:=1) g1 g2 (by rw[Q6 (by simp)];simp) hl hr ho hz
 refine Be (be.ret (dz.ret (iD (g9.of (CG S C0 Gb (AA (EL S M0)) (vu))) (GI uz) Gc (dK.of ap.nil) (h1.cl)))) ⟨H.length+2,vs,rfl,by lia,?_,hF1,hT1.low (by simp)⟩
 exact((Kp.app.trans Kp.app).trans Kp.app).step k1 (by simp)
theorem jH:[J0 "text",J0 "opened",J0 "found"].Nodup:=by decide +kernel
theorem uX{H:List O}{cs:List Nat}{ps:List Pc}{brs:List Br}(hl:cs.length≤1000)(hr:cs=aE ps)(hok:tf ps)(hz:ps.length≤1000)(htk:eg ps 1 1=brs.flatMap Br.toks)(hgood:∀ b∈brs,b.good∧b.items.length≤50)(hbz:brs.length≤100) :
  ∃ v H',i8 GG 16 (.top 313) [.str (aq cs)] H v H'∧∃ f ws,v=.obj f∧H.length≤f∧Kp [] H H'∧H'[f]?=some (.list ws)∧fX H.length H' ws brs:=by
 refine' jX (args':=[.str (aq cs)]) (ns:=[J0 "text"]) ?ho ?hcd ?hb ?hloc ?hk ?hco ?hgen ?hcell ?hS ?h
 case ho=>exact jj
 case hcd=>exact jk
 case hloc=>decide
 case hk=>rfl
 case hco=>rfl
 case hgen=>rfl
 case hcell=>decide
 case hS=>exact⟨by decide,by decide⟩
 case hb=>exact cI
 case h=>
 intro S
 refine fc (dz.of (iH S (AB (Ev.list ap.nil (bG rfl)) (Ev.list ap.nil (bG rfl))) (.cons (SL (hst:=(.there (nI) .new))) (.cons (SL (hst:=(.there (eD) (.there (lX) .new)))) .nil)) (hw:=SW))) ?_
 refine kM fun H1 e1=>?_
 have l1:H1.length=H.length+3:=by rw[e1];simp
 have o1:H1[H.length+1]?=some (.list []):=by rw[e1];exact g8 cj
 have f1:H1[H.length]?=some (.list []):=by rw[e1];exact g8 aF
 have k1:Kp [] H H1:=by rw[e1];exact(Kp.app.trans Kp.app).trans Kp.app
 have en:(H++[O.list []]).length=H.length+1:=by simp
 rw[en]
 clear e1
 obtain⟨v,H2,h2,tl,all,rfl,m2,k2,t2,tk2⟩:=sV (H:=H1) hl hr hok hz
 rw[htk] at tk2
 have o2:=k2.get o1 J8
 have f2:=k2.get f1 J8
 have l2:=k2.1
 generalize eN:H.length=N at *
 refine xo (op:=N+1) (fo:=N) (tl:=tl) (all:=all) (H2:=H2) (brs:=brs) S ?hi t2 (tk2.low (Nat.zero_le _)) hgood hbz o2 f2 (by lia) (by lia) (by lia) ⟨?opn,?leaf,?cl1,?cl2⟩ ?hrest
 case hi=>exact g9.call (cK S Bb (by walk_at"mem")) Ga (dK.of (ap.cons (Ev.loc S (.head _) (by walk_at"mem")) ap.nil)) h2.cl
 case hrest=>
  intro H3 ws k3 o3 f3 hA
  exact mK (d6 (Es.cons (IF (TC (CB S aM aN aA (AA (EL S M1)) (ar o3 (by rw[J9];decide))) ac gP) Es.nil)
  (Es.ret (Ex.ret (EL S M2)))) ⟨N,ws,rfl,Nat.le_refl _,(k1.trans k2).step k3 (by simp;lia),f3,hA.low (by lia)⟩)
 case opn=>
  intro H i t ps ht hs ho hz
  obtain⟨e,_,_,hi,hD⟩:=ht
  have hlo:=bC ho
  have c1:(t.sort==(J0 "("))=true:=by rw[hs];exact beq_self_eq_true _
  have bm:=ue (H:=H++[.list []]) (items:=H.length) (row:=t.row) (col:=t.col)
  rw[show(H++[O.list []]).length=H.length+1 from by simp] at bm
  have zp:ps.length≤J5:=cQ (J7 hz (by decide))
  refine⟨_,_,(.one (.loc (by walk_at"mem") (.there eC (.there dG (.there dU .new))))),?_⟩
  exact(Es.less (Es.cons (IT (TC (AT (EL S M3) cz) aa ae) (Es.cons (Ex.expr (au (EL S M1) (Gm.append (by walk_at"lk")) trivial (AA (CG S oR Gg (AC (Ev.list ap.nil (bG rfl)) (AT (EL S M3) cX) (AT (EL S M3) bN)) (bm))) (Cl.append (by walk_at"lk") zp)))
  Es.nil))
  Es.nil) m9 jH)
 case leaf=>
  intro H i t ps br b its r c ys ht hp ho hz hb hbd hi hy
  obtain⟨e,_,_,hi',hD'⟩:=ht
  have c1:(t.sort==(J0 "("))=false:=by simpa using hp.1
  have c2:(t.sort==(J0 ")"))=false:=by simpa using hp.2
  have zp:(ps++[V.obj br]).length≤J5:=by rw[J9];simp;lia
  have zy:ys.length≤J5:=cQ (J7 ‹ys.length≤100› (by decide))
  have c3:decide ((0:Int)<((ps++[V.obj br]).length:Int))=true:=by rw[decide_eq_true_iff];simp <;> lia
  refine⟨_,_,(.one (.loc (by walk_at"mem") (.there eC (.there dG (.there dU .new))))),?_⟩
  exact(Es.less (Es.cons (IF (TC (AT (EL S M3) cz) aa ae) (Es.cons (NM S (EL S M3))
  (Es.cons (IF (TC (AT (EL S M3) cz) aa ae) Es.nil)
  (Es.cons (NM S (aj (k:=true) (TC (CB S aM aN aA (AA (EL S M1)) (ar ho zp)) ac gP) (uE (Ev.item (EL S M1) (aK ac) (j0 ho (by decide) (by simp;lia) (by decide) tK)) (by walk_at"lk") (by walk_at"lk") (by walk_at"st") aW (by intro n h;cases h))))
  (Es.cons (Ex.expr (au (EL S M5) (Gm.append (by walk_at"lk")) trivial (AA (EL S M4)) (Cl.append (by walk_at"lk") zy)))
  Es.nil)))))
  Es.nil) m9 jH)
 case cl1=>
  intro H i t br xs ht hs ho hf hx hne
  obtain⟨e,_,_,hi',hD'⟩:=ht
  have hlo:=bC ho
  have hlf:=bC hf
  have c1:(t.sort==(J0 "("))=false:=by rw[hs];kernel_rfl
  have c2:(t.sort==(J0 ")"))=true:=by rw[hs];exact beq_self_eq_true _
  have z1:[V.obj br].length≤J5:=by rw[J9];simp
  have z2:([]:List V).length<J5:=by rw[J9];decide
  have z0:([]:List V).length≤J5:=by rw[J9];decide
  have zx:xs.length≤J5:=by rw[J9];lia
  have o2:(H.set (N+1) (.list []))[N+1]?=some (.list []):=cR hlo
  refine⟨_,_,(.one (.loc (by walk_at"mem") (.there eC (.there dG (.there dU .new))))),?_⟩
  exact(Es.less (Es.cons (IF (TC (AT (EL S M3) cz) aa ae) (Es.cons (NM S (EL S M3))
  (Es.cons (IT (TC (AT (EL S M3) cz) aa ae) (Es.cons (IF (TC (CB S aM aN aA (AA (EL S M1)) (ar ho z1)) ac bF) Es.nil)
  (Es.cons (NM S (au (EL S M1) (Gm.list PySem.F.slot_list_pop PySem.F.type_list_pop (by walk_at"lk")) trivial ap.nil (ww (xs:=[]) ho z2)))
  Es.nil)))
  (Es.cons (NM S (aj (k:=false) (TC (CB S aM aN aA (AA (EL S M1)) (ar o2 z0)) ac gP) (EL S M2)))
  (Es.cons (Ex.expr (au (EL S M5) (Gm.append (by walk_at"lk")) trivial (AA (EL S M4)) (Cl.append (by walk_at"lk") zx)))
  Es.nil)))))
  Es.nil) m9 jH)
 case cl2=>
 intro H i t b0 br b its r c ys ht hs ho hb hbd hi hy hne
 obtain⟨e,_,_,hi',hD'⟩:=ht
 have hlo:=bC ho
 have hlf:=bC hi
 have n1:=fw ho hb (by simp)
 have n2:=fw ho hbd (by simp)
 have c1:(t.sort==(J0 "("))=false:=by rw[hs];kernel_rfl
 have c2:(t.sort==(J0 ")"))=true:=by rw[hs];exact beq_self_eq_true _
 have z1:[V.obj b0,V.obj br].length≤J5:=by rw[J9];simp
 have z2:([V.obj b0]:List V).length<J5:=by rw[J9];simp
 have z0:([V.obj b0]:List V).length≤J5:=by rw[J9];simp
 have zy:ys.length≤J5:=cQ (J7 ‹ys.length≤100› (by decide))
 have o2:(H.set (N+1) (.list [V.obj b0]))[N+1]?=some (.list [V.obj b0]):=cR hlo
 refine⟨_,_,(.one (.loc (by walk_at"mem") (.there eC (.there dG (.there dU .new))))),?_⟩
 exact(Es.less (Es.cons (IF (TC (AT (EL S M3) cz) aa ae) (Es.cons (NM S (EL S M3))
 (Es.cons (IT (TC (AT (EL S M3) cz) aa ae) (Es.cons (IF (TC (CB S aM aN aA (AA (EL S M1)) (ar ho z1)) ac bF) Es.nil)
 (Es.cons (NM S (au (EL S M1) (Gm.list PySem.F.slot_list_pop PySem.F.type_list_pop (by walk_at"lk")) trivial ap.nil (ww (xs:=[V.obj b0]) ho z2)))
 Es.nil)))
 (Es.cons (NM S (aj (k:=true) (TC (CB S aM aN aA (AA (EL S M1)) (ar o2 z0)) ac gP) (uE (Ev.item (EL S M1) (aK ac) (j0 o2 (by decide) (by simp) (by decide) (tK (ps:=[])))) (by walk_at"lk") (by walk_at"lk") (by walk_at"st") aW (by intro n h;cases h))))
 (Es.cons (Ex.expr (au (EL S M5) (Gm.append (by walk_at"lk")) trivial (AA (EL S M4)) (Cl.append (by walk_at"lk") zy)))
 Es.nil)))))
 Es.nil) m9 jH)
theorem B8:[J0 "script",J0 "branches",J0 "text"].Nodup:=by decide +kernel
theorem B7:[J0 "script",J0 "branches",J0 "text",J0 "items"].Nodup:=by decide +kernel
theorem wG:[J0 "script",J0 "branches",J0 "text",J0 "items",J0 "branch",J0 "head",J0 "things",J0 "row",J0 "column",J0 "is_let"].Nodup:=by decide +kernel
noncomputable def Db(k:Bool)(n:Int)(w:Str)(r c:Int)(v:V)(H:List O):Prop:=(k=true∧v=.int n)∨(k=false∧∃ d,v=.obj d∧H[d]?=some (.tup [.str "bad",.str w,.int r,.int c]))
noncomputable def Dc(k:Bool)(w:Str)(r c:Int)(v:V)(H:List O):Prop:=(k=true∧v=.byt #[97,98])∨(k=false∧∃ d,v=.obj d∧H[d]?=some (.tup [.str "bad",.str w,.int r,.int c]))
theorem CF{k:Bool}{n:Int}{w:Str}{r c:Int}{v u:V}{H H0:List O}{I:List Nat}{m:Nat}(hw:PyData.strOk w=true)(hI:KI I m H0)(k0:Kp I H0 H)(a:Db k n w r c v H)(b:Db k n w r c u H0):Cm GG 26 .NotEq v u H false:=by
 rcases a with⟨e,rfl⟩ | ⟨e,d,rfl,h⟩
 ·rcases b with⟨_,rfl⟩ | ⟨e2,_⟩
  ·exact dQ bZ (by simp)
  rw[e] at e2;cases e2
 rcases b with⟨e2,_⟩ | ⟨_,d2,rfl,h2⟩
 ·rw[e] at e2;cases e2
 exact ff (kE (r:=.bad w r c) h) (kE (r:=.bad w r c) (hI.tup k0 h2)) (je (r:=.bad w r c) hw) kh
theorem CH{k:Bool}{w:Str}{r c:Int}{v u:V}{H H0:List O}{I:List Nat}{m:Nat}(hw:PyData.strOk w=true)(hI:KI I m H0)(k0:Kp I H0 H)(a:Dc k w r c v H)(b:Dc k w r c u H0):Cm GG 26 .NotEq v u H false:=by
 rcases a with⟨e,rfl⟩ | ⟨e,d,rfl,h⟩
 ·rcases b with⟨_,rfl⟩ | ⟨e2,_⟩
  ·exact dQ BH (by simp)
  rw[e] at e2;cases e2
 rcases b with⟨e2,_⟩ | ⟨_,d2,rfl,h2⟩
 ·rw[e] at e2;cases e2
 exact ff (kE (r:=.bad w r c) h) (kE (r:=.bad w r c) (hI.tup k0 h2)) (je (r:=.bad w r c) hw) kh
theorem zW:∀ P,noTabs (Y6 P)=true:=by intro P;kernel_rfl
inductive SA(ss:List Sg)(H:List O):Prop
 | mk (ok:∀ s∈ss,s.ok) (E:E0 8 H) (bs:List V) (hb:H[9]?=some (.list bs)) (hl:d4 10 H bs (gj ss 1)):SA ss H
inductive SK(n:Nat)(vs:List V)(H:List O):Prop
 | mk (ks:List Int) (e:vs=ks.map V.int) (l:ks.length=n) (ok:∀ k∈ks,f6 k) (E:E0 8 H):SK n vs H
inductive SV(kp:Nat)(ks:List Int)(n:Nat)(vs:List V)(H:List O):Prop
 | mk (os:List (Option Int)) (e:vs=os.map aI) (l:os.length=n) (ok:∀ o∈os,mS o) (E:E0 8 H) (h:H[kp]?=some (.list (ks.map V.int))):SV kp ks n vs H
structure SQ(F:Nat)(ps:List (Nat×Nat×LB))(tl:Nat)(vs:List V)(hx:Nat)(xs:List V)(r:Int)(qs:List (Nat×V×LT))(H:List O):Prop where
 g:E1 8 F 9 ps H
 a:H[tl]?=some (.list vs)
 b:H[hx]?=some (.list xs)
 q:∀ q∈qs,Q4 9 r H q
theorem G9{k:Nat}(h:k<4):k=0∨k=1∨k=2∨k=3:=by lia
theorem Ap{mean:ExcName→Option Value}{mg mb:Str→Option Value}{w:World}{s₁:Shared}{A:Addr}{vs:List Value}{ns:List Int}
  (hT:TabsAt [(512,508),(517,515)] s₁.heap) (X:(Y6 w.params).In s₁.heap) (T:Top hd.view_39 rO mean mg mb s₁.heap) (hL:s₁.heap.IsList A vs.toArray) (hns:bq [] (ns.map V.int) vs) (hz:ns.length≤63) :
  cr (model GG.prog w) callerA (.call (.ref 518) ⟨[.ref A],[]⟩) (fun f s'=>f=.ret (.bool true)∧(∀ b o,(ghostOf s₁.heap [(512,508),(517,515)]).get? b=some o→s'.heap.get? b=some o)∧GrownAt 508 s'.heap∧GrownAt 515 s'.heap∧s'.gens=s₁.gens∧s'.os=s₁.os) s₁:=by
 refine' xX (G:=GG) (p:=hd.view_39) (loose:=rO) (mean:=mean) (mg:=mg) (mb:=mb) (x:=J0 "script") (y1:=J0 "tape") (y2:=J0 "item") (y3:=J0 "least") (y4:=J0 "most") (y5:=J0 "one") (dd:=26) (t1:=508) (t2:=515) (k1:=512) (k2:=517) ?ho ?hcd ?hb ?hx ?hcf ?hnd ?hk ?hco ?hgen ?hS ?hdd ?hu ?h hT (by decide) rfl X (zW _) T rfl rfl hL hns hz
 case ho=>exact jj
 case hcd=>exact jk
 case hb=>intro v;rfl
 case hx=>walk_at"mem"
 case hcf=>intro n;rfl
 case hnd=>decide
 case hk=>rfl
 case hco=>rfl
 case hgen=>rfl
 case hS=>exact bz.sc2 ⟨by decide,by decide⟩
 case hdd=>decide
 case hu=>decide
 case h=>
 clear hT X T hL hns hz
 intro ns hz S
 refine GX fun P hP=>?_
 obtain⟨H0,eH⟩:∃ H0:List O,[O.tab [],O.tab [],O.cell none,O.cell none,O.cell none,O.cell none,O.cell none,O.list (ns.map V.int)]=H0:=⟨_,rfl⟩
 rw[eH]
 have g0:H0[0]?=some (.tab []):=by rw[←eH];rfl
 have g1:H0[1]?=some (.tab []):=by rw[←eH];rfl
 have g2:H0[2]?=some (.cell none):=by rw[←eH];rfl
 have g3:H0[3]?=some (.cell none):=by rw[←eH];rfl
 have g4:H0[4]?=some (.cell none):=by rw[←eH];rfl
 have g5:H0[5]?=some (.cell none):=by rw[←eH];rfl
 have g6:H0[6]?=some (.cell none):=by rw[←eH];rfl
 have g7:H0[7]?=some (.list (ns.map V.int)):=by rw[←eH];rfl
 have gl:H0.length=8:=by rw[←eH];rfl
 clear eH
 have zl:(ns.map V.int).length≤J5:=by rw[K8];exact cQ (J7 hz (by decide))
 obtain⟨ms,ems,hms⟩:=xE ns
 refine fc (dz.of (Bx S (fe (EL S M0) a9 a9 (aZ (aK ac)) (by walk_at"lk") (by simp) (by assumption)) SC)) ?_
 refine fc (dz.of (iH S (AB aa (Ev.list ap.nil (bG rfl))) (.cons (SL (hst:=(.there (jg) .new))) (.cons (SL (hst:=(.there (nR) (.there (kr) .new)))) .nil)) (hw:=SW))) ?_
 rw[ems]
 refine kM fun H1 e1=>?_
 have el:(H0++[O.list (ms.map V.int)]).length=9:=by simp[gl]
 have l9:((H0++[O.list (ms.map V.int)]).set 2 (O.cell (some (V.obj H0.length)))).length=9:=by simp[gl]
 have n9:9=((H0++[O.list (ms.map V.int)]).set 2 (O.cell (some (V.obj H0.length)))).length:=l9.symm
 rw[l9] at e1
 rw[l9]
 have z:E0 8 H1∧H1[9]?=some (.list []):=by
  have q2:H1[2]?=some (.cell (some (.obj 8))):=by rw[e1,← gl];walk_at"lk"
  have q8:H1[8]?=some (.list (ms.map V.int)):=by
   have x:(H0++[O.list (ms.map V.int)])[8]?=some (.list (ms.map V.int)):=by have:=aB (H:=H0) (x:=O.list (ms.map V.int));rw[gl] at this;exact this
   rw[e1];walk_at"lk"
  refine⟨⟨⟨[],by rw[e1];walk_at"lk",fun _ h=>nomatch h⟩,⟨[],by rw[e1];walk_at"lk",fun _ h=>nomatch h⟩,q2,⟨none,by rw[e1];walk_at"lk"⟩,⟨none,by rw[e1];walk_at"lk"⟩,⟨none,by rw[e1];walk_at"lk"⟩,⟨none,by rw[e1];walk_at"lk"⟩,by lia,ms,q8,by lia⟩,?_⟩
  rw[e1]
  refine cF ?_
  have:=aB (H:=(H0++[O.list (ms.map V.int)]).set 2 (O.cell (some (V.obj H0.length)))) (x:=O.list [])
  rw[l9] at this
  exact this
 obtain⟨E,hB⟩:=z
 clear e1 l9 n9 el g0 g1 g2 g3 g4 g5 g6 g7 gl zl
 clear H0 ems hms ms hz ns
 rw[EY]
 refine Bf S (x:=J0 "k") (xs:=df 4) (fun ss:List Sg=>[("script",.obj 7),("branches",.obj 9),("text",.str (aq (aE (fq ss))))]) SA List.length [] (Io.range (n:=4) (d5 S jT j6 iE (by walk_at"mem")) ac (by decide) (by decide)) ⟨(fun _ h=>nomatch h),E,[],hB,trivial⟩ (fun _ _ _=>trivial) rfl ?turn ?ret
 case turn=>
  clear hB E
  rintro k ss H2 ⟨hok,E2,bs,hb,hl⟩ hlt
  have hlt4:ss.length<4:=hlt
  obtain⟨tns,tt,tz⟩:=E2.tp
  have cT:=E2.cT
  have hpl:=nh hok
  obtain⟨v,H3,h3,a,b,h,ths,ns',r,bt,rfl,a1,a3,b3,hh,hth,hl2,k3,t3,hz3,ht3,hB3⟩:=ud (H:=H2) (tp:=8) (cs:=aE (fq ss)) tt (J7 tz (by decide)) (J7 hpl (J7 (Nat.mul_le_mul_left 110 (Nat.le_of_lt hlt4)) (by decide)))
  obtain⟨s,es⟩:∃ s:Sg,s=⟨a,b,h,ths⟩:=⟨_,rfl⟩
  have sok:s.ok:=by rw[es];exact⟨a1,a3,b3,hh,hth,hl2⟩
  have ecs:aE (fq ss)++(List.replicate a 10++List.replicate b 32++aE (wV h ths))=aE (fq (ss++[s])):=by
   rw[zN,dj,j9,es]
  have elb:gj (ss++[s]) 1=gj ss 1++[z5 h ths (1+cnt 10 (aE (fq ss))+a) ((b:Int)+1)]:=by
   rw[qp,ub hok,es]
  rw[ecs] at ht3
  have hb3:=k3.get hb (by simp)
  have E3:=E2.next k3 t3 (J7 hz3 tz)
  have l10:10≤H2.length:=bC hb
  have hl3:=hl.keep (E2.kiT.up (by decide)) k3
  have zb:bs.length≤J5:=by
   rw[hl.len,kA];exact cQ (J7 (Nat.le_of_lt hlt4) (by decide))
  have hlB:=d4.app (hB3.low l10) hl3
  have ki9:KI [9] 10 H3:=KI.one (by decide) hb3 rfl
  refine GV (a:=[]) (l₁:=[("script",.obj 7),("branches",.obj 9),("text",.str (aq (aE (fq ss)))),("k",k)]) (.loc (by walk_at"mem") (.there tA (.there pG (.there qh .new)))) ?_
  refine j3 (Ex.tuple S (CG S pS F2 (AB (EC S) (EL S M2)) (h3.cl)) (by walk_at"lk") (.cons SL (.cons SL .nil))) ?_
  refine uG (ss++[s]) (l':=[("script",.obj 7),("branches",.obj 9),("text",.str (aq (aE (fq (ss++[s])))))]) (Es.cons (Ex.expr (au (EL S M1) (Gm.append (by walk_at"lk")) trivial (AA (EL S M4)) (Cl.append (by walk_at"lk") zb)))
  Es.nil) rfl m9 B8 ⟨⟨?okA,E3.hi (by decide) hb3 (Kp.set (.head _)),_,cR (bC hb3),?lbA⟩,by simp⟩
  case okA=>
   intro x hx
   rcases Q1.mp hx with hx | hx
   ·exact hok x hx
   rw[J6.mp hx];exact sok
  case lbA=>
  rw[elb]
  exact hlB.keep ki9 (Kp.set (.head _))
 case ret=>
 clear hB E
 rintro ss H2 ⟨hok,E2,bs,hb,hl⟩ hsz
 have h4:ss.length=4:=hsz
 have hpl:=nh hok
 have hps:=zM (nr hok)
 obtain⟨brs,hlx,hBL,hgd,hbl⟩:=qm hok 1 1
 obtain⟨v,H3,h3,F,ws,rfl,hf,k3,hF,hbr⟩:=uX (H:=H2) (cs:=aE (fq ss)) (ps:=fq ss) (brs:=brs) (J7 hpl (h4▸(by decide))) rfl (nr hok) (J7 hps (J7 hpl (h4▸(by decide)))) hlx hgd (by rw[hbl,h4];decide)
 refine fc (NN S (g9.call (EG S CZ) F9 (dK.of (AA (EL S M2))) (h3.cl))) ?_
 refine mK ?_
 have l10:10≤H2.length:=bC hb
 obtain⟨ps,ews,ebs,elb,hq⟩:=Do (hbr.low (m':=9) (Nat.le_of_lt l10)) hBL ((hl.keep KI.nil k3).low (m':=9) (by decide))
 have G:E1 8 F 9 ps H3:=by
  refine⟨E2.k0 k3,Nat.lt_of_lt_of_le (Nat.lt_of_lt_of_le (by decide) l10) hf,by decide,ews▸hF,ebs▸k3.get hb J8,hq,fun p hp=>Ao hok 1 _ ?_,?_⟩
  ·rw[elb];exact Q9 hp
  have:=kA ss 1;rw[elb,K8] at this;exact this.trans h4
 generalize aq (aE (fq ss))=txt
 clear h3 hf k3 hF hbr hq l10 hgd hlx hBL hps hpl hl hb E2 hok ews ebs elb hbl h4 hsz
 clear H2 ws bs brs ss
 have zp:∀ f:Nat×Nat×LB→V,(ps.map f).length≤J5:=fun f=>by rw[K8,G.len];exact bG rfl
 have c0:(((ps.map fun p=>V.obj p.1).length:Int) != 4)=false:=by rw[K8,G.len];rfl
 refine mO (Q:=fun H'=>E1 8 F 9 ps H') (sg ⟨H3,?t1,sh (d₁:=0) (R:=fun x H'=>∃ l,x=.obj l∧H'[l]?=some (.list ((ps.map fun _=>true).map V.bool))∧E1 8 F 9 ps H') (mN S FP Gn Eu (by walk_at"mem")) trivial ?t2 ?t3⟩) ?rest
 case t1=>
  exact(lr (gb (CB S aM aN aA (AA (EL S M3)) (ar G.fF (zp _))) ac bZ) c0)
 case t3=>
  rintro x H' ⟨l,rfl,hl,g⟩
  have e:(ps.map fun _=>true).all id=true:=by simp
  rw[←e]
  exact⟨Cl.all hl,g⟩
 case t2=>
  refine Gz ⟨by decide,by decide⟩ (b8.none (by decide)) (by decide) rfl (by decide) (js.zip (d5 S qF qT kN (by walk_at"mem")) (Ev.loc S (.tail _ (.tail _ (.tail _ (.head _)))) (by walk_at"mem")) (Ev.loc S (.tail _ (.head _)) (by walk_at"mem")) G.fF G.fB) ?lc ?sz
  case sz=>rw[gg,K8,G.len];decide
  case lc=>
  intro S
  refine Fm (fun p:Nat×Nat×LB=>hM.pair (.obj p.1) (.obj p.2.1)) (fun p:Nat×Nat×LB=>[("item",V.obj p.1),("branch",V.obj p.2.1)]) (fun d vs H'=>vs=(d.map fun _=>V.bool true)∧E1 8 F 9 ps H') ps (gg _ _ _) (fun d vs H' h=>⟨h.2.fF,h.2.fB⟩) ?turn ⟨rfl,G⟩ ?fin
  case fin=>
   rintro vs H' ⟨rfl,g⟩
   exact⟨_,rfl,by rw[List.map_map];exact aB,g.k0 Kp.app⟩
  case turn=>
  rintro p hp l H' d vs hl ⟨rfl,g⟩
  have g1:=g.k0 (Kp.app (l:=[O.tup [.obj p.1,.obj p.2.1]]))
  obtain⟨⟨ce,q1⟩,q2⟩:=g1.q p hp
  obtain⟨v,H2,h2,rfl,k2,t2⟩:=u7 g1.e.t0 (Dp (by decide) q1) (q2.low (by decide)) (g.ok p hp)
  refine⟨H'++[O.tup [.obj p.1,.obj p.2.1]],.bool true,H2,?tn,?el,by simp,g1.tab0 k2 t2⟩
  case tn=>
   rcases hl with rfl | ⟨y,rfl⟩
   ·exact .pair (.cons (.loc (by walk_at"mem") .new) (.cons (.loc (by walk_at"mem") (.there ij .new)) .nil))
   exact .pair (.cons (.loc (by walk_at"mem") .here) (.cons (.loc (by walk_at"mem") (.there ij .here)) .nil))
  case el=>
  exact(CG S my FY (AB (EL S M0) (EL S M1)) (h2.cl))
 case rest=>
 clear zp c0 G
 intro H3 G
 refine BE S (Inv:=fun H'=>E1 8 F 9 ps H') (fun p:Nat×Nat×LB=>hM.pair (.obj p.1) (.obj p.2.1)) ps (gg _ _ _) (js.zip (d5 S qF qT kN (by walk_at"mem")) (Ev.loc S (.tail _ (.tail _ (.tail _ (.head _)))) (by walk_at"mem")) (Ev.loc S (.tail _ (.head _)) (by walk_at"mem")) G.fF G.fB) G (fun H' g=>⟨g.fF,g.fB⟩) ?turn2 ?rest2
 case turn2=>
  clear G
  rintro p hp H4 G4
  have c3w:=G4.e.c3
  obtain⟨w3,c3w⟩:=c3w
  refine Dj (l₁:=[("script",.obj 7),("branches",.obj 9),("text",.str txt),("items",.obj F),("branch",.obj p.2.1)]) (h₁:=(H4++[O.tup [.obj p.1,.obj p.2.1]]).set 3 (O.cell (some (.obj p.1)))) (.pair (.cons (.cell (by walk_at"mem") (by walk_at"mem") (by walk_at"lk")) (.cons (.loc (by walk_at"mem") (.there kl (.there ji (.there nJ (.there l7 .new))))) .nil))) ?_
  have G4':=G4.k0 (Kp.app (l:=[O.tup [.obj p.1,.obj p.2.1]]))
  have G5:=G4'.cell (i:=3) (by decide) (by decide) G4'.e.c3 (v:=.obj p.1)
  clear G4'
  obtain⟨tl,vs,e,l,ht,xs,X5,hj⟩:=G5.turn hp (cR (bC (cF c3w)))
  clear G4 G5 c3w
  generalize (H4++[O.tup [.obj p.1,.obj p.2.1]]).set 3 (O.cell (some (.obj p.1)))=H5 at *
  clear H4
  refine eG (Ex.tuple S (EL S M4) (by walk_at"lk") (.cons SL (.cons SL (.cons SL (.cons SL .nil))))) ?_
  have cT:=X5.g.e.cT
  obtain⟨x1,Ha,ha,ka,Ea⟩:=X5.g.e.nx
  have Xa:=(X5.nx ka Ea).k0 (Kp.app (l:=[O.list [.none,.int 0,.int 1,.int 2]]))
  have lHa:=Ea.lT
  have cT2:=Xa.g.e.cT
  obtain⟨x2,Hb,hb,kb,Eb⟩:=Xa.g.e.nx
  have Xb:=Xa.nx kb Eb
  have f2:=dY (x:=x2) (m:=4) (by decide)
  have hlb:Hb[Ha.length]?=some (.list [.none,.int 0,.int 1,.int 2]):=kb.get aB (ef (W5 lHa))
  have hm:∃ m:Option Int,[V.none,.int 0,.int 1,.int 2][(x2.fmod 4).toNat]?=some (aI m):=by
   have:=G9 (tn (k:=4) f2.2)
   rcases this with e | e | e | e <;> rw[e]
   ·exact⟨none,rfl⟩
   ·exact⟨some 0,rfl⟩
   ·exact⟨some 1,rfl⟩
   exact⟨some 2,rfl⟩
  obtain⟨m,gm⟩:=hm
  obtain⟨w4,c4w⟩:=Xb.g.e.c4
  obtain⟨w5,c5w⟩:=Xb.g.e.c5
  refine eG (sD S (AB (ak (CG S bc fG (AA (EC S)) (ha.cl)) ac (cB (by lia))) (Ev.item (Ev.list (ap.cons ai (ap.cons ac (ap.cons ac (ap.cons ac ap.nil)))) (bG rfl)) (ak (CG S bc fG (AA (EC S)) (hb.cl)) ac (cB (by lia))) (bE.list hlb f2.1 (BW f2.2) gm))) (bG rfl) (.cons SC (.cons SC .nil)) (hw:=SW)) ?_
  have Xc:=Xb.k0 (Kp.app (l:=[O.tup [.int (x1.fmod 3),aI m]]))
  have l4:=bC (cF (l:=[O.tup [.int (x1.fmod 3),aI m]]) c4w)
  have X4:=Xc.cell (i:=4) (by decide) (by decide) Xc.g.e.c4 (v:=.int (x1.fmod 3))
  have l5:=X4.g.e.c5.elim fun _ h=>bC h
  have X6:=X4.cell (i:=5) (by decide) (by decide) X4.g.e.c5 (v:=aI m)
  have c4:=AH (x:=O.cell (some (aI m))) (by decide:5≠4) (cR (x:=O.cell (some (.int (x1.fmod 3)))) l4)
  have c5:=cR (x:=O.cell (some (aI m))) l5
  clear l4 l5 c4w c5w w4 w5 gm hlb f2 hb Xb X4 Xc Eb kb cT2 ha lHa Xa Ea ka cT hj X5
  generalize ((Hb++[O.tup [.int (x1.fmod 3),aI m]]).set 4 (O.cell (some (.int (x1.fmod 3))))).set 5 (O.cell (some (aI m)))=H6 at *
  generalize x1.fmod 3=lst at *
  clear x2 Ha Hb H5
  have okp:=X6.g.ok p hp
  have hn:vs.length=p.2.2.things.length:=X6.lts.len
  have h2n:=okp.2.2
  have zvs:vs.length≤J5:=by rw[hn];exact cQ (J7 h2n (by decide))
  obtain⟨pk,epk⟩:∃ b,dF p.2.2.things.length lst m=b:=⟨_,rfl⟩
  refine eG (ls':=[("script",.obj 7),("branches",.obj 9),("text",.str txt),("items",.obj F),("branch",.obj p.2.1),("head",.str p.2.2.name),("things",.obj tl),("row",.int p.2.2.row),("column",.int p.2.2.col),("is_let",.bool pk)]) (H₁:=H6) ?isl ?r3
  case isl=>
   rw[←epk,← hn]
   by_cases q1:lst≤(vs.length:Int)
   ·have c1:decide (lst≤(vs.length:Int))=true:=decide_eq_true q1
    cases m with
    | none=>
     have eq:dF vs.length lst none=(aI none).isNone:=by unfold dF;rw[c1];rfl
     have c2:(aI none).isNone=true:=rfl
     rw[eq]
     exact(NM S (fU (bo (EC S) (CB S aM aN aA (AA (EL S M6)) (ar X6.hvs zvs)) cC) (dZ Tv.bool (by assumption)) (fV (wl (bo (EC S) ai bk) (dZ Tv.bool rfl)))))
    | some m=>
    have eq:dF vs.length lst (some m)=decide ((vs.length:Int)≤m):=by unfold dF;rw[c1];rfl
    have c2:(aI (some m)).isNone=false:=rfl
    have c5:H6[5]?=some (.cell (some (.int m))):=c5
    rw[eq]
    exact(NM S (fU (bo (EC S) (CB S aM aN aA (AA (EL S M6)) (ar X6.hvs zvs)) cC) (dZ Tv.bool (by assumption)) (fV (By (bo (EC S) ai bk) (dZ Tv.bool rfl) (fV (bo (CB S aM aN aA (AA (EL S M6)) (ar X6.hvs zvs)) (EC S) cC))))))
   have c1:decide (lst≤(vs.length:Int))=false:=decide_eq_false q1
   have eq:dF vs.length lst m=decide (lst≤(vs.length:Int)):=by unfold dF;rw[c1];rfl
   rw[eq]
   exact(NM S (iO (bo (EC S) (CB S aM aN aA (AA (EL S M6)) (ar X6.hvs zvs)) cC) (dZ Tv.bool (by assumption))))
  case r3=>
  refine qR (R:=fun v H'=>Kp [] H6 H'∧Db pk p.2.2.things.length "another number of parts is wanted" p.2.2.row p.2.2.col v H') (L:=fun v=>[("script",.obj 7),("branches",.obj 9),("text",.str txt),("items",.obj F),("branch",.obj p.2.1),("head",.str p.2.2.name),("things",.obj tl),("row",.int p.2.2.row),("column",.int p.2.2.col),("is_let",.bool pk),("due",v)]) S ?due (by walk_at"mem") (fun v=>(.there iX (.there gX (.there lh (.there jA (.there f4 (.there li (.there iW (.there nU (.there i0 (.there iY .new))))))))))) ?r4
  case due=>
   cases hq:pk with
   | true=>
    refine⟨.int vs.length,H6,?_,Kp.refl,.inl ⟨rfl,by rw[hn]⟩⟩
    exact(aj (k:=true) (TT (Te.val (EL S M9) Tv.bool)) (CB S aM aN aA (AA (EL S M6)) (ar X6.hvs zvs)))
   | false=>
   refine⟨.obj H6.length,H6++[O.tup [.str "bad",.str "another number of parts is wanted",.int p.2.2.row,.int p.2.2.col]],?_,Kp.app,.inr ⟨rfl,_,rfl,aB⟩⟩
   exact(aj (k:=false) (TT (Te.val (EL S M9) Tv.bool)) (Ev.tup (ap.cons aa (ap.cons aa (ap.cons (EL S M7) (ap.cons (EL S M8) ap.nil)))) (bG rfl)))
  case r4=>
  rintro due H7 ⟨k7,hdue⟩
  have X7:=X6.k0 k7
  have c4:=k7.get c4 J8
  have c5:=k7.get c5 J8
  have ki1:=X7.g.e.ki1
  refine uH (R:=fun H'=>E2 8 F 9 ps p tl vs e l ht xs H') (mG (b:=false) (rU (t:=1) (P:=Db pk p.2.2.things.length "another number of parts is wanted" p.2.2.row p.2.2.col) S (by walk_at"mem") rfl wx rfl (b8.of rfl (by simp <;> decide)) (by intro env;rfl) X7.g.e.t1 (by decide) ?call1 ?R1)) ?r5
  case call1=>
   intro l' cd H8 hfn hcd k8
   have c3:=k8.get X7.c3 (by simp)
   have c4:=k8.get c4 (by simp)
   have c5:=k8.get c5 (by simp)
   obtain⟨⟨ce,q1⟩,_⟩:=(X7.g.q p hp).keep ki1 k8
   obtain⟨hok,hbad⟩:=gC (least:=lst) (most:=m) (Dp (by decide) q1) okp
   rw[epk] at hok hbad
   cases hq:pk with
   | true=>
    obtain⟨zs,hp2,hits⟩:=hok hq
    have hz:zs.length=p.2.2.things.length:=by rw[hits.len,K8]
    exact rT hfn hcd (by intro cl doc pm cdv ct;rfl) (by simp <;> decide) rfl rfl rfl (by decide) ⟨by decide,by decide⟩ (fun a k S=>Ev.call (mN S aM aN aA (by walk_at"mem")) trivial (ap.cons (Ev.call (cK S bw (by walk_at"mem")) fH (ap.cons (Ev.free S (by walk_at"mem") c3 (by walk_at"mem")) (ap.cons (Ev.free S (by walk_at"mem") c4 (by walk_at"mem")) (ap.cons (Ev.free S (by walk_at"mem") c5 (by walk_at"mem")) ap.nil))) hp2.cl) ap.nil) (ar aB (by rw[J9];lia))) Kp.app (.inl ⟨rfl,by rw[hz]⟩)
   | false=>
   obtain⟨x,d,H9,h9,k9,p9,q9⟩:=hbad hq
   exact mD hfn hcd (by intro cl doc pm cdv ct;rfl) (by simp <;> decide) rfl rfl rfl (by decide) ⟨by decide,by decide⟩ (fun a k S=>ej.args (mN S aM aN aA (by walk_at"mem")) trivial (gc.here (ej.call (cK S bw (by walk_at"mem")) fH (ap.cons (Ev.free S (by walk_at"mem") c3 (by walk_at"mem")) (ap.cons (Ev.free S (by walk_at"mem") c4 (by walk_at"mem")) (ap.cons (Ev.free S (by walk_at"mem") c5 (by walk_at"mem")) ap.nil))) h9.cl) (by repeat (first | exact bD.nil | refine bD.cons ?_ (fun _=>rfl))))) k9 p9 q9 (fun j H' hj=>.inr ⟨rfl,j,rfl,hj⟩)
  case R1=>
   intro v H8 k8 t8 p8
   exact⟨due,H8,Ev.loc S (.tail _ (.tail _ (.tail _ (.tail _ (.tail _ (.tail _ (.tail _ (.tail _ (.tail _ (.tail _ (.head _))))))))))) (by walk_at"mem"),CF (by decide +kernel) ki1 k8 p8 hdue,X7.tab1 k8 t8⟩
  case r5=>
  clear ki1 c4 c5 X7 hdue k7 X6 zvs h2n hn epk
  intro H9 X9
  obtain⟨qs,e1,e2,hq⟩:=Dn X9.lts X9.its
  refine BC (l₁:=[("script",.obj 7),("branches",.obj 9),("text",.str txt),("items",.obj F),("branch",.obj p.2.1),("head",.str p.2.2.name),("things",.obj tl),("row",.int p.2.2.row),("column",.int p.2.2.col),("is_let",.bool pk)]) ?_ m9 wG
  refine BD S (Inv:=SQ F ps tl vs H9.length xs p.2.2.row qs) (fun q:Nat×V×LT=>hM.pair (.obj q.1) q.2.1) qs ?eq3 (js.zip (H₂:=H9++[O.list xs]) (j2:=H9.length) (d5 S qF qT kN (by walk_at"mem")) (Ev.loc S (.tail _ (.tail _ (.tail _ (.tail _ (.tail _ (.tail _ (.head _))))))) (by walk_at"mem")) ?sl (cF X9.hvs) aB) ⟨X9.g.k0 Kp.app,cF X9.hvs,aB,fun q h=>(hq q h).2.keep (m:=9) KI.nil Kp.app⟩ (fun H' h=>⟨h.a,h.b⟩) ?turn3 (fun H' h=>h.g) m9 B7
  case eq3=>rw[e1,e2,gg]
  case sl=>
   have zx:(V.obj ht::xs).length≤J5:=by
    have:=X9.its.len;rw[K8] at this
    have:=okp.2.2
    rw[J9,List.length_cons];lia
   have c3:=X9.c3
   have hi:=X9.hi
   have he:=X9.he
   have hl:=X9.hl
   rw[←dg (x:=V.obj ht) (xs:=xs)]
   exact(fe (AT (EC S) aW) (aZ ac) a9 a9 (by walk_at"lk") (by simp) (by assumption))
  case turn3=>
  have lt9:8<H9.length:=Nat.lt_trans X9.ltl (bC X9.hvs)
  have ltl:=X9.ltl
  rintro q hqq H10 ⟨g10,hA,hB,hQ⟩
  obtain⟨w6,c6w⟩:=g10.e.c6
  have ki6:=g10.e.up (by decide) (q0 g10.e.c6)
  have okt:=okp.2.1 q.2.2 (hq q hqq).1
  refine Dj (l₁:=[("script",.obj 7),("branches",.obj 9),("text",.str txt),("items",.obj F),("branch",.obj p.2.1),("head",.str p.2.2.name),("things",.obj tl),("row",.int p.2.2.row),("column",.int p.2.2.col),("is_let",.bool pk),("thing",.obj q.1)]) (h₁:=(H10++[O.tup [.obj q.1,q.2.1]]).set 6 (O.cell (some q.2.1))) (.pair (.cons (.loc (by walk_at"mem") (.there lV (.there jD (.there pf (.there nY (.there mm (.there pE (.there lR (.there rA (.there mh (.there ma .new))))))))))) (.cons (.cell (by walk_at"mem") (by walk_at"mem") (by walk_at"lk")) .nil))) ?_
  have k11:Kp [6] H10 ((H10++[O.tup [.obj q.1,q.2.1]]).set 6 (O.cell (some q.2.1))):=Kp.app.trans (Kp.set (.head _))
  have g11':=g10.k0 (Kp.app (l:=[O.tup [.obj q.1,q.2.1]]))
  have g11:=g11'.cell (i:=6) (by decide) (by decide) g11'.e.c6 (v:=q.2.1)
  clear g11'
  replace hA:=k11.get hA (by simp;lia)
  replace hB:=k11.get hB (by simp;lia)
  replace hQ:∀ q'∈qs,Q4 9 p.2.2.row ((H10++[O.tup [.obj q.1,q.2.1]]).set 6 (O.cell (some q.2.1))) q':=fun q' h'=>(hQ q' h').keep ki6 k11
  have c6:((H10++[O.tup [.obj q.1,q.2.1]]).set 6 (O.cell (some q.2.1)))[6]?=some (.cell (some q.2.1)):=cR (bC (cF c6w))
  generalize (H10++[O.tup [.obj q.1,q.2.1]]).set 6 (O.cell (some q.2.1))=H11 at *
  clear k11 ki6 c6w w6 g10 X9 H10
  obtain⟨hth,hit⟩:=hQ q hqq
  obtain⟨sk,esk⟩:∃ b,(q.2.2.th.sort==J0 "string")=b:=⟨_,rfl⟩
  refine qR (R:=fun v H'=>Kp [] H11 H'∧Dc sk "a string is wanted" p.2.2.row q.2.2.place v H') (L:=fun v=>[("script",.obj 7),("branches",.obj 9),("text",.str txt),("items",.obj F),("branch",.obj p.2.1),("head",.str p.2.2.name),("things",.obj tl),("row",.int p.2.2.row),("column",.int p.2.2.col),("is_let",.bool pk),("thing",.obj q.1),("due",v)]) S ?due3 (by walk_at"mem") (fun v=>(.there iX (.there gX (.there lh (.there jA (.there f4 (.there li (.there iW (.there nU (.there i0 (.there iY (.there rn .new)))))))))))) ?r6
  case due3=>
   cases hs:sk with
   | true=>
    rw[hs] at esk
    refine⟨.byt #[97,98],H11,?_,Kp.refl,.inl ⟨rfl,rfl⟩⟩
    exact(aj (k:=true) (TC (Ev.item (EL S sP) ac GT) aa ae) sF)
   | false=>
   rw[hs] at esk
   refine⟨.obj H11.length,H11++[O.tup [.str "bad",.str "a string is wanted",.int p.2.2.row,.int q.2.2.place]],?_,Kp.app,.inr ⟨rfl,_,rfl,aB⟩⟩
   exact(aj (k:=false) (TC (Ev.item (EL S sP) ac GT) aa ae) (Ev.tup (ap.cons aa (ap.cons aa (ap.cons (EL S M7) (ap.cons (Ev.item (EL S sP) ac GT) ap.nil)))) (bG rfl)))
  case r6=>
  rintro due H12 ⟨k12,hdue⟩
  have g12:=g11.k0 k12
  replace hA:=k12.get hA J8
  replace hB:=k12.get hB J8
  replace hQ:∀ q'∈qs,Q4 9 p.2.2.row H12 q':=fun q' h'=>(hQ q' h').keep (m:=9) KI.nil k12
  replace c6:=k12.get c6 J8
  have ki1:=g12.e.ki1
  clear g11 hth hit k12
  refine uH (R:=SQ F ps tl vs H9.length xs p.2.2.row qs) (sg (mG (b:=false) (rU (t:=1) (P:=Dc sk "a string is wanted" p.2.2.row q.2.2.place) S (by walk_at"mem") rfl wx rfl (b8.of rfl (by simp)) (by intro env;rfl) g12.e.t1 (by decide) ?call2 ?R2))) ?r7
  case call2=>
   intro l' cd H13 hfn hcd k13
   replace c6:=k13.get c6 (by simp)
   obtain⟨_,hit⟩:=(hQ q hqq).keep ki1 k13
   obtain⟨hok,hbad⟩:=xL okt (hit.low (Nat.zero_le _))
   cases hs:sk with
   | true=>
    rw[hs] at esk
    have ho:=hok (beq_iff_eq.mp esk)
    exact rT hfn hcd (by intro cl doc pm cdv ct;rfl) (by simp) rfl rfl rfl (by decide) ⟨by decide,by decide⟩ (fun a k S=>Ev.call (cK S lv (by walk_at"mem")) DC (ap.cons (Ev.free S (by walk_at"mem") c6 (by walk_at"mem")) ap.nil) ho.cl) Kp.refl (.inl ⟨rfl,rfl⟩)
   | false=>
   rw[hs] at esk
   obtain⟨x,d,H14,h14,k14,p14,q14⟩:=hbad (by intro e;rw[e] at esk;exact absurd esk (by decide))
   exact mD hfn hcd (by intro cl doc pm cdv ct;rfl) (by simp) rfl rfl rfl (by decide) ⟨by decide,by decide⟩ (fun a k S=>ej.call (cK S lv (by walk_at"mem")) DC (ap.cons (Ev.free S (by walk_at"mem") c6 (by walk_at"mem")) ap.nil) h14.cl) k14 p14 q14 (fun j H' hj=>.inr ⟨rfl,j,rfl,hj⟩)
  case R2=>
   intro v H13 k13 t13 p13
   replace c6:=k13.get c6 (by simp)
   replace hQ:∀ q'∈qs,Q4 9 p.2.2.row H13 q':=fun q' h'=>(hQ q' h').keep ki1 k13
   obtain⟨hth,hit⟩:=hQ q hqq
   have hh:=ya okt (hit.low (Nat.zero_le _))
   refine⟨due,H13,Ev.loc S (.tail _ (.tail _ (.tail _ (.tail _ (.tail _ (.tail _ (.tail _ (.tail _ (.tail _ (.tail _ (.tail _ (.head _)))))))))))) (by walk_at"mem"),CH (by decide +kernel) ki1 k13 p13 hdue,H13,?te,g12.tab1 k13 t13,k13.get hA (by simp;lia),k13.get hB (by simp;lia),hQ⟩
   by_cases hb:q.2.2.th.sort=J0 "branch"
   ·rw[if_pos hb] at hh
    have cb:(q.2.2.th.sort==J0 "branch")=true:=beq_iff_eq.mpr hb
    have cn:(J0 "a" != J0 "a")=false:=by simp
    exact(lr (gb (CG S aL cW (AA (EC S)) (hh.cl)) (aj (k:=true) (TC (Ev.item (EL S sP) ac GT) aa ae) aa) cy) cn)
   rw[if_neg hb] at hh
   have cb:(q.2.2.th.sort==J0 "branch")=false:=by rw[beq_eq_false_iff_ne];exact hb
   have cn:(J0 "" != J0 "")=false:=by simp
   exact(lr (gb (CG S aL cW (AA (EC S)) (hh.cl)) (aj (k:=false) (TC (Ev.item (EL S sP) ac GT) aa ae) aa) cy) cn)
  case r7=>
  intro H14 inv
  exact xd Es.nil m9 wG inv
 case rest2=>
 intro H4 G4
 have E:=G4.e
 clear G4 G
 have cT:=E.cT
 obtain⟨x1,Ha,ha,ka,Ea⟩:=E.nx
 have f1:=dY (x:=x1) (m:=4) (by decide)
 obtain⟨n,en⟩:∃ n:Nat,x1.fmod 4=(n:Int):=⟨(x1.fmod 4).toNat,(Int.toNat_of_nonneg f1.1).symm⟩
 have hn:n≤3:=Nat.le_of_lt_succ (Int.ofNat_lt.mp (en▸f1.2))
 have hrg:=s4 hn
 have ern:(df n).length=n:=by simp[df]
 refine gN S (R:=SK n) (L':=fun n=>[("script",.obj 7),("branches",.obj 9),("text",.str txt),("items",.obj F),("kinds",.obj n)]) ⟨by decide,by decide⟩ (b8.of rfl (by simp)) (by decide) rfl (by decide) (js.range (n:=n) (H₁:=Ha) (d5 S jT j6 iE (by walk_at"mem")) ?arg8 hrg.1 hrg.2) ?lc8 ?sz8 (fun n h=>.loc (by walk_at"mem") (.there lW (.there jE (.there pg (.there nZ .new))))) ?rest8 (hsw:=Gr)
 case arg8=>
  rw[←en]
  exact(ak (CG S bc fG (AA (EC S)) (ha.cl)) ac (cB (by lia)))
 case sz8=>unfold bT;rw[K8,ern];exact J7 hn (by decide)
 case lc8=>
  clear ha en f1 cT ka E
  intro S
  refine Fm (fun k:V=>hM.one k) (fun k:V=>[("k",k)]) (fun d=>SK d.length) (df n) rfl (fun _ _ _ _=>trivial) ?turn8 ⟨[],rfl,rfl,(fun _ h=>nomatch h),Ea⟩ (fun vs H' h=>ern▸h)
  rintro k hk l H' d vs hl ⟨ks,rfl,hkl,hks,E'⟩
  have Eb:=E'.k0 (Kp.app (l:=[O.list [.int (-1),.int (-2),.int (-16),.int (-17)]]))
  have lH':=E'.lT
  have cT:=Eb.cT
  obtain⟨x2,Hb,hb,kb,Ec⟩:=Eb.nx
  have f2:=dY (x:=x2) (m:=4) (by decide)
  have hlb:Hb[H'.length]?=some (.list [.int (-1),.int (-2),.int (-16),.int (-17)]):=kb.get aB (ef (W5 lH'))
  obtain⟨kk,gk,okk⟩:=Aq (j:=(x2.fmod 4).toNat) (tn (k:=4) f2.2)
  refine⟨H',.int kk,Hb,?tn8,?el8,ks++[kk],by simp,by simp[hkl],?ok8,Ec⟩
  case tn8=>
   rcases hl with rfl | ⟨y,rfl⟩
   ·exact .one (.loc (by walk_at"mem") .new)
   exact .one (.loc (by walk_at"mem") .here)
  case el8=>
   exact(Ev.item (Ev.list (ap.cons (aK ac) (ap.cons (aK ac) (ap.cons (aK ac) (ap.cons (aK ac) ap.nil)))) (bG rfl)) (ak (CG S bc fG (AA (EC S)) (hb.cl)) ac (cB (by lia))) (bE.list hlb f2.1 (BW f2.2) gk))
  case ok8=>
  intro x hx
  rcases Q1.mp hx with hx | hx
  ·exact hks x hx
  rw[J6.mp hx];exact okk
 case rest8=>
 clear ha en f1 cT ka E Ea hrg ern
 rintro vs H5 ⟨ks,rfl,hkl,hks,E5⟩
 have l5:=E5.lT
 refine cN fun H6 e6=>?_
 have E6:E0 8 H6:=by rw[e6];exact E5.k0 Kp.app
 have hK:H6[H5.length]?=some (.list (ks.map V.int)):=by rw[e6];exact aB
 generalize H5.length=kp at *
 clear e6 E5
 clear H5 Ha H4 H3
 refine gN S (R:=SV kp ks n) (L':=fun n=>[("script",.obj 7),("branches",.obj 9),("text",.str txt),("items",.obj F),("kinds",.obj kp),("values",.obj n)]) ⟨by decide,by decide⟩ (b8.of rfl (by simp)) (by decide) rfl (by decide) (js.list (Ev.loc S (.tail _ (.tail _ (.tail _ (.tail _ (.head _))))) (by walk_at"mem")) hK) ?lc9 ?sz9 (fun n h=>.loc (by walk_at"mem") (.there kj (.there jh (.there nG (.there lZ (.there lY .new)))))) ?rest9 (hsw:=Gr)
 case sz9=>unfold bT;rw[K8,K8,hkl];exact J7 hn (by decide)
 case lc9=>
  intro S
  refine Fm (fun k:Int=>hM.one (.int k)) (fun k:Int=>[("kind",.int k)]) (fun d=>SV kp ks d.length) ks (by unfold bT;rw[List.map_map];rfl) (fun d vs H' ⟨_,_,_,_,_,h⟩=>h) ?turn9 ⟨[],rfl,rfl,(fun _ h=>nomatch h),E6,hK⟩ (fun vs H' h=>hkl▸h)
  clear E6 hK
  rintro k hk l H' d vs hl ⟨os,rfl,hol,hos,E',hK'⟩
  have nk:kp∉[8]:=ef (W5 l5)
  have cT:=E'.cT
  obtain⟨x2,Hb,hb,kb,Eb⟩:=E'.nx
  have hKb:=kb.get hK' nk
  have okA:∀ (o:Option Int),mS o→∀ o'∈os++[o],mS o':=fun o h o' h'=>by
   rcases Q1.mp h' with h' | h'
   ·exact hos o' h'
   rw[J6.mp h'];exact h
  have okM:∀ x:Int,mS (some (x.fmod ((2:Int) ^ (32:Int).toNat))):=fun x y hy=>by
   cases hy
   have:=dY (x:=x) (m:=(2:Int) ^ (32:Int).toNat) (by decide)
   exact⟨this.1,Int.lt_trans this.2 (by decide)⟩
  by_cases hk2:k < -2
  ·have c1:decide (k < -2)=true:=decide_eq_true hk2
   cases c2:(x2.fmod 3==2) with
   | true=>
    refine⟨H',.none,Hb,?tn9,?el9,os++[none],by simp[aI],by simp[hol],okA none (fun x h=>nomatch h),Eb,hKb⟩
    case tn9=>
     rcases hl with rfl | ⟨y,rfl⟩
     ·exact .one (.loc (by walk_at"mem") .new)
     exact .one (.loc (by walk_at"mem") .here)
    case el9=>
    exact(aj (k:=true) (TT (ah (av (TC (EL S M0) (aK ac) bQ) (av (TC (ak (CG S bc fG (AA (EC S)) (hb.cl)) ac (cB (by lia))) ac bF) cD)))) ai)
   | false=>
   have cT2:=Eb.cT
   obtain⟨x3,Hc,hc,kc,Ec⟩:=Eb.nx
   refine⟨H',.int (x3.fmod ((2:Int) ^ (32:Int).toNat)),Hc,?tn9,?el9,os++[some (x3.fmod ((2:Int) ^ (32:Int).toNat))],by simp[aI],by simp[hol],okA _ (okM x3),Ec,kc.get hKb nk⟩
   case tn9=>
    rcases hl with rfl | ⟨y,rfl⟩
    ·exact .one (.loc (by walk_at"mem") .new)
    exact .one (.loc (by walk_at"mem") .here)
   case el9=>
   exact(aj (k:=false) (TT (ah (av (TC (EL S M0) (aK ac) bQ) (am (TC (ak (CG S bc fG (AA (EC S)) (hb.cl)) ac (cB (by lia))) ac bF))))) (ak (CG S bc fG (AA (EC S)) (hc.cl)) (ak ac ac (bM (by lia) (by lia) (by lia))) (cB (by lia))))
  have c1:decide (k < -2)=false:=decide_eq_false hk2
  refine⟨H',.int (x2.fmod ((2:Int) ^ (32:Int).toNat)),Hb,?tn9,?el9,os++[some (x2.fmod ((2:Int) ^ (32:Int).toNat))],by simp[aI],by simp[hol],okA _ (okM x2),Eb,hKb⟩
  case tn9=>
   rcases hl with rfl | ⟨y,rfl⟩
   ·exact .one (.loc (by walk_at"mem") .new)
   exact .one (.loc (by walk_at"mem") .here)
  case el9=>
  exact(aj (k:=false) (TT (ah (am (TC (EL S M0) (aK ac) bQ)))) (ak (CG S bc fG (AA (EC S)) (hb.cl)) (ak ac ac (bM (by lia) (by lia) (by lia))) (cB (by lia))))
 case rest9=>
 clear E6 hK
 rintro vs H7 ⟨os,rfl,hol,hos,E7,hK7⟩
 refine cN fun H8 e8=>?_
 have E8:E0 8 H8:=by rw[e8];exact E7.k0 Kp.app
 have hK:H8[kp]?=some (.list (ks.map V.int)):=by rw[e8];exact cF hK7
 have hV:H8[H7.length]?=some (.list (os.map aI)):=by rw[e8];exact aB
 generalize H7.length=vp at *
 clear e8 hK7 E7
 clear H7 H6
 have zz:(c8 (ks.map V.int) (os.map aI)).length≤1000:=by rw[iJ,K8,List.length_zip];exact J7 (Nat.min_le_left _ _) (hkl▸J7 hn (by decide))
 have okz:∀ {k v},(k,v)∈ks.zip os→f6 k∧mS v:=fun h=>⟨hks _ (List.of_mem_zip h).1,hos _ (List.of_mem_zip h).2⟩
 refine gN S (R:=fun ws H'=>ws=(de ks os).map V.str∧Kp [] H8 H') (L':=fun n=>[("script",.obj 7),("branches",.obj 9),("text",.str txt),("items",.obj F),("kinds",.obj kp),("values",.obj vp),("told",.obj n)]) ⟨by decide,by decide⟩ (b8.none (by decide)) (by decide) rfl (by decide) (js.zip (d5 S qF qT kN (by walk_at"mem")) (Ev.loc S (.tail _ (.tail _ (.tail _ (.tail _ (.head _))))) (by walk_at"mem")) (Ev.loc S (.tail _ (.tail _ (.tail _ (.tail _ (.tail _ (.head _)))))) (by walk_at"mem")) hK hV) ?lc10 zz (fun n h=>.loc (by walk_at"mem") (.there nQ (.there kq (.there rq (.there pB (.there pz (.there nB .new))))))) ?rest10 (hsw:=Gr)
 case lc10=>
  intro S
  refine rQ fk (fun k v=>[("kind",V.int k),("value",aI v)]) hK hV ?tn10 ?el10 (fun H' k=>⟨by simp[de],k⟩)
  case tn10=>
   intro k v l h hl
   rcases hl with rfl | ⟨k',v',rfl⟩
   ·exact .pair (.cons (.loc (by walk_at"mem") .new) (.cons (.loc (by walk_at"mem") (.there ca .new)) .nil))
   exact .pair (.cons (.loc (by walk_at"mem") .here) (.cons (.loc (by walk_at"mem") (.there ca .here)) .nil))
  case el10=>
  intro k v h hm
  have hs:=j7 (H:=h) (okz hm).1 (okz hm).2
  exact(CG S iC Bl (AB (EL S M0) (EL S M1)) (hs.cl))
 case rest10=>
 rintro ws H9 ⟨rfl,k9⟩
 refine cN fun H10 e10=>?_
 have k10:Kp [] H8 H10:=by rw[e10];exact k9.trans Kp.app
 have hT:H10[H9.length]?=some (.list ((de ks os).map V.str)):=by rw[e10];exact aB
 have E10:=E8.k0 k10
 replace hK:=k10.get hK J8
 replace hV:=k10.get hV J8
 generalize H9.length=tp at *
 clear e10 k9 k10 E8
 clear H9 H8
 have dT:∀ {H':List O} {i:Nat},H'[i]?=some (.list ((de ks os).map V.str))→Dv H' (.obj i) (.list ((de ks os).map PyData.str)):=fun h=>.list h tU
 refine mO (Q:=fun H'=>Kp [] H10 H') (mG (b:=false) (Gz (R:=fun v H'=>∃ w H2,Ev GG 26 _ _ _ H' w H2∧Cm GG 26 .NotEq v w H2 false∧Kp [] H10 H2) ⟨by decide,by decide⟩ (b8.none (by decide)) (by decide) rfl (by decide) (js.zip (d5 S qF qT kN (by walk_at"mem")) (Ev.loc S (.tail _ (.tail _ (.tail _ (.tail _ (.head _))))) (by walk_at"mem")) (Ev.loc S (.tail _ (.tail _ (.tail _ (.tail _ (.tail _ (.head _)))))) (by walk_at"mem")) hK hV) ?lc11 zz)) ?rest11
 case lc11=>
  intro S'
  refine rQ fk (fun k v=>[("kind",V.int k),("value",aI v)]) hK hV ?tn11 ?el11 (fun H' k=>⟨.obj tp,_,Ev.loc S (.tail _ (.tail _ (.tail _ (.tail _ (.tail _ (.tail _ (.head _))))))) (by walk_at"mem"),?cm11,k.trans Kp.app⟩)
  case tn11=>
   intro k v l h hl
   rcases hl with rfl | ⟨k',v',rfl⟩
   ·exact .pair (.cons (.loc (by walk_at"mem") .new) (.cons (.loc (by walk_at"mem") (.there ca .new)) .nil))
   exact .pair (.cons (.loc (by walk_at"mem") .here) (.cons (.loc (by walk_at"mem") (.there ca .here)) .nil))
  case el11=>
   intro k v h hm
   have hs:=jc (H:=h) (okz hm).1 (okz hm).2
   have S:=S'
   exact(CG S sr Bo (AB (EL S M0) (EL S M1)) (hs.cl))
  case cm11=>
  refine ff (d:=.list ((de ks os).map PyData.str)) (dT ?_) (dT (cF (k.get hT J8))) (lb _ sU) ?_
  ·rw[show(de ks os).map V.str=(ks.zip os).map fun p=>V.str (fk p.1 p.2) from by simp[de]];exact aB
  exact vk
 case rest11=>
 intro H11 k11
 replace hK:=k11.get hK J8
 replace hV:=k11.get hV J8
 replace hT:=k11.get hT J8
 obtain⟨v,H12,h12,rfl,k12⟩:=o6 (H:=H11) hK hV hks hos (hol▸hn) (hkl▸hn)
 replace hT:=k12.get hT J8
 have E12:=(E10.k0 k11).k0 k12
 clear hK hV E10 k11 k12 zz okz dT
 refine mO (Q:=fun H'=>Kp [] H12 H') ?t12 ?rest12
 case t12=>
  by_cases e:os=[]
  ·have eT:de ks os=[]:=by simp[de,e]
   rw[eT] at hT
   have hcm:Cm GG 26 .NotEq (.obj tp) (.obj H12.length) (H12++[O.list []]) false:=uL (cF hT) aB
   have cn:(yC ks os != J0 "nothing")=false:=by unfold yC;rw[if_pos e];exact bne_self_eq_false _
   exact⟨_,(lr (gb (CG S lu DB (AB (EL S M4) (EL S M5)) (h12.cl)) (aj (k:=false) (TC (EL S M6) (Ev.list ap.nil (bG rfl)) (by assumption)) aa) cy) cn),Kp.app⟩
  have hne:de ks os≠[]:=by
   intro h
   have h1:(ks.zip os).length=os.length:=by rw[List.length_zip,hkl,hol];exact Nat.min_self n
   have h2:(de ks os).length=0:=by rw[h];rfl
   unfold de at h2
   rw[K8,h1] at h2
   exact e (List.length_eq_zero_iff.mp h2)
  have hcm:Cm GG 26 .NotEq (.obj tp) (.obj H12.length) (H12++[O.list []]) true:=sJ (cF hT) aB hne sU
  have hlen:(de ks os).length≤3:=by unfold de;rw[K8,List.length_zip];exact J7 (Nat.min_le_left _ _) (hkl▸hn)
  have hj:=Cl.join (G:=GG) (x:=J0 ", ") (cF (l:=[O.list []]) hT) (qq hlen (by
   intro t ht
   obtain⟨p,hp,rfl⟩:=V9.mp ht
   have hm2:=List.of_mem_zip hp
   exact pX (hks _ hm2.1) (hos _ hm2.2)))
  have cn:(yC ks os != Txt.join (J0 ", ") (de ks os))=false:=by unfold yC;rw[if_neg e];exact bne_self_eq_false _
  exact⟨_,(lr (gb (CG S lu DB (AB (EL S M4) (EL S M5)) (h12.cl)) (aj (k:=true) (TC (EL S M6) (Ev.list ap.nil (bG rfl)) (by assumption)) (au aa (Gm.str PySem.GM.join) trivial (AA (EL S M6)) (hj))) cy) cn),Kp.app⟩
 case rest12=>
 intro H13 k13
 have E13:=E12.k0 k13
 clear k13 E12 h12 hT hks hos
 refine qQ S (ap.cons aa (ap.cons aa (ap.cons aa (ap.cons aa (ap.cons aa (ap.cons aa ap.nil (af rfl)) (af rfl)) (af rfl)) (af rfl)) (af rfl)) (af rfl)) (bG rfl) (by walk_at"mem") (.there (lU) (.there (jC) (.there (pd) (.there (nX) (.there (nV) (.there (lO) (.there (pc) .new))))))) ?_
 refine cN fun H14 e14=>?_
 have hW:H14[H13.length]?=some (.list (fj.map V.str)):=by rw[e14];exact aB
 have E14:E0 8 H14:=by rw[e14];exact E13.k0 Kp.app
 have lw:=E13.lT
 generalize H13.length=wp at *
 clear e14 E13
 clear H13
 have nw:wp∉[8]:=ef (W5 lw)
 have cT:=E14.cT
 obtain⟨x1,Ha,ha,ka,Ea⟩:=E14.nx
 have hWa:=ka.get hW nw
 have f1:=dY (x:=x1) (m:=6) (by decide)
 obtain⟨near,gn,mn⟩:=sS (j:=(x1.fmod 6).toNat) (tn (k:=6) f1.2)
 have cT2:=Ea.cT
 obtain⟨x2,Hb,hb,kb,Eb⟩:=Ea.nx
 have hWb:=kb.get hWa nw
 have f2:=dY (x:=x2+1) (m:=6) (by decide)
 obtain⟨far,gf,mf⟩:=sS (j:=((x2+1).fmod 6).toNat) (tn (k:=6) f2.2)
 have lz:∀ {w},w∈fj→w.length≤J5:=fun {w} h=>by
  exact cQ (of_decide_eq_true (W8.mp xk w h))
 have zn:=lz mn
 have zf:=lz mf
 refine cv (iH S (AB (Ev.item (EL S M7) (ak (CG S bc fG (AA (EC S)) (ha.cl)) ac (cB (by lia))) (by first | exact(bE.list hWa f1.1 (BW f1.2) gn) | exact(bE.list hWb f2.1 (BW f2.2) gf))) (Ev.item (EL S M7) (ak (ak (CG S bc fG (AA (EC S)) (hb.cl)) ac dq) ac (cB (by lia))) (by first | exact(bE.list hWa f1.1 (BW f1.2) gn) | exact(bE.list hWb f2.1 (BW f2.2) gf)))) (.cons (SL (hst:=(.there (pu) (.there (mj) (.there (tm) (.there (rF) (.there (rD) (.there (pb) (.there (ti) (.there (rk) .new)))))))))) (.cons (SL (hst:=(.there (nS) (.there (kt) (.there (rr) (.there (pC) (.there (pA) (.there (nE) (.there (rm) (.there (o8) (.there (tD) .new))))))))))) .nil)) (hw:=SW)) ?_
 refine cv (NM S (CB S FN Gl Et (AB (CB S aM aN aA (AA (EL S M9)) (ez zn)) (CB S aM aN aA (AA (EL S M8)) (ez zf))) (EP))) ?_
 have ht:=xv (H:=Hb++[O.tup [.str near,.str far]]) (why:=near) (text:=far)
 refine d6 (Es.ret (Ex.ret (bo (CG S uv F4 (AB (EL S M9) (EL S M8)) (ht.cl)) (bo (bJ (EL S M9) a9 (aZ (EL S sP)) (by assumption)) (bJ (EL S M8) a9 (aZ (EL S sP)) (by assumption)) ae) EO))) (hP _ _ ⟨congrArg V.bool (za mn mf),?_⟩)
 have Ec:=Eb.k0 (Kp.app (l:=[O.tup [.str near,.str far]]))
 exact⟨Ec.t0.imp fun _ h=>h.1,Ec.t1.imp fun _ h=>h.1⟩
theorem FO:∀ P,nsIn (Y6 P) J3 "law" = some (some (.ref 518)):=by intro P;kernel_rfl
theorem zi:∀ {vs:List Value} {ns:List Int},IntsAre vs ns→bq [] (ns.map V.int) vs:=fun h=>by
 induction h with
 | nil=>trivial
 | cons _ _ _ ih=>exact⟨⟨_,rfl⟩,ih⟩
theorem vE{cw:ClaimW}{cl:Str→Option Addr}{mean:ExcName→Option Value}{args:List WData}{s₁ s':Shared}{k1 t1 k2 t2:Addr}(hT:TabsAt [(k1,t1),(k2,t2)] s₁.heap)
  (hr:∀ x,cw.raises args x=false) (hp:cw.post args (.bool true) args=true)
  (hk:∀ b o,(ghostOf s₁.heap [(k1,t1),(k2,t2)]).get? b=some o→s'.heap.get? b=some o) (g1:GrownAt t1 s'.heap) (g2:GrownAt t2 s'.heap) (hg:s'.gens=s₁.gens) (hos:s'.os=s₁.os) (hg1:s₁.gens=#[]) :
  GoodWG cw cl mean args s₁ (.ok (.ret (.bool true))) s':=by
 have tab:∀ b,(∃ k,(k,b)∈[(k1,t1),(k2,t2)])→isCodeTable s₁.heap b∧s₁.heap.get? b=some (tabObj #[])∧∃ ps,s'.heap.get? b=some (tabObj ps):=by
  rintro b ⟨k,hb⟩
  have h1:=hT _ hb
  refine⟨(h1.1.tab h1.2).isCodeTable,h1.2,?_⟩
  simp only[K2,J8,or_false] at hb
  rcases hb with e | e <;> cases e
  ·exact g1
  exact g2
 have dec:∀ b o,s₁.heap.get? b=some o→(∃ k,(k,b)∈[(k1,t1),(k2,t2)])∨s'.heap.get? b=some o:=fun b o e=>by
  by_cases hb:b∈[(k1,t1),(k2,t2)].map (·.2)
  ·obtain⟨q,hq,rfl⟩:=V9.mp hb
   exact .inl ⟨q.1,hq⟩
  exact .inr (hk b o (ghost_ne e hb))
 refine⟨.inl ⟨_,.bool true,[],rfl,hr,.bool true,hp,fun _=>⟨V7,fun a h=>nomatch h⟩⟩,⟨fun b o e=>?_,fun b o e=>?_⟩,hos,.of_eq (hg.trans hg1)⟩
 ·rcases dec b o e with h | h
  ·obtain⟨q1,q2,ps,q3⟩:=tab b h
   rw[e] at q2
   cases q2
   exact .inr (.inl ⟨q1,rfl,#[],ps,rfl,by rw[Array.empty_append];exact q3⟩)
  exact .inl h
 rcases dec b o e with h | h
 ·obtain⟨_,_,ps,q3⟩:=tab b h
  exact⟨_,q3⟩
 exact⟨_,h⟩
set_option tactic.hygienic true in
theorem fin_law:PySem.Challenge.rw_nm0146_01.Holds:=by
 refine hd ?_
 intro w s₀ s₁ mg mb G Y fa o pm cd doc dV kV ho hd' hcd hD hmg hg args vals as hpre hlay hrd hwl hlo
 have X:=km_in_of Y
 have hT8:=km_tabs_of Y
 have T:=G.T
 have efa:fa=518:=by
  have z:=mg_of X T.g (FO w.params)
  have e:(some (Value.ref fa):Option Value)=some (.ref 518):=hmg.symm.trans z
  cases e;rfl
 subst efa
 clear hd' hcd hD Y hmg
 have hT:TabsAt [(512,508),(517,515)] s₁.heap:=by
  intro q hq
  simp only[K2,J8,or_false] at hq
  rcases hq with rfl | rfl
  ·exact⟨codeHd_of_K X (wy _),hT8 508 (by simp)⟩
  exact⟨codeHd_of_K X (wx _),hT8 515 (by simp)⟩
 refine Dt fun P hP=>?_
 wrow_args hpre hlay hrd hwl hlo
 rename_i ns hs hl1 hl2 hr1 hl3 as1 as2 A vs as3 hL ra w1 r0 hI hr2 hc1 hc2
 refine hP ?_
 clear hP
 refine ju (vQ (Ap hT X T hL (zi hI) (by lia)) fun f s' hh=>?_)
 obtain⟨rfl,hk,g1,g2,hg',hos⟩:=hh
 refine vE hT (raisesW_false (by wrow_none_raised)) ?_ hk g1 g2 hg' hos hg
 wrow_post
end Internal
end Mine
theorem PySem.Challenge.cw_nm0146_01_holds : PySem.Challenge.rw_nm0146_01.Holds :=
 Mine.Internal.fin_law
